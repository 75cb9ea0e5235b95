import PyProof.Rows.All
import Wide.All
import OpenK.AllK
import Wide.FinOn
import HandS.ForMost
import HandS.TupAny
import HandS.IsInst
import HandS.Flow
import HandS.More
import HandS.Conv
import HandS.Zip
import HandS.Walk
import HandS.Wide
import HandS.Style
import HandS.Deep
import PyProof.P3In
import PyProof.Rows.InDataRows
import HandS.TupMul
import HandS.SortInts
import PyProof.AutoSeq1
import KE.GoesEnum
import KE.GoesMore
import KE.KDictZip
import HandS.SetFor
import HandS.Strs
import KE.KRevSl
import HandS.TryOnly
import HandS.Exc
import HandS.ExcOwn
import HandS.WordsExc
import HandS.ExcIs
import PySem.Challenge.RW_taxbands_k69_whole_uses_that_even_out
set_option Elab.async false
set_option linter.all false
set_option maxRecDepth 100000
set_option maxHeartbeats 4000000
/-! EngA: data without addresses, how it lies in the abstract heap, the small language and its weakest preconditions. -/
namespace TB
open PySem PySem.Spec PyProof.Rows L2

inductive D where
  | non | bl (b : Bool) | int (i : Int) | str (s : Str)
  | tup (ds : List D) | lst (a : Addr) | scr (a : Addr) (ns : List Int)

abbrev Mem := Addr → Option (List D)
def Mem.up (M : Mem) (a : Addr) (ds : List D) : Mem := fun b => if b = a then some ds else M b
theorem up_same {M : Mem} {a : Addr} {ds : List D} : M.up a ds a = some ds := if_pos rfl
theorem up_ne {M : Mem} {a b : Addr} {ds : List D} (h : b ≠ a) : M.up a ds b = M b := if_neg h

/-- the script: a list that nobody writes -/
def SqF (K : PySem.W.Frag) (H : Hp) (a : Addr) (xs : List V) : Prop :=
  (∃ o, H a = some (.frz o (.lst xs))) ∨
    ∃ (o : Obj) (its : Array Value) (n : Nat), K.lookup a = some o ∧ o.cls = .type "list" ∧ o.dict = none ∧ o.data = .seq its n ∧ its.size ≤ sizeLine ∧ Vals xs its.toList
theorem SqF.sq {K : PySem.W.Frag} {H : Hp} {a : Addr} {xs : List V} (h : SqF K H a xs) : SqL K H a xs := by
  rcases h with ⟨o, h⟩ | h
  · exact .inl (.inr ⟨o, h⟩)
  · exact .inr h

mutual
def Rep (K : PySem.W.Frag) (H : Hp) : D → V → Prop
  | .non, v => v = .non
  | .bl b, v => v = .bl b
  | .int i, v => v = .int i
  | .str s, v => v = .str s
  | .tup ds, v => ∃ a xs, v = .ref a ∧ SqT K H a xs ∧ RepL K H ds xs ∧ ds.length ≤ sizeLine
  | .lst a, v => v = .ref a
  | .scr a ns, v => v = .ref a ∧ SqF K H a (ns.map V.int)
def RepL (K : PySem.W.Frag) (H : Hp) : List D → List V → Prop
  | [], xs => xs = []
  | d :: ds, xs => ∃ x r, xs = x :: r ∧ Rep K H d x ∧ RepL K H ds r
end

def RepM (K : PySem.W.Frag) (H : Hp) (M : Mem) : Prop := ∀ a ds, M a = some ds → ∃ xs, H a = some (.lst xs) ∧ RepL K H ds xs ∧ ds.length ≤ sizeLine

structure Step (M : Mem) (H : Hp) (M' : Mem) (H' : Hp) : Prop where
  tup : ∀ a xs, H a = some (.tup xs) → H' a = some (.tup xs)
  frz : ∀ a o u, H a = some (.frz o u) → H' a = some (.frz o u)
  lst : ∀ a xs, M a = none → H a = some (.lst xs) → H' a = some (.lst xs)
  dom : ∀ a o, M a = none → H a = some o → M' a = none
  live : ∀ a o, H a = some o → ∃ o', H' a = some o'

theorem Step.refl {M : Mem} {H : Hp} : Step M H M H := ⟨fun _ _ h => h, fun _ _ _ h => h, fun _ _ _ h => h, fun _ _ h _ => h, fun _ o h => ⟨o, h⟩⟩
theorem Step.trans {M M1 M2 : Mem} {H H1 H2 : Hp} (s : Step M H M1 H1) (t : Step M1 H1 M2 H2) : Step M H M2 H2 :=
  ⟨fun a xs h => t.tup a xs (s.tup a xs h), fun a o u h => t.frz a o u (s.frz a o u h), fun a xs hm h => t.lst a xs (s.dom a _ hm h) (s.lst a xs hm h),
    fun a o hm h => let ⟨o', h'⟩ := s.live a o h; t.dom a o' (s.dom a o hm h) h', fun a o h => let ⟨o', h'⟩ := s.live a o h; t.live a o' h'⟩

section
variable {K : PySem.W.Frag} {M M' : Mem} {H H' : Hp}
/-- what data leans on -/
structure Keep (H H' : Hp) : Prop where
  tup : ∀ a xs, H a = some (.tup xs) → H' a = some (.tup xs)
  frz : ∀ a o u, H a = some (.frz o u) → H' a = some (.frz o u)
theorem Step.keep (s : Step M H M' H') : Keep H H' := ⟨s.tup, s.frz⟩
theorem Keep.sqT (s : Keep H H') {a : Addr} {xs : List V} (h : SqT K H a xs) : SqT K H' a xs := by
  rcases h with (h | ⟨o, h⟩) | h
  · exact .inl (.inl (s.tup _ _ h))
  · exact .inl (.inr ⟨o, s.frz _ _ _ h⟩)
  · exact .inr h
theorem Keep.sqF (s : Keep H H') {a : Addr} {xs : List V} (h : SqF K H a xs) : SqF K H' a xs := by
  rcases h with ⟨o, h⟩ | h
  · exact .inl ⟨o, s.frz _ _ _ h⟩
  · exact .inr h
mutual
theorem Rep.keep (s : Keep H H') : ∀ (d : D) (v : V), Rep K H d v → Rep K H' d v
  | .non, _, h => h
  | .bl _, _, h => h
  | .int _, _, h => h
  | .str _, _, h => h
  | .tup ds, v, h => by
    obtain ⟨a, xs, e, q, r, z⟩ := h
    exact ⟨a, xs, e, s.sqT q, RepL.keep s ds xs r, z⟩
  | .lst _, _, h => h
  | .scr _ _, _, h => ⟨h.1, s.sqF h.2⟩
theorem RepL.keep (s : Keep H H') : ∀ (ds : List D) (xs : List V), RepL K H ds xs → RepL K H' ds xs
  | [], _, h => h
  | d :: ds, xs, h => by
    obtain ⟨x, r, e, q, t⟩ := h
    exact ⟨x, r, e, Rep.keep s d x q, RepL.keep s ds r t⟩
end
theorem RepL.length : ∀ {ds : List D} {xs : List V}, RepL K H ds xs → ds.length = xs.length
  | [], _, h => by cases h; rfl
  | d :: ds, xs, h => by
    obtain ⟨x, r, rfl, _, t⟩ := h
    simp [RepL.length t]
theorem RepL.get : ∀ {ds : List D} {xs : List V} {i : Nat} {d : D}, RepL K H ds xs → ds[i]? = some d → ∃ x, xs[i]? = some x ∧ Rep K H d x
  | [], _, _, _, _, e => by simp at e
  | d :: ds, xs, 0, _, h, e => by
    obtain ⟨x, r, rfl, q, _⟩ := h
    simp at e; subst e
    exact ⟨x, rfl, q⟩
  | d :: ds, xs, i + 1, _, h, e => by
    obtain ⟨x, r, rfl, _, t⟩ := h
    simpa using RepL.get (i := i) t (by simpa using e)
theorem RepL.app : ∀ {ds es : List D} {xs ys : List V}, RepL K H ds xs → RepL K H es ys → RepL K H (ds ++ es) (xs ++ ys)
  | [], _, _, _, h, q => by cases h; simpa using q
  | d :: ds, es, xs, ys, h, q => by
    obtain ⟨x, r, rfl, a, t⟩ := h
    exact ⟨x, r ++ ys, rfl, a, RepL.app t q⟩
theorem RepL.take : ∀ {ds : List D} {xs : List V} (n : Nat), RepL K H ds xs → RepL K H (ds.take n) (xs.take n)
  | _, _, 0, _ => by simp [RepL]
  | [], _, _ + 1, h => by cases h; simp [RepL]
  | d :: ds, xs, n + 1, h => by
    obtain ⟨x, r, rfl, a, t⟩ := h
    exact ⟨x, r.take n, rfl, a, RepL.take n t⟩
theorem RepL.drop : ∀ {ds : List D} {xs : List V} (n : Nat), RepL K H ds xs → RepL K H (ds.drop n) (xs.drop n)
  | _, _, 0, h => h
  | [], _, _ + 1, h => by cases h; simp [RepL]
  | d :: ds, xs, n + 1, h => by
    obtain ⟨x, r, rfl, a, t⟩ := h
    exact RepL.drop n t
theorem RepL.set : ∀ {ds : List D} {xs : List V} (n : Nat) {d : D} {x : V}, RepL K H ds xs → Rep K H d x → RepL K H (ds.set n d) (xs.set n x)
  | [], _, _, _, _, h, _ => by cases h; simp [RepL]
  | d :: ds, xs, 0, _, y, h, q => by
    obtain ⟨x, r, rfl, a, t⟩ := h
    exact ⟨y, r, rfl, q, t⟩
  | d :: ds, xs, n + 1, _, _, h, q => by
    obtain ⟨x, r, rfl, a, t⟩ := h
    exact ⟨x, r.set n _, rfl, a, RepL.set n t q⟩
theorem RepL.erase : ∀ {ds : List D} {xs : List V} (n : Nat), RepL K H ds xs → RepL K H (ds.eraseIdx n) (xs.eraseIdx n)
  | [], _, _, h => by cases h; simp [RepL]
  | d :: ds, xs, 0, h => by
    obtain ⟨x, r, rfl, a, t⟩ := h
    exact t
  | d :: ds, xs, n + 1, h => by
    obtain ⟨x, r, rfl, a, t⟩ := h
    exact ⟨x, r.eraseIdx n, rfl, a, RepL.erase n t⟩
theorem RepL.dropLast : ∀ {ds : List D} {xs : List V}, RepL K H ds xs → RepL K H ds.dropLast xs.dropLast := by
  intro ds xs h
  rw [List.dropLast_eq_take, List.dropLast_eq_take, h.length]
  exact h.take _
theorem RepL.one {d : D} {xs : List V} (h : RepL K H [d] xs) : ∃ x, xs = [x] ∧ Rep K H d x := by
  obtain ⟨x, r, rfl, q, t⟩ := h
  cases t
  exact ⟨x, rfl, q⟩
theorem RepL.two {d e : D} {xs : List V} (h : RepL K H [d, e] xs) : ∃ x y, xs = [x, y] ∧ Rep K H d x ∧ Rep K H e y := by
  obtain ⟨x, r, rfl, q, t⟩ := h
  obtain ⟨y, rfl, q2⟩ := t.one
  exact ⟨x, y, rfl, q, q2⟩
theorem RepL.ints : ∀ {ns : List Int}, RepL K H (ns.map D.int) (ns.map V.int)
  | [] => rfl
  | n :: ns => ⟨_, _, rfl, rfl, RepL.ints⟩
theorem RepL.ints_eq : ∀ {ns : List Int} {xs : List V}, RepL K H (ns.map D.int) xs → xs = ns.map V.int
  | [], _, h => h
  | n :: ns, _, h => by
    obtain ⟨x, r, rfl, q, t⟩ := h
    cases q
    rw [RepL.ints_eq t]; rfl
theorem RepL.bls_eq : ∀ {bs : List Bool} {xs : List V}, RepL K H (bs.map D.bl) xs → xs = bs.map V.bl
  | [], _, h => h
  | n :: ns, _, h => by
    obtain ⟨x, r, rfl, q, t⟩ := h
    cases q
    rw [RepL.bls_eq t]; rfl

/-- a new object at p -/
theorem keep_new {p : Addr} {o : HO} (hp : H p = none) : Keep H (upd H p o) :=
  ⟨fun a xs h => by rw [upd_ne (ne_of_none h hp)]; exact h, fun a u w h => by rw [upd_ne (ne_of_none h hp)]; exact h⟩
theorem RepM.free (m : RepM K H M) {p : Addr} (hp : H p = none) : M p = none := by
  cases e : M p with
  | none => rfl
  | some ds => obtain ⟨xs, h, _⟩ := m p ds e; rw [hp] at h; cases h
theorem RepM.new (m : RepM K H M) {p : Addr} {o : HO} (hp : H p = none) : RepM K (upd H p o) M := fun a ds e => by
  obtain ⟨xs, h, r, z⟩ := m a ds e
  exact ⟨xs, by rw [upd_ne (ne_of_none h hp)]; exact h, r.keep (keep_new hp), z⟩
theorem step_new (m : RepM K H M) {p : Addr} {o : HO} (hp : H p = none) : Step M H M (upd H p o) :=
  ⟨(keep_new hp).tup, (keep_new hp).frz, fun a xs _ h => by rw [upd_ne (ne_of_none h hp)]; exact h, fun _ _ h _ => h,
    fun a o' h => ⟨o', by rw [upd_ne (ne_of_none h hp)]; exact h⟩⟩
theorem RepM.newL (m : RepM K H M) {p : Addr} {ds : List D} {xs : List V} (hp : H p = none) (r : RepL K H ds xs) (hz : ds.length ≤ sizeLine) : RepM K (upd H p (.lst xs)) (M.up p ds) := fun a es e => by
  by_cases ha : a = p
  · subst ha
    rw [up_same] at e; cases e
    exact ⟨xs, upd_same, r.keep (keep_new hp), hz⟩
  · rw [up_ne ha] at e
    obtain ⟨ys, h, q, z⟩ := m a es e
    exact ⟨ys, by rw [upd_ne ha]; exact h, q.keep (keep_new hp), z⟩
theorem step_newL (m : RepM K H M) {p : Addr} {ds : List D} {xs : List V} (hp : H p = none) : Step M H (M.up p ds) (upd H p (.lst xs)) :=
  ⟨(keep_new hp).tup, (keep_new hp).frz, fun a xs _ h => by rw [upd_ne (ne_of_none h hp)]; exact h, fun a o h ho => by rw [up_ne (ne_of_none ho hp)]; exact h,
    fun a o' h => ⟨o', by rw [upd_ne (ne_of_none h hp)]; exact h⟩⟩
/-- a list written -/
theorem keep_wr {p : Addr} {xs ys : List V} (hp : H p = some (.lst xs)) : Keep H (upd H p (.lst ys)) :=
  ⟨fun a zs h => by rw [upd_ne (fun e => by subst e; rw [hp] at h; cases h)]; exact h, fun a u w h => by rw [upd_ne (fun e => by subst e; rw [hp] at h; cases h)]; exact h⟩
theorem RepM.wr (m : RepM K H M) {p : Addr} {ds : List D} {xs ys : List V} (hp : H p = some (.lst xs)) (r : RepL K H ds ys) (hz : ds.length ≤ sizeLine) : RepM K (upd H p (.lst ys)) (M.up p ds) := fun a es e => by
  by_cases ha : a = p
  · subst ha
    rw [up_same] at e; cases e
    exact ⟨ys, upd_same, r.keep (keep_wr hp), hz⟩
  · rw [up_ne ha] at e
    obtain ⟨zs, h, q, z⟩ := m a es e
    exact ⟨zs, by rw [upd_ne ha]; exact h, q.keep (keep_wr hp), z⟩
theorem step_wr {p : Addr} {ds0 ds : List D} {xs ys : List V} (hm : M p = some ds0) (hp : H p = some (.lst xs)) : Step M H (M.up p ds) (upd H p (.lst ys)) :=
  ⟨(keep_wr hp).tup, (keep_wr hp).frz, fun a zs hn h => by rw [upd_ne (fun e => by subst e; rw [hm] at hn; cases hn)]; exact h,
    fun a o hn h => by rw [up_ne (fun e => by subst e; rw [hm] at hn; cases hn)]; exact hn,
    fun a o' h => by
      by_cases ha : a = p
      · subst ha; exact ⟨_, upd_same⟩
      · exact ⟨o', by rw [upd_ne ha]; exact h⟩⟩
end
end TB

namespace TB
open PySem PySem.Spec PyProof.Rows L2

abbrev En := List (Option D)
def get : En → Nat → Option D
  | [], _ => none
  | x :: _, 0 => x
  | _ :: r, n + 1 => get r n
def put : En → Nat → D → En
  | [], _, _ => []
  | _ :: r, 0, d => some d :: r
  | x :: r, n + 1, d => x :: put r n d
def clr : En → Nat → En
  | [], _ => []
  | _ :: r, 0 => none :: r
  | x :: r, n + 1 => x :: clr r n
def wipeE (ρ : En) : List Nat → En
  | [] => ρ
  | v :: vs => clr (wipeE ρ vs) v

inductive Bin | add | sub | mul | fdiv | mod | pow
inductive Cm | lt | le | gt | ge | eq | ne | isN | notN | inn | notIn
inductive Ty | int | bool | str | tuple | list
inductive Bf | len | abs | tuple | list | all | any | int | isT (t : Ty) | sum | sset | rev | str | min | max | srt
inductive Mf | append | insert | popAt | pop | extend | index

mutual
inductive E
  | var (i : Nat) | cst (d : D)
  | bin (op : Bin) (a b : E) | cmp (op : Cm) (a b : E) | chn (o1 o2 : Cm) (a b c : E) | chn3 (o1 o2 o3 : Cm) (a b c d : E)
  | and (a b : E) | or (a b : E) | not (a : E) | neg (a : E) | ite (c a b : E)
  | tup (es : Es) | lst (es : Es)
  | call (g : Nat) (es : Es) | bfn (b : Bf) (es : Es) | mth (m : Mf) (o : E) (es : Es)
  | ix (a b : E) | sl (a : E) (lo hi : O)
  | comp (elt : E) (t : T) (it : I) (c : C) (own : List Nat)
  | comp2 (elt : E) (t : T) (it : I) (c : C) (t1 : T) (it1 : I) (c1 : C) (own own1 : List Nat)
  | stuck
inductive Es
  | nil | cons (e : E) (es : Es)
inductive O
  | no | yes (e : E)
inductive C
  | no | yes (e : E)
inductive T
  | nm (i : Nat) | tp (ts : Ts) | ix (o i : E)
inductive Ts
  | nil | cons (t : T) (ts : Ts)
inductive I
  | seq (e : E) | rng1 (a : E) | rng2 (a b : E) | enum (e : E) | zip (a b : E) | ezip (a b : E)
end
mutual
inductive S
  | asg (t : T) (e : E) | par (i j : Nat) (a b : E) | aug (i : Nat) (op : Bin) (e : E) | expr (e : E) | ret (e : E) | retN
  | ite (c : E) (a b : Ss) | whl (c : E) (b : Ss) | for_ (t : T) (it : I) (b : Ss)
  | brk | cont | pass | stuck
inductive Ss
  | nil | cons (s : S) (ss : Ss)
end

def Ts.len : Ts → Nat
  | .nil => 0
  | .cons _ r => r.len + 1
/-! ### what operators do -/
mutual
def D.depth : D → Nat
  | .tup ds => D.depthL ds + 1
  | _ => 0
def D.depthL : List D → Nat
  | [] => 0
  | d :: ds => max (D.depth d) (D.depthL ds)
end
mutual
/-- no list within -/
def D.pure : D → Bool
  | .lst _ => false
  | .scr _ _ => false
  | .tup ds => D.pureL ds
  | .str s => PyData.strOk s
  | _ => true
def D.pureL : List D → Bool
  | [] => true
  | d :: ds => D.pure d && D.pureL ds
end
mutual
/-- == as Python has it -/
def deq : D → D → Bool
  | .non, e => match e with | .non => true | _ => false
  | .bl a, e => match e with | .bl b => a == b | .int j => (if a then 1 else 0) == j | _ => false
  | .int i, e => match e with | .int j => i == j | .bl b => i == (if b then 1 else 0) | _ => false
  | .str x, e => match e with | .str y => x == y | _ => false
  | .tup xs, e => match e with | .tup ys => deqL xs ys | _ => false
  | .lst _, _ => false
  | .scr _ _, _ => false
def deqL : List D → List D → Bool
  | [], ys => match ys with | [] => true | _ => false
  | x :: xs, ys => match ys with | y :: ys => deq x y && deqL xs ys | _ => false
end
def D.isNon : D → Bool
  | .non => true
  | _ => false
def D.flat : D → Bool
  | .non | .bl _ | .int _ | .str _ => true
  | _ => false
def tru (M : Mem) : D → Option Bool
  | .non => some false
  | .bl b => some b
  | .int i => some (i != 0)
  | .str s => if s.length ≤ sizeLine then some ((s.length : Int) != 0) else none
  | .tup ds => some (!ds.isEmpty)
  | .lst a => (M a).map fun ds => !ds.isEmpty
  | .scr _ _ => none

/-- a divisor not too great -/
def DvOk (j : Int) : Prop := j.natAbs.log2 < 9000
abbrev K1 := D → Mem → Prop
def binW (op : Bin) (x y : D) (M : Mem) (q : K1) : Prop :=
  match op, x, y with
  | .add, .int i, .int j => q (.int (i + j)) M
  | .sub, .int i, .int j => q (.int (i - j)) M
  | .mul, .int i, .int j => IntMulOk i j ∧ q (.int (i * j)) M
  | .fdiv, .int i, .int j => (j ≠ 0 ∧ DvOk j) ∧ q (.int (i.fdiv j)) M
  | .mod, .int i, .int j => j ≠ 0 ∧ q (.int (i.fmod j)) M
  | .pow, .int i, .int j => (0 ≤ j ∧ j ≤ 1000000 ∧ i.natAbs < 2 ^ 64) ∧ q (.int (i ^ j.toNat)) M
  | .add, .str a, .str b => a.length + b.length ≤ sizeLine ∧ q (.str (a ++ b)) M
  | .add, .tup a, .tup b => a.length + b.length ≤ sizeLine ∧ q (.tup (a ++ b)) M
  | .add, .lst a, .lst b => ∃ xs ys, M a = some xs ∧ M b = some ys ∧ xs.length + ys.length ≤ sizeLine ∧ ∀ p, M p = none → q (.lst p) (M.up p (xs ++ ys))
  | .mul, .lst a, .int j => ∃ xs, M a = some xs ∧ (0 ≤ j ∧ j ≤ 1000 ∧ xs.length ≤ 1000) ∧ ∀ p, M p = none → q (.lst p) (M.up p (List.replicate j.toNat xs).flatten)
  | .mul, .tup a, .int j => (1 ≤ j ∧ j ≤ 1000 ∧ a.length ≤ 1000) ∧ q (.tup (List.replicate j.toNat a).flatten) M
  | _, _, _ => False
def augW (op : Bin) (x y : D) (M : Mem) (q : K1) : Prop :=
  match op, x, y with
  | .add, .int i, .int j => q (.int (i + j)) M
  | .sub, .int i, .int j => q (.int (i - j)) M
  | .mul, .int i, .int j => IntMulOk i j ∧ q (.int (i * j)) M
  | .add, .str a, .str b => a.length + b.length ≤ sizeLine ∧ q (.str (a ++ b)) M
  | .add, .lst a, .lst b => ∃ xs ys, M a = some xs ∧ M b = some ys ∧ xs.length + ys.length ≤ sizeLine ∧ q (.lst a) (M.up a (xs ++ ys))
  | _, _, _ => False
def eqW (x y : D) (M : Mem) (q : Bool → Prop) : Prop :=
  match x, y with
  | .lst a, .lst b => ∃ xs ys, M a = some xs ∧ M b = some ys ∧ (D.pureL xs = true ∧ D.pureL ys = true ∧ D.depthL xs ≤ 60 ∧ D.depthL ys ≤ 60) ∧ q (deqL xs ys)
  | x, y => (x.pure = true ∧ y.pure = true ∧ x.depth ≤ 60 ∧ y.depth ≤ 60) ∧ q (deq x y)
def inOk (x : D) (ys : List D) : Prop := x.pure = true ∧ D.pureL ys = true ∧ x.depth ≤ 60 ∧ D.depthL ys ≤ 60
def inW (x y : D) (M : Mem) (q : Bool → Prop) : Prop :=
  match y with
  | .tup ys => inOk x ys ∧ q (ys.any fun z => deq z x)
  | .lst a => ∃ ys, M a = some ys ∧ inOk x ys ∧ q (ys.any fun z => deq z x)
  | _ => False
def cmpW (op : Cm) (x y : D) (M : Mem) (q : Bool → Prop) : Prop :=
  match op with
  | .lt => match x, y with | .int i, .int j => q (decide (i < j)) | _, _ => False
  | .le => match x, y with | .int i, .int j => q (decide (i ≤ j)) | _, _ => False
  | .gt => match x, y with | .int i, .int j => q (decide (j < i)) | _, _ => False
  | .ge => match x, y with | .int i, .int j => q (decide (j ≤ i)) | _, _ => False
  | .eq => eqW x y M q
  | .ne => eqW x y M fun b => q (!b)
  | .isN => match y with | .non => q x.isNon | .bl b => (match x with | .bl a => q (decide (a = b)) | _ => False) | _ => False
  | .notN => match y with | .non => q (!x.isNon) | .bl b => (match x with | .bl a => q (!decide (a = b)) | _ => False) | _ => False
  | .inn => inW x y M q
  | .notIn => inW x y M fun b => q (!b)
def ixD (ds : List D) (i : Int) : Option D := atI ds i
def ixW (x y : D) (M : Mem) (q : K1) : Prop :=
  match x, y with
  | .tup ds, .int i => ∃ d, atI ds i = some d ∧ q d M
  | .lst a, .int i => ∃ ds d, M a = some ds ∧ atI ds i = some d ∧ q d M
  | .str s, .int i => ∃ c, s.length ≤ sizeLine ∧ atI s.cps.toList i = some c ∧ q (.str ⟨#[c]⟩) M
  | _, _ => False
def cutD {α : Type} (xs : List α) (lo hi : Option Int) : List α := (xs.drop (HT.sIx xs.length 0 lo)).take (HT.sIx xs.length xs.length hi - HT.sIx xs.length 0 lo)
def slW (x : D) (lo hi : Option Int) (M : Mem) (q : K1) : Prop :=
  match x with
  | .tup ds => q (.tup (cutD ds lo hi)) M
  | .lst a => ∃ ds, M a = some ds ∧ ∀ p, M p = none → q (.lst p) (M.up p (cutD ds lo hi))
  | .scr _ ns => ns.length ≤ sizeLine ∧ ∀ p, M p = none → q (.lst p) (M.up p ((cutD ns lo hi).map D.int))
  | _ => False
def isTy : Ty → D → Bool
  | .int, .int _ => true
  | .int, .bl _ => true
  | .bool, .bl _ => true
  | .str, .str _ => true
  | .tuple, .tup _ => true
  | .list, .lst _ => true
  | _, _ => false
def blsOf : List D → Option (List Bool)
  | [] => some []
  | .bl b :: r => (blsOf r).map (b :: ·)
  | _ => none
def intsOf : List D → Option (List Int)
  | [] => some []
  | .int b :: r => (intsOf r).map (b :: ·)
  | _ => none
def lenW (xs : List D) (M : Mem) (q : K1) : Prop :=
  match xs with
  | [.tup ds] => q (.int ds.length) M
  | [.lst a] => ∃ ds, M a = some ds ∧ q (.int ds.length) M
  | [.str s] => s.length ≤ sizeLine ∧ q (.int s.length) M
  | [.scr _ ns] => q (.int ns.length) M
  | _ => False
def absW (xs : List D) (M : Mem) (q : K1) : Prop :=
  match xs with
  | [.int i] => q (.int i.natAbs) M
  | _ => False
def tupleW (xs : List D) (M : Mem) (q : K1) : Prop :=
  match xs with
  | [.tup ds] => q (.tup ds) M
  | [.lst a] => ∃ ds, M a = some ds ∧ q (.tup ds) M
  | _ => False
def listW (xs : List D) (M : Mem) (q : K1) : Prop :=
  match xs with
  | [.tup ds] => ∀ p, M p = none → q (.lst p) (M.up p ds)
  | [.lst a] => ∃ ds, M a = some ds ∧ ∀ p, M p = none → q (.lst p) (M.up p ds)
  | _ => False
def allW (xs : List D) (M : Mem) (q : K1) : Prop :=
  match xs with
  | [.lst a] => ∃ ds bs, M a = some ds ∧ blsOf ds = some bs ∧ q (.bl (bs.all id)) M
  | _ => False
def anyW (xs : List D) (M : Mem) (q : K1) : Prop :=
  match xs with
  | [.lst a] => ∃ ds bs, M a = some ds ∧ blsOf ds = some bs ∧ q (.bl (bs.any id)) M
  | _ => False
def intW (xs : List D) (M : Mem) (q : K1) : Prop :=
  match xs with
  | [.int i] => q (.int i) M
  | [.bl k] => q (.int (if k then 1 else 0)) M
  | _ => False
def sumW (xs : List D) (M : Mem) (q : K1) : Prop :=
  match xs with
  | [.lst a] => ∃ ds ns, M a = some ds ∧ intsOf ds = some ns ∧ q (.int ns.sum) M
  | _ => False
def ssetW (xs : List D) (M : Mem) (q : K1) : Prop :=
  match xs with
  | [.lst a] => ∃ ds ns, M a = some ds ∧ intsOf ds = some ns ∧ ns.length < 64 ∧ ∀ (ns' : List Int) p, ns'.Pairwise (· < ·) → (∀ k, k ∈ ns' ↔ k ∈ ns) → M p = none → q (.lst p) (M.up p (ns'.map D.int))
  | _ => False
def minW (xs : List D) (M : Mem) (q : K1) : Prop :=
  match xs with
  | [.lst a] => ∃ ds ns, M a = some ds ∧ intsOf ds = some ns ∧ 0 < ns.length ∧ ∀ m, m ∈ ns → (∀ y, y ∈ ns → m ≤ y) → q (.int m) M
  | [.int i, .int j] => q (.int (if j < i then j else i)) M
  | _ => False
def maxW (xs : List D) (M : Mem) (q : K1) : Prop :=
  match xs with
  | [.lst a] => ∃ ds ns, M a = some ds ∧ intsOf ds = some ns ∧ 0 < ns.length ∧ ∀ m, m ∈ ns → (∀ y, y ∈ ns → y ≤ m) → q (.int m) M
  | [.int i, .int j] => q (.int (if i < j then j else i)) M
  | _ => False
def srtW (xs : List D) (M : Mem) (q : K1) : Prop :=
  match xs with
  | [.lst a] => ∃ ds ns, M a = some ds ∧ intsOf ds = some ns ∧ ∀ (ns' : List Int) p, ns'.Perm ns → ns'.Pairwise (· ≤ ·) → M p = none → q (.lst p) (M.up p (ns'.map D.int))
  | _ => False
def revW (xs : List D) (M : Mem) (q : K1) : Prop :=
  match xs with
  | [.tup ds] => q (.tup ds.reverse) M
  | [.lst a] => ∃ ds, M a = some ds ∧ ∀ p, M p = none → q (.lst p) (M.up p ds.reverse)
  | _ => False
def strW (xs : List D) (M : Mem) (q : K1) : Prop :=
  match xs with
  | [.int i] => i.natAbs.log2 < 1920 ∧ q (.str (toString i)) M
  | _ => False
def isTW (t : Ty) (xs : List D) (M : Mem) (q : K1) : Prop :=
  match xs with
  | [.scr _ _] => False
  | [.lst a] => ∃ ds, M a = some ds ∧ q (.bl (isTy t (.lst a))) M
  | [x] => q (.bl (isTy t x)) M
  | _ => False
def bfW (b : Bf) (xs : List D) (M : Mem) (q : K1) : Prop :=
  match b with
  | .len => lenW xs M q
  | .abs => absW xs M q
  | .tuple => tupleW xs M q
  | .list => listW xs M q
  | .all => allW xs M q
  | .any => anyW xs M q
  | .int => intW xs M q
  | .sum => sumW xs M q
  | .isT t => isTW t xs M q
  | .sset => ssetW xs M q
  | .rev => revW xs M q
  | .str => strW xs M q
  | .min => minW xs M q
  | .max => maxW xs M q
  | .srt => srtW xs M q
def appendW (o : D) (xs : List D) (M : Mem) (q : K1) : Prop :=
  match o, xs with
  | .lst a, [d] => ∃ ds, M a = some ds ∧ ds.length < sizeLine ∧ q .non (M.up a (ds ++ [d]))
  | _, _ => False
def insertW (o : D) (xs : List D) (M : Mem) (q : K1) : Prop :=
  match o, xs with
  | .lst a, [.int i, d] => ∃ ds, M a = some ds ∧ ds.length < sizeLine ∧ 0 ≤ i ∧ i < 2 ^ 63 ∧ q .non (M.up a (ds.take i.toNat ++ [d] ++ ds.drop i.toNat))
  | _, _ => False
def popAtW (o : D) (xs : List D) (M : Mem) (q : K1) : Prop :=
  match o, xs with
  | .lst a, [.int i] => ∃ ds d j, M a = some ds ∧ -(2 ^ 63) ≤ i ∧ i < 2 ^ 63 ∧ seqIndex? i ds.length = some j ∧ ds[j]? = some d ∧ q d (M.up a (ds.eraseIdx j))
  | _, _ => False
def popW (o : D) (xs : List D) (M : Mem) (q : K1) : Prop :=
  match o, xs with
  | .lst a, [] => ∃ ds d, M a = some ds ∧ ds[ds.length - 1]? = some d ∧ q d (M.up a ds.dropLast)
  | _, _ => False
def extendW (o : D) (xs : List D) (M : Mem) (q : K1) : Prop :=
  match o, xs with
  | .lst a, [.lst b] => ∃ xs ys, M a = some xs ∧ M b = some ys ∧ xs.length + ys.length ≤ sizeLine ∧ q .non (M.up a (xs ++ ys))
  | .lst a, [.tup ys] => ∃ xs, M a = some xs ∧ xs.length + ys.length ≤ sizeLine ∧ q .non (M.up a (xs ++ ys))
  | _, _ => False
/-- the first place of a value that is there -/
def indexW (o : D) (xs : List D) (M : Mem) (q : K1) : Prop :=
  match o, xs with
  | .lst a, [x] => ∃ ys, ∃ j : Nat, ∃ z, M a = some ys ∧ inOk x ys ∧ ys[j]? = some z ∧ deq z x = true ∧ (∀ m z', m < j → ys[m]? = some z' → deq z' x = false) ∧ q (.int j) M
  | _, _ => False
def mthW (m : Mf) (o : D) (xs : List D) (M : Mem) (q : K1) : Prop :=
  match m with
  | .append => appendW o xs M q
  | .insert => insertW o xs M q
  | .popAt => popAtW o xs M q
  | .pop => popW o xs M q
  | .extend => extendW o xs M q
  | .index => indexW o xs M q
def setW (o i v : D) (M : Mem) (q : Mem → Prop) : Prop :=
  match o, i with
  | .lst a, .int k => ∃ ds j, M a = some ds ∧ ixN ds.length k = some j ∧ q (M.up a (ds.set j v))
  | _, _ => False

structure Ed where
  nx : En → Mem → Prop
  rt : K1
  bk : En → Mem → Prop := fun _ _ => False
  ct : En → Mem → Prop := fun _ _ => False
abbrev Gam := Nat → List D → Mem → K1 → Prop
abbrev KI := List D → (Mem → Prop) → Mem → Prop
def seqW (d : D) (M : Mem) (R : KI) : Prop :=
  match d with
  | .tup ds => ds.length ≤ sizeLine → R ds (fun _ => True) M
  | .lst a => ∃ ds, M a = some ds ∧ (ds.length ≤ sizeLine → R ds (fun M => M a = some ds) M)
  | .str s => R (s.cps.toList.map fun c => .str ⟨#[c]⟩) (fun _ => True) M
  | _ => False
def enumD : Nat → List D → List D
  | _, [] => []
  | n, d :: ds => .tup [.int n, d] :: enumD (n + 1) ds
def enumW (d : D) (M : Mem) (R : KI) : Prop :=
  match d with
  | .tup ds => ds.length ≤ sizeLine → R (enumD 0 ds) (fun _ => True) M
  | .lst a => ∃ ds, M a = some ds ∧ (ds.length ≤ sizeLine → R (enumD 0 ds) (fun M => M a = some ds) M)
  | _ => False
def zipD : List D → List D → List D
  | x :: xs, y :: ys => .tup [x, y] :: zipD xs ys
  | _, _ => []
def zipW (d e : D) (M : Mem) (R : KI) : Prop :=
  match d, e with
  | .tup xs, .tup ys => xs.length ≤ sizeLine → ys.length ≤ sizeLine → R (zipD xs ys) (fun _ => True) M
  | .lst a, .lst b => ∃ xs ys, M a = some xs ∧ M b = some ys ∧ (xs.length ≤ sizeLine → ys.length ≤ sizeLine → R (zipD xs ys) (fun M => M a = some xs ∧ M b = some ys) M)
  | .tup xs, .lst b => ∃ ys, M b = some ys ∧ (xs.length ≤ sizeLine → ys.length ≤ sizeLine → R (zipD xs ys) (fun M => M b = some ys) M)
  | _, _ => False
/-- the items that a tuple of names takes apart -/
def seqOf (d : D) (M : Mem) (ds : List D) : Prop :=
  match d with
  | .tup es => es = ds
  | .lst a => M a = some ds
  | _ => False
def ezipW (d e : D) (M : Mem) (R : KI) : Prop :=
  match d, e with
  | .tup xs, .tup ys => xs.length ≤ sizeLine → ys.length ≤ sizeLine → R (enumD 0 (zipD xs ys)) (fun _ => True) M
  | _, _ => False
def rngD (lo : Int) (n : Nat) : List D := (List.range n).map fun k => .int (lo + (k : Nat))
def rng1W (d : D) (M : Mem) (R : KI) : Prop :=
  match d with
  | .int j => -(2 ^ 62) ≤ j ∧ j < 2 ^ 62 ∧ R (rngD 0 j.toNat) (fun _ => True) M
  | _ => False
def rng2W (d e : D) (M : Mem) (R : KI) : Prop :=
  match d, e with
  | .int i, .int j => (-(2 ^ 62) ≤ i ∧ i < 2 ^ 62 ∧ -(2 ^ 62) ≤ j ∧ j < 2 ^ 62) ∧ R (rngD i (j - i).toNat) (fun _ => True) M
  | _, _ => False

section
variable (Γ : Gam)
mutual
def wpE : E → En → Mem → K1 → Prop
  | .var i, ρ, M, q => ∃ d, get ρ i = some d ∧ q d M
  | .cst d, _, M, q => q d M
  | .bin op a b, ρ, M, q => wpE a ρ M fun x M1 => wpE b ρ M1 fun y M2 => binW op x y M2 q
  | .cmp op a b, ρ, M, q => wpE a ρ M fun x M1 => wpE b ρ M1 fun y M2 => cmpW op x y M2 fun k => q (.bl k) M2
  | .chn o1 o2 a b c, ρ, M, q => wpE a ρ M fun x M1 => wpE b ρ M1 fun y M2 => cmpW o1 x y M2 fun k =>
      if k = true then wpE c ρ M2 fun z M3 => cmpW o2 y z M3 fun k => q (.bl k) M3 else q (.bl false) M2
  | .chn3 o1 o2 o3 a b c d, ρ, M, q => wpE a ρ M fun x M1 => wpE b ρ M1 fun y M2 => cmpW o1 x y M2 fun k =>
      if k = true then wpE c ρ M2 fun z M3 => cmpW o2 y z M3 fun k =>
        if k = true then wpE d ρ M3 fun w M4 => cmpW o3 z w M4 fun k => q (.bl k) M4 else q (.bl false) M3
      else q (.bl false) M2
  | .and a b, ρ, M, q => wpE a ρ M fun x M1 => ∃ k, tru M1 x = some k ∧ if k = true then wpE b ρ M1 q else q x M1
  | .or a b, ρ, M, q => wpE a ρ M fun x M1 => ∃ k, tru M1 x = some k ∧ if k = true then q x M1 else wpE b ρ M1 q
  | .not a, ρ, M, q => wpE a ρ M fun x M1 => ∃ k, tru M1 x = some k ∧ q (.bl (!k)) M1
  | .neg a, ρ, M, q => wpE a ρ M fun x M1 => ∃ i, x = .int i ∧ q (.int (-i)) M1
  | .ite c a b, ρ, M, q => wpE c ρ M fun x M1 => ∃ k, tru M1 x = some k ∧ if k = true then wpE a ρ M1 q else wpE b ρ M1 q
  | .tup es, ρ, M, q => wpEs es ρ M fun ds M1 => q (.tup ds) M1
  | .lst es, ρ, M, q => wpEs es ρ M fun ds M1 => ∀ p, M1 p = none → q (.lst p) (M1.up p ds)
  | .call g es, ρ, M, q => wpEs es ρ M fun ds M1 => Γ g ds M1 q
  | .bfn b es, ρ, M, q => wpEs es ρ M fun ds M1 => bfW b ds M1 q
  | .mth m o es, ρ, M, q => wpE o ρ M fun x M1 => (∃ a ds, x = .lst a ∧ M1 a = some ds) ∧ wpEs es ρ M1 fun ds M2 => mthW m x ds M2 q
  | .ix a b, ρ, M, q => wpE a ρ M fun x M1 => wpE b ρ M1 fun y M2 => ixW x y M2 q
  | .sl a lo hi, ρ, M, q => wpE a ρ M fun x M1 => wpO lo ρ M1 fun l M2 => wpO hi ρ M2 fun h M3 => slW x l h M3 q
  | .comp elt t it c own, ρ, M, q => wpI it ρ M fun items stab M1 => items.length ≤ sizeLine ∧ ∃ W : Nat → List D → Mem → Prop, W 0 [] M1 ∧
      (∀ i acc M, i ≤ items.length → W i acc M → stab M) ∧
      (∀ i d acc M, items[i]? = some d → W i acc M → wpT t d (wipeE ρ own) M fun ρ' M' => wpC c ρ' M' fun b M2 =>
        if b = true then wpE elt ρ' M2 fun y M3 => W (i + 1) (acc ++ [y]) M3 else W (i + 1) acc M2) ∧
      (∀ acc M, acc.length ≤ items.length → W items.length acc M → ∀ p, M p = none → q (.lst p) (M.up p acc))
  | .comp2 elt t it c t1 it1 c1 own own1, ρ, M, q => wpI it ρ M fun items stab M1 => ∃ W : Nat → List D → Mem → Prop, W 0 [] M1 ∧
      (∀ i acc M, i ≤ items.length → W i acc M → stab M) ∧
      (∀ i d acc M, items[i]? = some d → W i acc M → wpT t d (wipeE ρ own) M fun ρ' M' => wpC c ρ' M' fun b M2 =>
        if b = true then wpI it1 ρ' M2 fun items1 stab1 M3 => ∃ V : Nat → List D → Mem → Prop, V 0 acc M3 ∧
            (∀ j acc M, j ≤ items1.length → V j acc M → stab1 M) ∧
            (∀ j d1 acc M, items1[j]? = some d1 → V j acc M → wpT t1 d1 (wipeE ρ' own1) M fun ρ'' M4 => wpC c1 ρ'' M4 fun b M5 =>
              if b = true then wpE elt ρ'' M5 fun y M6 => acc.length < sizeLine ∧ V (j + 1) (acc ++ [y]) M6 else V (j + 1) acc M5) ∧
            (∀ acc M, V items1.length acc M → W (i + 1) acc M)
        else W (i + 1) acc M2) ∧
      (∀ acc M, W items.length acc M → ∀ p, M p = none → q (.lst p) (M.up p acc))
  | .stuck, _, _, _ => False
def wpEs : Es → En → Mem → (List D → Mem → Prop) → Prop
  | .nil, _, M, k => k [] M
  | .cons e es, ρ, M, k => wpE e ρ M fun d M1 => wpEs es ρ M1 fun ds M2 => k (d :: ds) M2
def wpO : O → En → Mem → (Option Int → Mem → Prop) → Prop
  | .no, _, M, k => k none M
  | .yes e, ρ, M, k => wpE e ρ M fun d M1 => ∃ i, d = .int i ∧ k (some i) M1
def wpC : C → En → Mem → (Bool → Mem → Prop) → Prop
  | .no, _, M, k => k true M
  | .yes e, ρ, M, k => wpE e ρ M fun d M1 => ∃ b, tru M1 d = some b ∧ k b M1
def wpT : T → D → En → Mem → (En → Mem → Prop) → Prop
  | .nm i, d, ρ, M, k => k (put ρ i d) M
  | .tp ts, d, ρ, M, k => ∃ ds, seqOf d M ds ∧ ds.length = ts.len ∧ wpTs ts ds ρ M k
  | .ix o i, d, ρ, M, k => wpE o ρ M fun x M1 => wpE i ρ M1 fun y M2 => setW x y d M2 fun M3 => k ρ M3
def wpTs : Ts → List D → En → Mem → (En → Mem → Prop) → Prop
  | .nil, ds, ρ, M, k => ds = [] ∧ k ρ M
  | .cons t ts, ds, ρ, M, k => ∃ d r, ds = d :: r ∧ wpT t d ρ M fun ρ' M' => wpTs ts r ρ' M' k
def wpI : I → En → Mem → KI → Prop
  | .seq e, ρ, M, R => wpE e ρ M fun d M1 => seqW d M1 R
  | .rng1 a, ρ, M, R => wpE a ρ M fun d M1 => rng1W d M1 R
  | .rng2 a b, ρ, M, R => wpE a ρ M fun d M1 => wpE b ρ M1 fun e M2 => rng2W d e M2 R
  | .enum e, ρ, M, R => wpE e ρ M fun d M1 => enumW d M1 R
  | .zip a b, ρ, M, R => wpE a ρ M fun d M1 => wpE b ρ M1 fun e M2 => zipW d e M2 R
  | .ezip a b, ρ, M, R => wpE a ρ M fun d M1 => wpE b ρ M1 fun e M2 => ezipW d e M2 R
end
mutual
def wpS : S → En → Mem → Ed → Prop
  | .asg t e, ρ, M, F => wpE Γ e ρ M fun d M1 => wpT Γ t d ρ M1 F.nx
  | .par i j a b, ρ, M, F => wpE Γ a ρ M fun x M1 => wpE Γ b ρ M1 fun y M2 => F.nx (put (put ρ i x) j y) M2
  | .aug i op e, ρ, M, F => ∃ x, get ρ i = some x ∧ wpE Γ e ρ M fun y M1 => augW op x y M1 fun z M2 => F.nx (put ρ i z) M2
  | .expr e, ρ, M, F => wpE Γ e ρ M fun _ M1 => F.nx ρ M1
  | .ret e, ρ, M, F => wpE Γ e ρ M F.rt
  | .retN, _, M, F => F.rt .non M
  | .ite c a b, ρ, M, F => wpE Γ c ρ M fun x M1 => ∃ k, tru M1 x = some k ∧ if k = true then wpSs a ρ M1 F else wpSs b ρ M1 F
  | .whl c b, ρ, M, F => ∃ W : Nat → En → Mem → Prop, (∃ m, W m ρ M) ∧ ∀ m ρ M, W m ρ M → wpE Γ c ρ M fun d M1 => ∃ k, tru M1 d = some k ∧
      if k = true then ∃ N : En → Mem → Prop, (∀ ρ' M', N ρ' M' → ∃ m', m' < m ∧ W m' ρ' M') ∧ wpSs b ρ M1 ⟨N, F.rt, F.nx, N⟩ else F.nx ρ M1
  | .for_ t it b, ρ, M, F => wpI Γ it ρ M fun items stab M1 => ∃ W : Nat → En → Mem → Prop, W 0 ρ M1 ∧ (∀ i ρ M, i ≤ items.length → W i ρ M → stab M) ∧
      (∀ i d ρ M, items[i]? = some d → W i ρ M → wpT Γ t d ρ M fun ρ' M' => wpSs b ρ' M' ⟨W (i + 1), F.rt, F.nx, W (i + 1)⟩) ∧
      (∀ ρ M, W items.length ρ M → F.nx ρ M)
  | .brk, ρ, M, F => F.bk ρ M
  | .cont, ρ, M, F => F.ct ρ M
  | .pass, ρ, M, F => F.nx ρ M
  | .stuck, _, _, _ => False
def wpSs : Ss → En → Mem → Ed → Prop
  | .nil, ρ, M, F => F.nx ρ M
  | .cons s ss, ρ, M, F => wpS s ρ M ⟨fun ρ' M' => wpSs ss ρ' M' F, F.rt, F.bk, F.ct⟩
end
end
end TB

/-! Engk: a list made longer by a tuple -/
namespace TB
open PySem PySem.Spec PyProof.Rows L2
theorem list_extend_tup (l : Addr) (items : Array Value) (n : Nat) (b : Addr) (items2 : Array Value) (n2 : Nat) (dct : Option Addr) (sl : Array (Option Value)) (hs0 : ¬(!items.isEmpty && Builtin.List.listTooLong (items.size + items2.size)) = true) (hs1 : items.size ≤ sizeLine) (hs2 : items.size + items2.size ≤ sizeLine + 1) :
    Meets (Builtin.«list.extend» ⟨[.ref l, .ref b], []⟩) (fun _ R s => s.heap.get? l = some { cls := .type "list", dict := none, data := .seq items n, slots := #[] } ∧ s.heap.get? b = some { cls := .type "tuple", dict := dct, data := .seq items2 n2, slots := sl } ∧ R (.ok (.ret Value.none)) { s with heap := s.heap.update l (Obj.mapSeq fun x => x ++ items2), toks := s.toks }) :=
  .of_wp fun prog w A R s h => by
    obtain ⟨hp, g, d, tk, os⟩ := s; obtain ⟨hl, hb, h⟩ := h; have f1 := AutoSeq1.idx_int; have f2 := AutoSeq1.sub_tuple_tuple; have f3 := AutoSeq1.sub_list_list; have f4 := AutoSeq1.sub_tuple_list; have f5 := AutoSeq1.sub_list_tuple;
    have hz' : (items ++ items2).size ≤ sizeLine + 1 := by rw [Array.size_append]; exact hs2
    wp_walk using (wpAny_updateSeq hl rfl (hz := hs1) (_hz' := hz')), AutoSeq1.wpAny_loadPart' hl, AutoSeq1.wpAny_loadPart' hb; exact ⟨_, rfl, h⟩
def rExtendT (K : PySem.W.Frag) : V → List V → Hp → VK → Prop := fun x vs H Q => ∃ l b xs zs, x = .ref l ∧ vs = [.ref b] ∧ H l = some (.lst xs) ∧ SqT K H b zs ∧ xs.length + zs.length ≤ sizeLine ∧ Q .non (upd H l (.lst (xs ++ zs)))
theorem mt_extendT {X : Cx} : MtM X "list.extend" (rExtendT X.K) := by
  intro pins s σ H x vs v us Q I rx rv h
  obtain ⟨l, b, xs, zs, rfl, rfl, hH, hB, hz, q⟩ := h
  cases rx
  obtain ⟨u, rfl, ru⟩ := rv.one
  cases ru
  obtain ⟨z, its, n, r, hl, e⟩ := I.lstM hH
  obtain ⟨its2, r2, p2, z2⟩ := I.tuple hB
  have hl2 := r2.length
  obtain ⟨⟨cls, dct, dat, sl⟩, ho, hc, n2, hd⟩ := p2
  have hc : cls = .type "tuple" := hc
  have hd : dat = .seq its2.toArray n2 := hd
  subst hc hd
  have hsz : its.toArray.size + its2.toArray.size ≤ sizeLine := by rw [List.size_toArray, List.size_toArray]; omega
  have hlong : ¬ (!its.toArray.isEmpty && Builtin.List.listTooLong (its.toArray.size + its2.toArray.size)) = true := by
    rw [notLongL hsz, Bool.and_false]
    exact Bool.false_ne_true
  refine call_meets F.slot_list_extend ⟨_, e, rfl⟩ F.entry_list_extend (F.args_list_extend_2 _ _)
    (list_extend_tup l its.toArray n b its2.toArray n2 dct sl hlong (by rw [List.size_toArray]; omega) (by omega)) ⟨e, ho, ?_⟩
  refine ⟨.non, _, I.lset (its' := its ++ its2) hH e (by simp) (r.append r2) ?_, rfl, q⟩
  rw [List.length_append]
  omega
end TB

namespace TB
open PySem PySem.Spec PyProof.Rows L2
abbrev St := L2.St

/-! ### the slots -/
section
variable {K : PySem.W.Frag} {M M' : Mem} {H H' : Hp} {ρ : En} {σ : St}
def RepE (K : PySem.W.Frag) (H : Hp) (ρ : En) (σ : St) : Prop := ρ.length = σ.length ∧ ∀ i d, get ρ i = some d → ∃ v, σ[i]? = some (some v) ∧ Rep K H d v
theorem RepE.keep (s : Keep H H') (h : RepE K H ρ σ) : RepE K H' ρ σ := ⟨h.1, fun i d e => let ⟨v, q, r⟩ := h.2 i d e; ⟨v, q, r.keep s⟩⟩
theorem put_length : ∀ (ρ : En) (i : Nat) (d : D), (put ρ i d).length = ρ.length
  | [], _, _ => rfl
  | _ :: _, 0, _ => rfl
  | x :: r, n + 1, d => by simp [put, put_length r n d]
theorem clr_length : ∀ (ρ : En) (i : Nat), (clr ρ i).length = ρ.length
  | [], _ => rfl
  | _ :: _, 0 => rfl
  | x :: r, n + 1 => by simp [clr, clr_length r n]
theorem get_put : ∀ (ρ : En) (i j : Nat) (d e : D), get (put ρ i d) j = some e → (j = i ∧ e = d ∧ i < ρ.length) ∨ (j ≠ i ∧ get ρ j = some e)
  | [], _, _, _, _, h => by simp [put, get] at h
  | _ :: _, 0, 0, _, _, h => by simp [put, get] at h; exact .inl ⟨rfl, h.symm, by simp⟩
  | x :: r, 0, j + 1, d, e, h => .inr ⟨by omega, by simpa [put, get] using h⟩
  | x :: r, i + 1, 0, d, e, h => .inr ⟨by omega, by simpa [put, get] using h⟩
  | x :: r, i + 1, j + 1, d, e, h => by
    rcases get_put r i j d e (by simpa [put, get] using h) with ⟨a, b, c⟩ | ⟨a, b⟩
    · exact .inl ⟨by omega, b, by simp; omega⟩
    · exact .inr ⟨by omega, by simpa [get] using b⟩
theorem get_clr : ∀ (ρ : En) (i j : Nat) (e : D), get (clr ρ i) j = some e → j ≠ i ∧ get ρ j = some e
  | [], _, _, _, h => by simp [clr, get] at h
  | _ :: _, 0, 0, _, h => by simp [clr, get] at h
  | x :: r, 0, j + 1, e, h => ⟨by omega, by simpa [clr, get] using h⟩
  | x :: r, i + 1, 0, e, h => ⟨by omega, by simpa [clr, get] using h⟩
  | x :: r, i + 1, j + 1, e, h => by
    obtain ⟨a, b⟩ := get_clr r i j e (by simpa [clr, get] using h)
    exact ⟨by omega, by simpa [get] using b⟩
theorem RepE.put (h : RepE K H ρ σ) {i : Nat} {d : D} {v : V} (r : Rep K H d v) : RepE K H (put ρ i d) (σ.set i (some v)) := by
  refine ⟨by rw [put_length, List.length_set]; exact h.1, fun j e q => ?_⟩
  rcases get_put ρ i j d e q with ⟨rfl, rfl, hl⟩ | ⟨hne, q⟩
  · exact ⟨v, by rw [List.getElem?_set_self (by rw [← h.1]; exact hl)], r⟩
  · obtain ⟨w, a, b⟩ := h.2 j e q
    exact ⟨w, by rw [List.getElem?_set_ne (Ne.symm hne)]; exact a, b⟩
theorem RepE.clr (h : RepE K H ρ σ) (i : Nat) : RepE K H (clr ρ i) (σ.set i none) := by
  refine ⟨by rw [clr_length, List.length_set]; exact h.1, fun j e q => ?_⟩
  obtain ⟨hne, q⟩ := get_clr ρ i j e q
  obtain ⟨w, a, b⟩ := h.2 j e q
  exact ⟨w, by rw [List.getElem?_set_ne (Ne.symm hne)]; exact a, b⟩
theorem RepE.wipe (h : RepE K H ρ σ) : ∀ own : List Nat, RepE K H (wipeE ρ own) (wipe σ own)
  | [] => h
  | v :: vs => (RepE.wipe h vs).clr v
end

/-! ### lifts -/
def LE (K : PySem.W.Frag) (w : En → Mem → K1 → Prop) : TE := fun σ H Q => ∃ ρ M q, RepE K H ρ σ ∧ RepM K H M ∧ w ρ M q ∧
  ∀ d M' v H', Step M H M' H' → Rep K H' d v → RepM K H' M' → q d M' → Q v H'
def LT (K : PySem.W.Frag) (w : En → Mem → K1 → Prop) : TT := fun σ H Q => ∃ ρ M q, RepE K H ρ σ ∧ RepM K H M ∧ w ρ M q ∧
  ∀ d M' v H', Step M H M' H' → Rep K H' d v → RepM K H' M' → q d M' → ∃ b, tru M' d = some b ∧ Q b H'
def LA (K : PySem.W.Frag) (n : Nat) (w : En → Mem → (List D → Mem → Prop) → Prop) : TA := fun σ H Q => ∃ ρ M q, RepE K H ρ σ ∧ RepM K H M ∧ w ρ M q ∧
  ∀ ds M' vs H', ds.length = n → Step M H M' H' → RepL K H' ds vs → RepM K H' M' → q ds M' → Q vs H'
def LR2 (K : PySem.W.Frag) (f : D → D → Mem → K1 → Prop) : R2 := fun x y H Q => ∃ dx dy M q, Rep K H dx x ∧ Rep K H dy y ∧ RepM K H M ∧ f dx dy M q ∧
  ∀ d M' v H', Step M H M' H' → Rep K H' d v → RepM K H' M' → q d M' → Q v H'
def LC (K : PySem.W.Frag) (f : List D → Mem → K1 → Prop) : List V → Hp → VK → Prop := fun xs H Q => ∃ ds M q, RepL K H ds xs ∧ RepM K H M ∧ f ds M q ∧
  ∀ d M' v H', Step M H M' H' → Rep K H' d v → RepM K H' M' → q d M' → Q v H'
def LM (K : PySem.W.Frag) (f : D → List D → Mem → K1 → Prop) : V → List V → Hp → VK → Prop := fun x xs H Q => ∃ dx ds M q, Rep K H dx x ∧ RepL K H ds xs ∧ RepM K H M ∧ f dx ds M q ∧
  ∀ d M' v H', Step M H M' H' → Rep K H' d v → RepM K H' M' → q d M' → Q v H'

section
variable {X : Cx} {a b c e : Expr} {ta tb tc t t' : TE} {pos : Pos}
theorem pe_imp (h : PE X e t) (f : ∀ σ H Q, t' σ H Q → t σ H Q) : PE X e t' := ⟨fun pins s σ H Q I hw => h.run pins s σ H Q I (f σ H Q hw)⟩
theorem pt_imp {t t' : TT} (h : PT X e t) (f : ∀ σ H Q, t' σ H Q → t σ H Q) : PT X e t' := ⟨fun pins s σ H Q I hw => h.run pins s σ H Q I (f σ H Q hw)⟩
theorem pw_imp {t t' : TT} (h : PW X e t) (f : ∀ σ H Q, t' σ H Q → t σ H Q) : PW X e t' := ⟨fun wh pins s σ H Q I hw => h.run wh pins s σ H Q I (f σ H Q hw)⟩
theorem pa_imp {es : List Expr} {t t' : TA} (h : PA X es t) (f : ∀ σ H Q, t' σ H Q → t σ H Q) : PA X es t' := ⟨fun pos pins s σ H Q I hw => h.run pos pins s σ H Q I (f σ H Q hw)⟩

def Bin.op : Bin → Operator
  | .add => .Add | .sub => .Sub | .mul => .Mult | .fdiv => .FloorDiv | .mod => .Mod | .pow => .Pow
def Cm.op : Cm → CmpOp
  | .lt => .Lt | .le => .LtE | .gt => .Gt | .ge => .GtE | .eq => .Eq | .ne => .NotEq | .isN => .Is | .notN => .IsNot | .inn => .In | .notIn => .NotIn

theorem line2 : (2 : Nat) ≤ sizeLine := by rw [sizeLine_eq]; decide

theorem RepL.flat {K : PySem.W.Frag} {H : Hp} {ds : List D} {xs : List V} (h : RepL K H ds xs) : ∀ n : Nat, RepL K H (List.replicate n ds).flatten (List.replicate n xs).flatten
  | 0 => rfl
  | n + 1 => by
    rw [List.replicate_succ, List.replicate_succ, List.flatten_cons, List.flatten_cons]
    exact h.app (RepL.flat h n)
theorem tuple_mulS (l : Addr) (items : Array Value) (n : Nat) (dd : Option Addr) (sl : Array (Option Value)) (u : Tok) :
    Meets (Builtin.«tuple.__mul__» ⟨[.ref l, .int 1 u], []⟩) (fun _ R s => s.heap.get? l = some { cls := .type "tuple", dict := dd, data := .seq items n, slots := sl } ∧ R (.ok (.ret (Value.ref l))) s) :=
  .of_wp fun prog w A R s h => by
    obtain ⟨hp, g, d, tk, os⟩ := s
    obtain ⟨hl, h⟩ := h
    have f1 := AutoSeq1.idx_int
    have c1 : (items.isEmpty || (1 : Int) == 1) = true := by simp
    wp_walk using wpAny_loadPart' hl
    repeat (first
      | (refine wpAny_ite_true (decide_eq_true (by rw [c1])) ?_; wp_walk using wpAny_loadPart' hl)
      | (refine wpAny_ite_false (decide_eq_false (by decide)) ?_; wp_walk using wpAny_loadPart' hl))
    exact ⟨_, rfl, h⟩
theorem tuple_mul0 (l : Addr) (j : Int) (n : Nat) (dd : Option Addr) (sl : Array (Option Value)) (u : Tok) (hj : 1 ≤ j ∧ j ≤ 1000) :
    Meets (Builtin.«tuple.__mul__» ⟨[.ref l, .int j u], []⟩) (fun _ R s => s.heap.get? l = some { cls := .type "tuple", dict := dd, data := .seq #[] n, slots := sl } ∧ R (.ok (.ret (Value.ref l))) s) :=
  .of_wp fun prog w A R s h => by
    obtain ⟨hp, g, d, tk, os⟩ := s
    obtain ⟨hl, h⟩ := h
    have f1 := AutoSeq1.idx_int
    have c1 : ((#[] : Array Value).isEmpty || j == 1) = true := by simp
    wp_walk using wpAny_loadPart' hl
    repeat (first
      | (refine wpAny_ite_true (decide_eq_true (by rw [c1])) ?_; wp_walk using wpAny_loadPart' hl)
      | (refine wpAny_ite_false (decide_eq_false (by omega)) ?_; wp_walk using wpAny_loadPart' hl)
      | (refine wpAny_ite_false (decide_eq_false (by simp; omega)) ?_; wp_walk using wpAny_loadPart' hl))
    all_goals first | exact ⟨_, rfl, h⟩ | exact ⟨by omega, by omega⟩
def rRepT0 (K : PySem.W.Frag) : R2 := fun x y H Q => ∃ l j, x = .ref l ∧ y = .int j ∧ (1 ≤ j ∧ j ≤ 1000) ∧ SqT K H l [] ∧ Q (.ref l) H
theorem op_repT0 : OpR X (binaryOp .Mult) (rRepT0 X.K) := by
  intro pins s σ H x y v u Q I rx ry h
  obtain ⟨l, j, rfl, rfl, hj, hT, q⟩ := h
  cases rx
  obtain ⟨t, rfl⟩ := ry
  obtain ⟨its, r, ⟨⟨cls, dd, data, sl⟩, ho, hc, n, hd⟩, hs⟩ := I.tuple hT
  cases r
  simp only at hc hd
  subst hc hd
  refine wpAny_binaryOp_repeat_ref (T := "tuple") (U := "int") (by decide) ⟨_, ho, rfl⟩ (fun s' => typeIs_int s' j t) noFill_tuple_mul F.fills_int_mul F.slot_int_rmul repeat_tuple F.slot_int_index.lookup
    (call_meets F.slot_int_rmul (typeIs_int s j t) F.entry_int_rmul (F.args_int_rmul_2 _ _) (int_rmul_tuple j t l #[] n dd sl)
      ⟨ho, rfl, ⟨_, ho, rfl⟩, call_meets F.slot_tuple_mul ⟨_, ho, rfl⟩ F.entry_tuple_mul (F.args_tuple_mul_2 _ _) (tuple_mul0 l j n dd sl t hj) ⟨ho, ?_⟩⟩)
  exact ⟨.ref l, H, I, rfl, q⟩
def rRepT1 (K : PySem.W.Frag) : R2 := fun x y H Q => ∃ l xs, x = .ref l ∧ y = .int 1 ∧ SqT K H l xs ∧ Q (.ref l) H
theorem op_repT1 : OpR X (binaryOp .Mult) (rRepT1 X.K) := by
  intro pins s σ H x y v u Q I rx ry h
  obtain ⟨l, xs, rfl, rfl, hT, q⟩ := h
  cases rx
  obtain ⟨t, rfl⟩ := ry
  obtain ⟨its, r, ⟨⟨cls, dd, data, sl⟩, ho, hc, n, hd⟩, hs⟩ := I.tuple hT
  simp only at hc hd
  subst hc hd
  refine wpAny_binaryOp_repeat_ref (T := "tuple") (U := "int") (by decide) ⟨_, ho, rfl⟩ (fun s' => typeIs_int s' 1 t) noFill_tuple_mul F.fills_int_mul F.slot_int_rmul repeat_tuple F.slot_int_index.lookup
    (call_meets F.slot_int_rmul (typeIs_int s 1 t) F.entry_int_rmul (F.args_int_rmul_2 _ _) (int_rmul_tuple 1 t l its.toArray n dd sl)
      ⟨ho, rfl, ⟨_, ho, rfl⟩, call_meets F.slot_tuple_mul ⟨_, ho, rfl⟩ F.entry_tuple_mul (F.args_tuple_mul_2 _ _) (tuple_mulS l its.toArray n dd sl t) ⟨ho, ?_⟩⟩)
  exact ⟨.ref l, H, I, rfl, q⟩
theorem op_bin (op : Bin) : OpR X (binaryOp op.op) (LR2 X.K (binW op)) := by
  rintro pins s σ H x y v u Q I rx ry ⟨dx, dy, M, q, r1, r2, m, w, k⟩
  have fin : ∀ {d : D} {v : V}, q d M → Rep X.K H d v → Q v H := fun z r => k _ M _ H .refl r m z
  unfold binW at w
  split at w
  · cases r1; cases r2
    exact op_add pins s σ H _ _ v u Q I rx ry ⟨_, _, rfl, rfl, fin w rfl⟩
  · cases r1; cases r2
    exact op_sub pins s σ H _ _ v u Q I rx ry ⟨_, _, rfl, rfl, fin w rfl⟩
  · cases r1; cases r2
    obtain ⟨z, w⟩ := w
    exact opI (C := IntMulOk) (g := fun i j => i * j) (fun _ _ _ _ _ _ _ hc q => mul_int q hc) pins s σ H _ _ v u Q I rx ry ⟨_, _, rfl, rfl, z, fin w rfl⟩
  · cases r1; cases r2
    rename_i i j
    obtain ⟨⟨z, z2⟩, w⟩ := w
    exact opI (C := fun _ j => j ≠ 0 ∧ DvOk j) (g := fun i j => i.fdiv j) (fun _ _ _ _ _ _ _ hc q => floordiv_int hc.1 q (.inl (PyProof.noPylong_of_log2 hc.2))) pins s σ H _ _ v u Q I rx ry ⟨_, _, rfl, rfl, ⟨z, z2⟩, fin w rfl⟩
  · cases r1; cases r2
    obtain ⟨z, w⟩ := w
    exact op_modN pins s σ H _ _ v u Q I rx ry ⟨_, _, rfl, rfl, z, fin w rfl⟩
  · cases r1; cases r2
    obtain ⟨z, w⟩ := w
    exact op_pow pins s σ H _ _ v u Q I rx ry ⟨_, _, rfl, rfl, z, fin w rfl⟩
  · cases r1; cases r2
    obtain ⟨z, w⟩ := w
    exact op_add_str pins s σ H _ _ v u Q I rx ry ⟨_, _, rfl, rfl, z, fin w rfl⟩
  · obtain ⟨z, w⟩ := w
    obtain ⟨p, xs, rfl, h1, l1, z1⟩ := r1
    obtain ⟨p2, ys, rfl, h2, l2, z2⟩ := r2
    have e1 := l1.length
    have e2 := l2.length
    refine op_catA pins s σ H _ _ v u Q I rx ry ⟨p, p2, xs, ys, rfl, rfl, h1, h2, by omega, fun e => ?_, fun _ e => ?_, fun _ _ p3 hp => ?_⟩
    · subst e
      cases (List.eq_nil_of_length_eq_zero e1)
      exact fin w ⟨_, _, rfl, h2, l2, z2⟩
    · subst e
      cases (List.eq_nil_of_length_eq_zero e2)
      rw [List.append_nil] at w
      exact fin w ⟨_, _, rfl, h1, l1, z1⟩
    · exact k (.tup _) M _ _ (step_new m hp) ⟨_, _, rfl, .inl (.inl upd_same), (l1.app l2).keep (keep_new hp), by rw [List.length_append]; exact z⟩ (m.new hp) w
  · cases r1; cases r2
    obtain ⟨xs, ys, e1, e2, z, w⟩ := w
    obtain ⟨vs, h1, l1, _⟩ := m _ _ e1
    obtain ⟨ws, h2, l2, _⟩ := m _ _ e2
    have e3 := l1.length
    have e4 := l2.length
    refine op_cat pins s σ H _ _ v u Q I rx ry ⟨_, _, vs, ws, rfl, rfl, h1, h2, by omega, fun p hp => ?_⟩
    exact k (.lst p) _ _ _ (step_newL m hp) rfl (m.newL hp (l1.app l2) (by rw [List.length_append]; exact z)) (w p (m.free hp))
  · cases r1; cases r2
    rename_i a j
    obtain ⟨xs, e1, ⟨z2, z3, z4⟩, w⟩ := w
    obtain ⟨vs, h1, l1, _⟩ := m _ _ e1
    have e3 := l1.length
    have hb : j.toNat * xs.length ≤ 1000 * 1000 := Nat.mul_le_mul (by omega) z4
    have hs : j.toNat * xs.length ≤ sizeLine := Nat.le_trans hb (by rw [sizeLine_eq]; decide)
    refine op_rep pins s σ H _ _ v u Q I rx ry ⟨_, _, vs, rfl, rfl, h1, by omega, by omega, by rw [← e3, Nat.mul_comm]; exact hs, fun p hp => ?_⟩
    exact k (.lst p) _ _ _ (step_newL m hp) rfl (m.newL hp (l1.flat j.toNat) (by rw [List.length_flatten, List.map_replicate, List.sum_replicate_nat]; exact hs)) (w p (m.free hp))
  · cases r2
    rename_i ds j
    obtain ⟨⟨z2, z3, z4⟩, w⟩ := w
    obtain ⟨p, xs, rfl, h1, l1, zz⟩ := r1
    have e1 := l1.length
    by_cases z1 : ds = []
    · subst z1
      cases (show xs = [] from l1)
      refine op_repT0 pins s σ H _ _ v u Q I rx ry ⟨p, j, rfl, rfl, ⟨z2, z3⟩, h1, ?_⟩
      have e : (List.replicate j.toNat ([] : List D)).flatten = [] := by simp
      rw [e] at w
      exact fin w ⟨_, _, rfl, h1, l1, zz⟩
    by_cases j1 : j = 1
    · subst j1
      refine op_repT1 pins s σ H _ _ v u Q I rx ry ⟨p, xs, rfl, rfl, h1, ?_⟩
      have e : (List.replicate (1 : Int).toNat ds).flatten = ds := by simp
      rw [e] at w
      exact fin w ⟨_, _, rfl, h1, l1, zz⟩
    have z2 : 2 ≤ j := by omega
    refine op_repT pins s σ H _ _ v u Q I rx ry ⟨p, j, xs, rfl, rfl, h1, fun e => z1 (List.eq_nil_of_length_eq_zero (by rw [e1, e]; rfl)), z2, z3, by omega, fun p3 hp => ?_⟩
    refine k (.tup _) M _ _ (step_new m hp) ⟨_, _, rfl, .inl (.inl upd_same), (l1.flat j.toNat).keep (keep_new hp), ?_⟩ (m.new hp) w
    rw [List.length_flatten, List.map_replicate, List.sum_replicate_nat]
    have : j.toNat * ds.length ≤ 1000 * 1000 := Nat.mul_le_mul (by omega) z4
    exact Nat.le_trans this (by rw [sizeLine_eq]; decide)
  · exact w.elim
theorem op_aug (op : Bin) : OpR X (inplaceOp op.op) (LR2 X.K (augW op)) := by
  rintro pins s σ H x y v u Q I rx ry ⟨dx, dy, M, q, r1, r2, m, w, k⟩
  have fin : ∀ {d : D} {v : V}, q d M → Rep X.K H d v → Q v H := fun z r => k _ M _ H .refl r m z
  unfold augW at w
  split at w
  · cases r1; cases r2
    exact iop_add pins s σ H _ _ v u Q I rx ry ⟨_, _, rfl, rfl, fin w rfl⟩
  · cases r1; cases r2
    exact iop_sub pins s σ H _ _ v u Q I rx ry ⟨_, _, rfl, rfl, fin w rfl⟩
  · cases r1; cases r2
    obtain ⟨z, w⟩ := w
    exact opI (C := IntMulOk) (g := fun i j => i * j) (fun _ _ _ _ _ _ _ hc q => imul_int q hc) pins s σ H _ _ v u Q I rx ry ⟨_, _, rfl, rfl, z, fin w rfl⟩
  · cases r1; cases r2
    obtain ⟨z, w⟩ := w
    exact iop_add_str pins s σ H _ _ v u Q I rx ry ⟨_, _, rfl, rfl, z, fin w rfl⟩
  · cases r1; cases r2
    obtain ⟨xs, ys, e1, e2, z, w⟩ := w
    obtain ⟨vs, h1, l1, _⟩ := m _ _ e1
    obtain ⟨ws, h2, l2, _⟩ := m _ _ e2
    have e3 := l1.length
    have e4 := l2.length
    refine iop_ext pins s σ H _ _ v u Q I rx ry ⟨_, _, vs, ws, rfl, rfl, h1, h2, by omega, ?_⟩
    exact k (.lst _) _ _ _ (step_wr e1 h1) rfl (m.wr h1 (l1.app l2) (by rw [List.length_append]; exact z)) w
  · exact w.elim

/-! ### == -/
mutual
def toPy : D → PyData
  | .non => .none
  | .bl b => .bool b
  | .int i => .int i
  | .str s => .str s
  | .tup ds => .tuple (toPyL ds)
  | .lst _ => .none
  | .scr _ _ => .none
def toPyL : List D → List PyData
  | [] => []
  | d :: ds => toPy d :: toPyL ds
end
mutual
theorem dp_of {K : PySem.W.Frag} {H : Hp} : ∀ (d : D) (v : V), d.pure = true → Rep K H d v → Dp K H v (toPy d)
  | .non, _, _, h => by cases h; exact .non
  | .bl _, _, _, h => by cases h; exact .bl _
  | .int _, _, _, h => by cases h; exact .int _
  | .str _, _, _, h => by cases h; exact .str _
  | .tup ds, v, p, h => by
    obtain ⟨a, xs, rfl, q, r, z⟩ := h
    exact .tup q (dpl_of ds xs (by simpa [D.pure] using p) r)
  | .lst _, _, p, _ => by simp [D.pure] at p
  | .scr _ _, _, p, _ => by simp [D.pure] at p
theorem dpl_of {K : PySem.W.Frag} {H : Hp} : ∀ (ds : List D) (xs : List V), D.pureL ds = true → RepL K H ds xs → DpAll K H xs (toPyL ds)
  | [], _, _, h => by cases h; exact .nil
  | d :: ds, xs, p, h => by
    obtain ⟨x, r, rfl, q, t⟩ := h
    simp only [D.pureL, Bool.and_eq_true] at p
    exact .cons (dp_of d x p.1 q) (dpl_of ds r p.2 t)
end
mutual
theorem lay_of : ∀ d : D, d.pure = true → (toPy d).canLay0 = true
  | .non, _ => by simp [toPy, PyData.canLay0]
  | .bl _, _ => by simp [toPy, PyData.canLay0]
  | .int _, _ => by simp [toPy, PyData.canLay0]
  | .str _, h => by simpa [toPy, PyData.canLay0, D.pure] using h
  | .tup ds, h => by simp only [toPy, PyData.canLay0]; exact layl_of ds (by simpa [D.pure] using h)
  | .lst _, _ => by simp [toPy, PyData.canLay0]
  | .scr _ _, _ => by simp [toPy, PyData.canLay0]
theorem layl_of : ∀ ds : List D, D.pureL ds = true → PyData.canLayAll0 (toPyL ds) = true
  | [], _ => by simp [toPyL, PyData.canLayAll0]
  | d :: ds, h => by
    simp only [D.pureL, Bool.and_eq_true] at h
    simp only [toPyL, PyData.canLayAll0, lay_of d h.1, layl_of ds h.2, Bool.and_self]
end
mutual
theorem dep_of : ∀ d : D, (toPy d).depth ≤ d.depth + 1
  | .non => by simp [toPy, PyData.depth]
  | .bl _ => by simp [toPy, PyData.depth]
  | .int _ => by simp [toPy, PyData.depth]
  | .str _ => by simp [toPy, PyData.depth]
  | .tup ds => by
    have := depl_of ds
    simp only [toPy, PyData.depth, D.depth]; omega
  | .lst _ => by simp [toPy, PyData.depth]
  | .scr _ _ => by simp [toPy, PyData.depth]
theorem depl_of : ∀ ds : List D, PyData.depthAll (toPyL ds) ≤ D.depthL ds + 1
  | [] => by simp [toPyL, PyData.depthAll]
  | d :: ds => by
    have h1 := dep_of d
    have h2 := depl_of ds
    simp only [toPyL, PyData.depthAll, D.depthL]; omega
end
mutual
theorem eqv_deq : ∀ d e : D, d.pure = true → e.pure = true → PyData.eqv (toPy d) (toPy e) = deq d e
  | .non, e, _, pe => by cases e <;> simp [D.pure] at pe <;> simp [toPy, PyData.eqv, deq]
  | .bl _, e, _, pe => by cases e <;> simp [D.pure] at pe <;> simp [toPy, PyData.eqv, deq]
  | .int _, e, _, pe => by cases e <;> simp [D.pure] at pe <;> simp [toPy, PyData.eqv, deq]
  | .str _, e, _, pe => by cases e <;> simp [D.pure] at pe <;> simp [toPy, PyData.eqv, deq]
  | .tup ds, e, pd, pe => by
    cases e with
    | tup es =>
      simp only [toPy, PyData.eqv, deq]
      exact eqvl_deq ds es (by simpa [D.pure] using pd) (by simpa [D.pure] using pe)
    | _ => simp [D.pure] at pe <;> simp [toPy, PyData.eqv, deq]
  | .lst _, _, p, _ => by simp [D.pure] at p
  | .scr _ _, _, p, _ => by simp [D.pure] at p
theorem eqvl_deq : ∀ ds es : List D, D.pureL ds = true → D.pureL es = true → PyData.eqvAll (toPyL ds) (toPyL es) = deqL ds es
  | [], es, _, _ => by cases es <;> simp [toPyL, PyData.eqvAll, deqL]
  | d :: ds, [], _, _ => by simp [toPyL, PyData.eqvAll, deqL]
  | d :: ds, e :: es, pd, pe => by
    simp only [D.pureL, Bool.and_eq_true] at pd pe
    simp only [toPyL, PyData.eqvAll, deqL, eqv_deq d e pd.1 pe.1, eqvl_deq ds es pd.2 pe.2]
end
theorem shaped_of {d : D} (hp : d.pure = true) (h : d.depth ≤ 60) : SeqAt.shaped (toPy d) = true := by
  have h1 := lay_of d hp
  have h2 := dep_of d
  have h3 : (toPy d).depth ≤ 64 := by omega
  simp [SeqAt.shaped, h1, h3]
theorem shapedL_of {ds : List D} (hp : D.pureL ds = true) (h : D.depthL ds ≤ 60) : SeqAt.shaped (.list (toPyL ds)) = true := by
  have h1 := layl_of ds hp
  have h2 := depl_of ds
  have h3 : PyData.depth (.list (toPyL ds)) ≤ 64 := by simp only [PyData.depth]; omega
  have h4 : PyData.canLay0 (.list (toPyL ds)) = true := by simp only [PyData.canLay0]; exact h1
  simp [SeqAt.shaped, h4, h3]
theorem eqw_ok {K : PySem.W.Frag} {H : Hp} {M : Mem} {dx dy : D} {x y : V} {q : Bool → Prop} (r1 : Rep K H dx x) (r2 : Rep K H dy y) (m : RepM K H M) (w : eqW dx dy M q) :
    ∃ d e, Dp K H x d ∧ Dp K H y e ∧ SeqAt.shaped d = true ∧ SeqAt.shaped e = true ∧ q (PyData.eqv d e) := by
  unfold eqW at w
  split at w
  · cases r1; cases r2
    obtain ⟨xs, ys, e1, e2, ⟨p1, p2, p3, p4⟩, w⟩ := w
    obtain ⟨vs, h1, l1, _⟩ := m _ _ e1
    obtain ⟨ws, h2, l2, _⟩ := m _ _ e2
    refine ⟨.list (toPyL xs), .list (toPyL ys), .lst (SqL.of h1) (dpl_of _ _ p1 l1), .lst (SqL.of h2) (dpl_of _ _ p2 l2), shapedL_of p1 p3, shapedL_of p2 p4, ?_⟩
    simp only [PyData.eqv]
    rw [eqvl_deq _ _ p1 p2]; exact w
  · obtain ⟨⟨p1, p2, p3, p4⟩, w⟩ := w
    refine ⟨toPy dx, toPy dy, dp_of _ _ p1 r1, dp_of _ _ p2 r2, shaped_of p1 p3, shaped_of p2 p4, ?_⟩
    rw [eqv_deq _ _ p1 p2]; exact w

/-! ### in -/
theorem any_deq {dx : D} (px : dx.pure = true) : ∀ ys : List D, D.pureL ys = true → ((toPyL ys).any fun z => PyData.eqv z (toPy dx)) = ys.any fun z => deq z dx
  | [], _ => rfl
  | y :: ys, h => by
    simp only [D.pureL, Bool.and_eq_true] at h
    simp only [toPyL, List.any_cons, eqv_deq _ _ h.1 px, any_deq px ys h.2]
theorem inw_ok {K : PySem.W.Frag} {H : Hp} {M : Mem} {dx dy : D} {x y : V} {q : Bool → Prop} (r1 : Rep K H dx x) (r2 : Rep K H dy y) (m : RepM K H M) (w : inW dx dy M q) :
    ∃ d ds, Dp K H x d ∧ (Dp K H y (.list ds) ∨ Dp K H y (.tuple ds)) ∧ SeqAt.shaped d = true ∧ SeqAt.shaped (.list ds) = true ∧ q (ds.any fun z => PyData.eqv z d) := by
  unfold inW at w
  split at w
  · obtain ⟨p, xs, rfl, h, l, _⟩ := r2
    obtain ⟨⟨p1, p2, p3, p4⟩, w⟩ := w
    exact ⟨toPy dx, _, dp_of _ _ p1 r1, .inr (.tup h (dpl_of _ _ p2 l)), shaped_of p1 p3, shapedL_of p2 p4, by rw [any_deq p1 _ p2]; exact w⟩
  · cases r2
    obtain ⟨ys, e, ⟨p1, p2, p3, p4⟩, w⟩ := w
    obtain ⟨xs, h, l, _⟩ := m _ _ e
    exact ⟨toPy dx, _, dp_of _ _ p1 r1, .inl (.lst (SqL.of h) (dpl_of _ _ p2 l)), shaped_of p1 p3, shapedL_of p2 p4, by rw [any_deq p1 _ p2]; exact w⟩
  · exact w.elim
theorem roomU {k : Nat} {A : Around} (r : Room k A) : A.units + 66 < cLine := by
  have := r.un
  omega
theorem op_inT (hu : X.A.units + 65 < cLine) : OpR X (compareOp .In) (fun x y H Q => ∃ d ds, Dp X.K H x d ∧ Dp X.K H y (.tuple ds) ∧ SeqAt.shaped d = true ∧ SeqAt.shaped (.list ds) = true ∧ Q (.bl (ds.any fun z => PyData.eqv z d)) H) := by
  rintro pins s σ H x y v u Q I rx ry ⟨d, ds, hd, he, sd, se, q⟩
  obtain ⟨_, r1⟩ := Dp.reads I d x v hd rx
  obtain ⟨_, r2⟩ := Dp.reads I (.tuple ds) y u he ry
  exact SeqAt.in_tuple_reads r2 r1 (SeqAt.canLay_of_shaped se) (SeqAt.canLay_of_shaped sd) (room_in_shaped sd hu) ⟨.bl _, H, I, rfl, q⟩
theorem op_notInT (hu : X.A.units + 65 < cLine) : OpR X (compareOp .NotIn) (fun x y H Q => ∃ d ds, Dp X.K H x d ∧ Dp X.K H y (.tuple ds) ∧ SeqAt.shaped d = true ∧ SeqAt.shaped (.list ds) = true ∧ Q (.bl (!ds.any fun z => PyData.eqv z d)) H) := by
  rintro pins s σ H x y v u Q I rx ry ⟨d, ds, hd, he, sd, se, q⟩
  obtain ⟨_, r1⟩ := Dp.reads I d x v hd rx
  obtain ⟨_, r2⟩ := Dp.reads I (.tuple ds) y u he ry
  exact SeqAt.notIn_tuple_reads r2 r1 (SeqAt.canLay_of_shaped se) (SeqAt.canLay_of_shaped sd) (room_in_shaped sd hu) ⟨.bl _, H, I, rfl, q⟩

def cmpF (op : Cm) : D → D → Mem → K1 → Prop := fun x y M q => cmpW op x y M fun k => q (.bl k) M
theorem op_cmp (hu : X.A.units + 66 < cLine) (op : Cm) : OpR X (compareOp op.op) (LR2 X.K (cmpF op)) := by
  rintro pins s σ H x y v u Q I rx ry ⟨dx, dy, M, q, r1, r2, m, w, k⟩
  have fin : ∀ b, q (.bl b) M → Q (.bl b) H := fun b z => k (.bl b) M _ H .refl rfl m z
  cases op with
  | lt =>
    cases dx <;> cases dy <;> first | exact False.elim w | skip
    cases r1; cases r2
    exact op_lt pins s σ H _ _ v u Q I rx ry ⟨_, _, rfl, rfl, fin _ w⟩
  | le =>
    cases dx <;> cases dy <;> first | exact False.elim w | skip
    cases r1; cases r2
    exact op_le pins s σ H _ _ v u Q I rx ry ⟨_, _, rfl, rfl, fin _ w⟩
  | gt =>
    cases dx <;> cases dy <;> first | exact False.elim w | skip
    cases r1; cases r2
    exact op_gt pins s σ H _ _ v u Q I rx ry ⟨_, _, rfl, rfl, fin _ w⟩
  | ge =>
    cases dx <;> cases dy <;> first | exact False.elim w | skip
    cases r1; cases r2
    exact op_ge pins s σ H _ _ v u Q I rx ry ⟨_, _, rfl, rfl, fin _ w⟩
  | eq =>
    obtain ⟨d, e, a1, a2, a3, a4, a5⟩ := eqw_ok (q := fun b => q (.bl b) M) r1 r2 m w
    exact op_eqD (by omega) pins s σ H _ _ v u Q I rx ry ⟨d, e, a1, a2, a3, a4, fin _ a5⟩
  | ne =>
    obtain ⟨d, e, a1, a2, a3, a4, a5⟩ := eqw_ok (q := fun b => q (.bl (!b)) M) r1 r2 m w
    exact op_neD (by omega) pins s σ H _ _ v u Q I rx ry ⟨d, e, a1, a2, a3, a4, fin _ a5⟩
  | isN =>
    cases dy <;> first | exact False.elim w | skip
    rotate_left
    · cases dx <;> first | exact False.elim w | skip
      cases r1; cases r2
      exact op_isBl pins s σ H _ _ v u Q I rx ry ⟨_, _, rfl, rfl, fin _ w⟩
    cases r2
    refine op_isN pins s σ H _ _ v u Q I rx ry ⟨rfl, ?_⟩
    have e : decide (x = .non) = dx.isNon := by
      cases dx <;> first | (cases r1; rfl) | (obtain ⟨_, _, rfl, _⟩ := r1; rfl) | (obtain ⟨rfl, _⟩ := r1; rfl)
    rw [e]; exact fin _ w
  | notN =>
    cases dy <;> first | exact False.elim w | skip
    rotate_left
    · cases dx <;> first | exact False.elim w | skip
      cases r1; cases r2
      exact op_notBl pins s σ H _ _ v u Q I rx ry ⟨_, _, rfl, rfl, fin _ w⟩
    cases r2
    refine op_notN pins s σ H _ _ v u Q I rx ry ⟨rfl, ?_⟩
    have e : decide (x = .non) = dx.isNon := by
      cases dx <;> first | (cases r1; rfl) | (obtain ⟨_, _, rfl, _⟩ := r1; rfl) | (obtain ⟨rfl, _⟩ := r1; rfl)
    rw [e]; exact fin _ w
  | inn =>
    obtain ⟨d, ds, a1, a2, a3, a4, a5⟩ := inw_ok (q := fun b => q (.bl b) M) r1 r2 m w
    rcases a2 with a2 | a2
    · exact op_inD (by omega) pins s σ H _ _ v u Q I rx ry ⟨d, ds, a1, a2, a3, a4, fin _ a5⟩
    · exact op_inT (by omega) pins s σ H _ _ v u Q I rx ry ⟨d, ds, a1, a2, a3, a4, fin _ a5⟩
  | notIn =>
    obtain ⟨d, ds, a1, a2, a3, a4, a5⟩ := inw_ok (q := fun b => q (.bl (!b)) M) r1 r2 m w
    rcases a2 with a2 | a2
    · exact op_notInD (by omega) pins s σ H _ _ v u Q I rx ry ⟨d, ds, a1, a2, a3, a4, fin _ a5⟩
    · exact op_notInT (by omega) pins s σ H _ _ v u Q I rx ry ⟨d, ds, a1, a2, a3, a4, fin _ a5⟩
end
end TB

namespace TB
open PySem PySem.Spec PyProof.Rows L2

/-! ### truth -/
section
variable {K : PySem.W.Frag} {M M' : Mem} {H H' : Hp}
theorem tru_ok' {d : D} {v : V} {k : Bool} (r : Rep K H d v) (m : RepM K H M) (t : tru M d = some k) : TruV K v H k := by
  cases d with
  | non =>
    cases r
    have t : some false = some k := t
    cases t; exact rfl
  | bl b =>
    cases r
    have t : some b = some k := t
    cases t; exact rfl
  | int i =>
    cases r
    have t : some (i != 0) = some k := t
    cases t; exact rfl
  | str s =>
    cases r
    simp only [tru] at t
    split at t
    · rename_i h; cases t; exact ⟨h, rfl⟩
    · cases t
  | tup ds =>
    obtain ⟨a, xs, rfl, q, l, _⟩ := r
    have e := l.length
    have t : some (!ds.isEmpty) = some k := t
    cases t
    refine .inr (.inl ⟨xs, q, ?_⟩)
    cases ds <;> cases xs <;> simp_all
  | lst a =>
    cases r
    simp only [tru, Option.map_eq_some_iff] at t
    obtain ⟨ds, e, rfl⟩ := t
    obtain ⟨xs, h, l, _⟩ := m a ds e
    have e2 := l.length
    refine .inl ⟨xs, SqL.of h, ?_⟩
    cases ds <;> cases xs <;> simp_all
  | scr a ns => simp [tru] at t
end

/-! ### built-in functions -/
section
variable {X : Cx}
theorem blsOf_eq : ∀ {ds : List D} {bs : List Bool}, blsOf ds = some bs → ds = bs.map D.bl
  | [], bs, h => by simp [blsOf] at h; subst h; rfl
  | .bl b :: r, bs, h => by
    simp only [blsOf, Option.map_eq_some_iff] at h
    obtain ⟨cs, e, rfl⟩ := h
    rw [blsOf_eq e]; rfl
  | .non :: _, _, h => by simp [blsOf] at h
  | .int _ :: _, _, h => by simp [blsOf] at h
  | .str _ :: _, _, h => by simp [blsOf] at h
  | .tup _ :: _, _, h => by simp [blsOf] at h
  | .lst _ :: _, _, h => by simp [blsOf] at h
  | .scr _ _ :: _, _, h => by simp [blsOf] at h
theorem intsOf_eq : ∀ {ds : List D} {bs : List Int}, intsOf ds = some bs → ds = bs.map D.int
  | [], bs, h => by simp [intsOf] at h; subst h; rfl
  | .int b :: r, bs, h => by
    simp only [intsOf, Option.map_eq_some_iff] at h
    obtain ⟨cs, e, rfl⟩ := h
    rw [intsOf_eq e]; rfl
  | .non :: _, _, h => by simp [intsOf] at h
  | .bl _ :: _, _, h => by simp [intsOf] at h
  | .str _ :: _, _, h => by simp [intsOf] at h
  | .tup _ :: _, _, h => by simp [intsOf] at h
  | .lst _ :: _, _, h => by simp [intsOf] at h
  | .scr _ _ :: _, _, h => by simp [intsOf] at h

theorem bf_len : CallR X (.builtin "len") (LC X.K (bfW .len)) := by
  rintro pins s σ H xs us Q I r ⟨ds, M, q, rl, m, w, k⟩
  have fin : ∀ {d : D} {v : V}, q d M → Rep X.K H d v → Q v H := fun z r => k _ M _ H .refl r m z
  have w : lenW ds M q := w
  unfold lenW at w
  split at w <;> first | exact w.elim | skip
  all_goals (obtain ⟨x, rfl, rx⟩ := rl.one)
  · obtain ⟨a, ys, rfl, h, l, z⟩ := rx
    refine call_len pins s σ H _ us Q I r ⟨_, ys.length, rfl, .inr ⟨ys, h, rfl⟩, fin w ?_⟩
    rw [l.length]; rfl
  · cases rx
    obtain ⟨ds, e, w⟩ := w
    obtain ⟨ys, h, l, _⟩ := m _ _ e
    refine call_len pins s σ H _ us Q I r ⟨_, ys.length, rfl, .inl ⟨ys, SqL.of h, rfl⟩, fin w ?_⟩
    rw [l.length]; rfl
  · cases rx
    obtain ⟨z, w⟩ := w
    exact call_len pins s σ H _ us Q I r ⟨_, _, rfl, ⟨z, rfl⟩, fin w rfl⟩
  · obtain ⟨rfl, h⟩ := rx
    refine call_len pins s σ H _ us Q I r ⟨_, _, rfl, .inl ⟨_, h.sq, rfl⟩, fin w ?_⟩
    rw [List.length_map]; rfl
theorem bf_abs : CallR X (.builtin "abs") (LC X.K (bfW .abs)) := by
  rintro pins s σ H xs us Q I r ⟨ds, M, q, rl, m, w, k⟩
  have fin : ∀ {d : D} {v : V}, q d M → Rep X.K H d v → Q v H := fun z r => k _ M _ H .refl r m z
  have w : absW ds M q := w
  unfold absW at w
  split at w <;> first | exact w.elim | skip
  obtain ⟨x, rfl, rx⟩ := rl.one
  cases rx
  refine call_abs pins s σ H _ us Q I r ⟨_, rfl, fin w ?_⟩
  show V.int _ = V.int _
  congr 1
  split <;> omega
theorem bf_int : CallR X (.type "int") (LC X.K (bfW .int)) := by
  rintro pins s σ H xs us Q I r ⟨ds, M, q, rl, m, w, k⟩
  have fin : ∀ {d : D} {v : V}, q d M → Rep X.K H d v → Q v H := fun z r => k _ M _ H .refl r m z
  have w : intW ds M q := w
  unfold intW at w
  split at w <;> first | exact w.elim | skip
  all_goals (obtain ⟨x, rfl, rx⟩ := rl.one; cases rx)
  · exact call_int1 pins s σ H _ us Q I r (.inl ⟨_, rfl, fin w rfl⟩)
  · exact call_int1 pins s σ H _ us Q I r (.inr ⟨_, rfl, fin w rfl⟩)
theorem bf_tuple : CallR X (.type "tuple") (LC X.K (bfW .tuple)) := by
  rintro pins s σ H xs us Q I r ⟨ds, M, q, rl, m, w, k⟩
  have fin : ∀ {d : D} {v : V}, q d M → Rep X.K H d v → Q v H := fun z r => k _ M _ H .refl r m z
  have w : tupleW ds M q := w
  unfold tupleW at w
  split at w <;> first | exact w.elim | skip
  all_goals (obtain ⟨x, rfl, rx⟩ := rl.one)
  · obtain ⟨a, ys, rfl, h, l, z⟩ := rx
    exact call_tuple_of pins s σ H _ us Q I r ⟨_, ys, rfl, .inr ⟨h, fin w ⟨_, _, rfl, h, l, z⟩⟩⟩
  · cases rx
    obtain ⟨ds, e, w⟩ := w
    obtain ⟨ys, h, l, z⟩ := m _ _ e
    exact call_tuple_of pins s σ H _ us Q I r ⟨_, ys, rfl, .inl ⟨SqL.of h, fun p hp =>
      k (.tup _) M _ _ (step_new m hp) ⟨_, _, rfl, .inl (.inl upd_same), l.keep (keep_new hp), z⟩ (m.new hp) w⟩⟩
theorem bf_list : CallR X (.type "list") (LC X.K (bfW .list)) := by
  rintro pins s σ H xs us Q I r ⟨ds, M, q, rl, m, w, k⟩
  have w : listW ds M q := w
  unfold listW at w
  split at w <;> first | exact w.elim | skip
  all_goals (obtain ⟨x, rfl, rx⟩ := rl.one)
  · obtain ⟨a, ys, rfl, h, l, z⟩ := rx
    exact call_list_of pins s σ H _ us Q I r ⟨_, ys, rfl, .inr h, fun p hp => k (.lst p) _ _ _ (step_newL m hp) rfl (m.newL hp l z) (w p (m.free hp))⟩
  · cases rx
    obtain ⟨ds, e, w⟩ := w
    obtain ⟨ys, h, l, z⟩ := m _ _ e
    exact call_list_of pins s σ H _ us Q I r ⟨_, ys, rfl, .inl (SqL.of h), fun p hp => k (.lst p) _ _ _ (step_newL m hp) rfl (m.newL hp l z) (w p (m.free hp))⟩
theorem bf_all (hc : X.calm = true) : CallR X (.builtin "all") (LC X.K (bfW .all)) := by
  rintro pins s σ H xs us Q I r ⟨ds, M, q, rl, m, w, k⟩
  have fin : ∀ {d : D} {v : V}, q d M → Rep X.K H d v → Q v H := fun z r => k _ M _ H .refl r m z
  have w : allW ds M q := w
  unfold allW at w
  split at w <;> first | exact w.elim | skip
  obtain ⟨x, rfl, rx⟩ := rl.one
  cases rx
  obtain ⟨ds, bs, e, eb, w⟩ := w
  obtain ⟨ys, h, l, z⟩ := m _ _ e
  rw [blsOf_eq eb] at l
  rw [l.bls_eq] at h
  exact cr_all hc pins s σ H _ us Q I r ⟨_, bs, rfl, SqL.of h, fin w rfl⟩
theorem bf_any (hc : X.calm = true) : CallR X (.builtin "any") (LC X.K (bfW .any)) := by
  rintro pins s σ H xs us Q I r ⟨ds, M, q, rl, m, w, k⟩
  have fin : ∀ {d : D} {v : V}, q d M → Rep X.K H d v → Q v H := fun z r => k _ M _ H .refl r m z
  have w : anyW ds M q := w
  unfold anyW at w
  split at w <;> first | exact w.elim | skip
  obtain ⟨x, rfl, rx⟩ := rl.one
  cases rx
  obtain ⟨ds, bs, e, eb, w⟩ := w
  obtain ⟨ys, h, l, z⟩ := m _ _ e
  rw [blsOf_eq eb] at l
  rw [l.bls_eq] at h
  exact cr_any hc pins s σ H _ us Q I r ⟨_, bs, rfl, SqL.of h, fin w rfl⟩
theorem bf_sum (hc : X.calm = true) : CallR X (.builtin "sum") (LC X.K (bfW .sum)) := by
  rintro pins s σ H xs us Q I r ⟨ds, M, q, rl, m, w, k⟩
  have fin : ∀ {d : D} {v : V}, q d M → Rep X.K H d v → Q v H := fun z r => k _ M _ H .refl r m z
  have w : sumW ds M q := w
  unfold sumW at w
  split at w <;> first | exact w.elim | skip
  obtain ⟨x, rfl, rx⟩ := rl.one
  cases rx
  obtain ⟨ds, bs, e, eb, w⟩ := w
  obtain ⟨ys, h, l, z⟩ := m _ _ e
  rw [intsOf_eq eb] at l
  rw [l.ints_eq] at h
  exact cr_sum hc pins s σ H _ us Q I r ⟨_, bs, rfl, SqL.of h, fin w rfl⟩
theorem bf_min (hc : X.calm = true) : CallR X (.builtin "min") (LC X.K (bfW .min)) := by
  rintro pins s σ H xs us Q I r ⟨ds, M, q, rl, m, w, k⟩
  have fin : ∀ {d : D} {v : V}, q d M → Rep X.K H d v → Q v H := fun z r => k _ M _ H .refl r m z
  have w : minW ds M q := w
  unfold minW at w
  split at w <;> first | exact w.elim | skip
  · obtain ⟨x, rfl, rx⟩ := rl.one
    cases rx
    obtain ⟨ds, bs, e, eb, hl, w⟩ := w
    obtain ⟨ys, h, l, z⟩ := m _ _ e
    rw [intsOf_eq eb] at l
    rw [l.ints_eq] at h
    exact cr_min hc pins s σ H _ us Q I r ⟨_, bs, rfl, SqL.of h, hl, fun y hy h2 => fin (w y hy h2) rfl⟩
  · obtain ⟨x, y, rfl, rx, ry⟩ := rl.two
    cases rx; cases ry
    exact call_min2 hc pins s σ H _ us Q I r ⟨_, _, rfl, fin w rfl⟩
theorem bf_max (hc : X.calm = true) : CallR X (.builtin "max") (LC X.K (bfW .max)) := by
  rintro pins s σ H xs us Q I r ⟨ds, M, q, rl, m, w, k⟩
  have fin : ∀ {d : D} {v : V}, q d M → Rep X.K H d v → Q v H := fun z r => k _ M _ H .refl r m z
  have w : maxW ds M q := w
  unfold maxW at w
  split at w <;> first | exact w.elim | skip
  · obtain ⟨x, rfl, rx⟩ := rl.one
    cases rx
    obtain ⟨ds, bs, e, eb, hl, w⟩ := w
    obtain ⟨ys, h, l, z⟩ := m _ _ e
    rw [intsOf_eq eb] at l
    rw [l.ints_eq] at h
    exact cr_max hc pins s σ H _ us Q I r ⟨_, bs, rfl, SqL.of h, hl, fun y hy h2 => fin (w y hy h2) rfl⟩
  · obtain ⟨x, y, rfl, rx, ry⟩ := rl.two
    cases rx; cases ry
    exact call_max2 hc pins s σ H _ us Q I r ⟨_, _, rfl, fin w rfl⟩
theorem bf_srt : CallR X (.builtin "sorted") (LC X.K (bfW .srt)) := by
  rintro pins s σ H xs us Q I r ⟨ds, M, q, rl, m, w, k⟩
  have w : srtW ds M q := w
  unfold srtW at w
  split at w <;> first | exact w.elim | skip
  obtain ⟨x, rfl, rx⟩ := rl.one
  cases rx
  obtain ⟨ds, bs, e, eb, w⟩ := w
  obtain ⟨ys, h, l, z⟩ := m _ _ e
  have hlen : bs.length ≤ sizeLine := by rw [intsOf_eq eb, List.length_map] at z; exact z
  rw [intsOf_eq eb] at l
  rw [l.ints_eq] at h
  refine cr_sortedI pins s σ H _ us Q I r ⟨_, bs, rfl, SqL.of h, fun ns' p h1 h2 hp => ?_⟩
  exact k (.lst p) (M.up p (ns'.map D.int)) _ _ (step_newL m hp) rfl (m.newL hp RepL.ints (by rw [List.length_map, h1.length_eq]; exact hlen)) (w ns' p h1 h2 (m.free hp))
def Ty.nm : Ty → String
  | .int => "int" | .bool => "bool" | .str => "str" | .tuple => "tuple" | .list => "list"
def D.tn : D → String
  | .non => "NoneType" | .bl _ => "bool" | .int _ => "int" | .str _ => "str" | .tup _ => "tuple" | .lst _ => "list" | .scr _ _ => "list"
inductive Kd | non | bl | int | str | tup | lst
def Kd.tn : Kd → String
  | .non => "NoneType" | .bl => "bool" | .int => "int" | .str => "str" | .tup => "tuple" | .lst => "list"
def isTyK : Ty → Kd → Bool
  | .int, .int => true
  | .int, .bl => true
  | .bool, .bl => true
  | .str, .str => true
  | .tuple, .tup => true
  | .list, .lst => true
  | _, _ => false
theorem kit_K : ∀ (t : Ty) (d : Kd), kitB d.tn t.nm = some (isTyK t d) := by
  intro t d
  cases t <;> cases d <;> decide +kernel
theorem kit_D : ∀ (t : Ty) (d : D), (∀ a ns, d ≠ .scr a ns) → kitB d.tn t.nm = some (isTy t d) := by
  intro t d h
  cases d with
  | non => rw [show isTy t .non = isTyK t .non by cases t <;> rfl]; exact kit_K t .non
  | bl b => rw [show isTy t (.bl b) = isTyK t .bl by cases t <;> rfl]; exact kit_K t .bl
  | int b => rw [show isTy t (.int b) = isTyK t .int by cases t <;> rfl]; exact kit_K t .int
  | str b => rw [show isTy t (.str b) = isTyK t .str by cases t <;> rfl]; exact kit_K t .str
  | tup b => rw [show isTy t (.tup b) = isTyK t .tup by cases t <;> rfl]; exact kit_K t .tup
  | lst b => rw [show isTy t (.lst b) = isTyK t .lst by cases t <;> rfl]; exact kit_K t .lst
  | scr a ns => exact absurd rfl (h a ns)
theorem tyx_of {K : PySem.W.Frag} {H : Hp} {M : Mem} {d : D} {v : V} (r : Rep K H d v) (m : RepM K H M) (hl : ∀ a, d = .lst a → ∃ ds, M a = some ds) (hs : ∀ a ns, d ≠ .scr a ns) : TyX K H v (.type d.tn) := by
  cases d with
  | non => cases r; exact .base .non
  | bl b => cases r; exact .base (.bl b)
  | int b => cases r; exact .base (.int b)
  | str b => cases r; exact .base (.str b)
  | tup ds =>
    obtain ⟨a, xs, rfl, q, _⟩ := r
    rcases q with (q | ⟨o, q⟩) | ⟨o, its, n, h1, h2, _⟩
    · exact .base (.tup q)
    · exact .fTuple q
    · exact .kTuple h1 h2
  | lst a =>
    cases r
    obtain ⟨ds, e⟩ := hl a rfl
    obtain ⟨xs, h, _⟩ := m a ds e
    exact .base (.lst h)
  | scr a ns => exact absurd rfl (hs a ns)
theorem bf_isT (t : Ty) : CallR X (.builtin "isinstance") (fun xs H Q => ∃ x, xs = [x, .ty t.nm] ∧ LC X.K (bfW (.isT t)) [x] H Q) := by
  rintro pins s σ H xs us Q I r ⟨x, rfl, ds, M, q, rl, m, w, k⟩
  have fin : ∀ {d : D} {v : V}, q d M → Rep X.K H d v → Q v H := fun z r => k _ M _ H .refl r m z
  match ds, rl, w with
  | [], rl, w => cases rl
  | [d], rl, w =>
    obtain ⟨y, e, rx⟩ := rl.one
    cases e
    have key : (∀ a, d = .lst a → ∃ ds, M a = some ds) ∧ (∀ a ns, d ≠ .scr a ns) ∧ q (.bl (isTy t d)) M := by
      cases d with
      | lst a => obtain ⟨ds, e, w⟩ := w; exact ⟨fun b e2 => by cases e2; exact ⟨ds, e⟩, (fun a ns => nofun), w⟩
      | scr a ns => exact False.elim w
      | _ => exact ⟨nofun, nofun, w⟩
    obtain ⟨h1, h2, w⟩ := key
    have kb := kit_D t d h2
    exact call_isi pins s σ H _ us Q I r ⟨x, .ty t.nm, .type d.tn, .type t.nm, _, rfl, .ty _, tyx_of rx m h1 h2, kit_ty kb, fin w rfl⟩
  | d :: e :: r', rl, w =>
    obtain ⟨x1, r1, e1, _, t1⟩ := rl
    obtain ⟨x2, r2, e2, _, t2⟩ := t1
    subst e2
    cases e1

theorem bf_str : CallR X (.type "str") (LC X.K (bfW .str)) := by
  rintro pins s σ H xs us Q I r ⟨ds, M, q, rl, m, w, k⟩
  have fin : ∀ {d : D} {v : V}, q d M → Rep X.K H d v → Q v H := fun z r => k _ M _ H .refl r m z
  have w : strW ds M q := w
  unfold strW at w
  split at w <;> first | exact w.elim | skip
  obtain ⟨x, rfl, rx⟩ := rl.one
  cases rx
  exact call_str_int pins s σ H _ us Q I r ⟨_, rfl, w.1, fin w.2 rfl⟩
/-! ### methods of lists -/
theorem RepL.single {K : PySem.W.Frag} {H : Hp} {d : D} {v : V} (r : Rep K H d v) : RepL K H [d] [v] := ⟨v, [], rfl, r, rfl⟩
theorem m_append : MtR X "list.append" (LM X.K (mthW .append)) := by
  rintro pins s σ H x xs v us Q I rx rv ⟨dx, ds, M, q, r1, rl, m, w, k⟩
  have w : appendW dx ds M q := w
  unfold appendW at w
  split at w <;> first | exact w.elim | skip
  cases r1
  obtain ⟨y, rfl, ry⟩ := rl.one
  obtain ⟨es, e, hz, w⟩ := w
  obtain ⟨ys, h, l, z⟩ := m _ _ e
  have el := l.length
  refine mt_append pins s σ H _ _ v us Q I rx rv ⟨_, ys, y, rfl, rfl, h, by omega, ?_⟩
  exact k .non _ _ _ (step_wr e h) rfl (m.wr h (l.app (RepL.single ry)) (by simp; omega)) w
theorem m_insert : MtR X "list.insert" (LM X.K (mthW .insert)) := by
  rintro pins s σ H x xs v us Q I rx rv ⟨dx, ds, M, q, r1, rl, m, w, k⟩
  have w : insertW dx ds M q := w
  unfold insertW at w
  split at w <;> first | exact w.elim | skip
  cases r1
  obtain ⟨y0, y, rfl, ry0, ry⟩ := rl.two
  cases ry0
  obtain ⟨es, e, hz, h0, h1, w⟩ := w
  obtain ⟨ys, h, l, z⟩ := m _ _ e
  have el := l.length
  refine mt_insert pins s σ H _ _ v us Q I rx rv ⟨_, ys, _, y, rfl, rfl, h, by omega, h0, h1, ?_⟩
  exact k .non _ _ _ (step_wr e h) rfl (m.wr h (((l.take _).app (RepL.single ry)).app (l.drop _)) (by simp; omega)) w
theorem m_popAt : MtR X "list.pop" (LM X.K (mthW .popAt)) := by
  rintro pins s σ H x xs v us Q I rx rv ⟨dx, ds, M, q, r1, rl, m, w, k⟩
  have w : popAtW dx ds M q := w
  unfold popAtW at w
  split at w <;> first | exact w.elim | skip
  cases r1
  obtain ⟨y0, rfl, ry0⟩ := rl.one
  cases ry0
  obtain ⟨es, d, j, e, h0, h1, hi, hd, w⟩ := w
  obtain ⟨ys, h, l, z⟩ := m _ _ e
  have el := l.length
  obtain ⟨y, hy, ry⟩ := l.get hd
  refine mt_popAt pins s σ H _ _ v us Q I rx rv ⟨_, ys, _, j, y, rfl, rfl, h, h0, h1, by rw [← el]; exact hi, hy, ?_⟩
  exact k d _ _ _ (step_wr e h) (ry.keep (keep_wr h)) (m.wr h (l.erase j) (by have := len_erase es j; omega)) w
theorem m_pop : MtR X "list.pop" (LM X.K (mthW .pop)) := by
  rintro pins s σ H x xs v us Q I rx rv ⟨dx, ds, M, q, r1, rl, m, w, k⟩
  have w : popW dx ds M q := w
  unfold popW at w
  split at w <;> first | exact w.elim | skip
  cases r1
  cases rl
  obtain ⟨es, d, e, hd, w⟩ := w
  obtain ⟨ys, h, l, z⟩ := m _ _ e
  have el := l.length
  obtain ⟨y, hy, ry⟩ := l.get hd
  refine mt_pop pins s σ H _ _ v us Q I rx rv ⟨_, ys, y, rfl, rfl, h, by rw [← el]; exact hy, ?_⟩
  exact k d _ _ _ (step_wr e h) (ry.keep (keep_wr h)) (m.wr h l.dropLast (by simp; omega)) w
theorem m_extend : MtR X "list.extend" (LM X.K (mthW .extend)) := by
  rintro pins s σ H x xs v us Q I rx rv ⟨dx, ds, M, q, r1, rl, m, w, k⟩
  have w : extendW dx ds M q := w
  unfold extendW at w
  split at w
  · cases r1
    obtain ⟨y0, rfl, ry0⟩ := rl.one
    cases ry0
    obtain ⟨es, fs, e, e2, hz, w⟩ := w
    obtain ⟨ys, h, l, z⟩ := m _ _ e
    obtain ⟨ys2, h2, l2, z2⟩ := m _ _ e2
    have el := l.length
    have el2 := l2.length
    refine mt_extend pins s σ H _ _ v us Q I rx rv ⟨_, _, ys, ys2, rfl, rfl, h, h2, by omega, ?_⟩
    exact k .non _ _ _ (step_wr e h) rfl (m.wr h (l.app l2) (by simp; omega)) w
  · cases r1
    obtain ⟨y0, rfl, ry0⟩ := rl.one
    obtain ⟨es, e, hz, w⟩ := w
    obtain ⟨ys, h, l, z⟩ := m _ _ e
    obtain ⟨b, ys2, rfl, h2, l2, z2⟩ := ry0
    have el := l.length
    have el2 := l2.length
    refine mt_extendT pins s σ H _ _ v us Q I rx rv ⟨_, _, ys, ys2, rfl, rfl, h, h2, by omega, ?_⟩
    exact k .non _ _ _ (step_wr e h) rfl (m.wr h (l.app l2) (by simp; omega)) w
  · exact w.elim

/-! ### subscripts -/
theorem atI_rep {K : PySem.W.Frag} {H : Hp} {ds : List D} {xs : List V} (l : RepL K H ds xs) {i : Int} {d : D} (h : atI ds i = some d) : ∃ v, atI xs i = some v ∧ Rep K H d v := by
  unfold atI at h ⊢
  rw [← l.length]
  cases e : ixN ds.length i with
  | none => rw [e] at h; cases h
  | some j =>
    rw [e] at h
    exact l.get (by simpa using h)
theorem ix_ok : IxR X (LR2 X.K ixW) := by
  intro value slice pins s σ H x y v u Q I rx ry h0 hs
  obtain ⟨dx, dy, M, q, r1, r2, m, w, k⟩ := h0
  have fin : ∀ {d : D} {v : V}, q d M → Rep X.K H d v → Q v H := fun z r => k _ M _ H .refl r m z
  unfold ixW at w
  split at w
  · cases r2
    obtain ⟨p, xs, rfl, h, l, z⟩ := r1
    obtain ⟨d, e, w⟩ := w
    obtain ⟨z, ez, rz⟩ := atI_rep l e
    exact ix_tup value slice pins s σ H _ _ v u Q I rx ry ⟨p, xs, _, z, rfl, rfl, h, ez, fin w rz⟩ hs
  · cases r1; cases r2
    obtain ⟨ds, d, e0, e, w⟩ := w
    obtain ⟨xs, h, l, _⟩ := m _ _ e0
    obtain ⟨z, ez, rz⟩ := atI_rep l e
    exact ix_list value slice pins s σ H _ _ v u Q I rx ry ⟨_, xs, _, z, rfl, rfl, SqL.of h, ez, fin w rz⟩ hs
  · cases r1; cases r2
    obtain ⟨c, z, e, w⟩ := w
    exact ix_str value slice pins s σ H _ _ v u Q I rx ry ⟨_, _, c, rfl, rfl, z, e, fin w rfl⟩ hs
  · exact w.elim
def LSl (K : PySem.W.Frag) : V → Option Int → Option Int → Hp → VK → Prop := fun x lo hi H Q => ∃ dx M q, Rep K H dx x ∧ RepM K H M ∧ slW dx lo hi M q ∧
  ∀ d M' v H', Step M H M' H' → Rep K H' d v → RepM K H' M' → q d M' → Q v H'
theorem cut_rep {K : PySem.W.Frag} {H : Hp} {ds : List D} {xs : List V} (l : RepL K H ds xs) (lo hi : Option Int) : RepL K H (cutD ds lo hi) (cutV xs lo hi) := by
  unfold cutD cutV
  rw [l.length]
  exact (l.drop _).take _
theorem cutD_length {α : Type} (xs : List α) (lo hi : Option Int) : (cutD xs lo hi).length ≤ xs.length := by
  unfold cutD
  rw [List.length_take, List.length_drop]; omega
theorem cut_map {α β : Type} (f : α → β) (xs : List α) (lo hi : Option Int) : cutD (xs.map f) lo hi = (cutD xs lo hi).map f := by
  unfold cutD
  rw [List.length_map, List.map_take, List.map_drop]
theorem sl_ok : SlR X (LSl X.K) := by
  rintro pins s σ H x v vl vu lo hi sl Q I rx hs pl pu ⟨dx, M, q, r1, m, w, k⟩
  have fin : ∀ {d : D} {v : V}, q d M → Rep X.K H d v → Q v H := fun z r => k _ M _ H .refl r m z
  unfold slW at w
  split at w
  · obtain ⟨p, xs, rfl, h, l, z⟩ := r1
    rename_i ds
    have lc := cut_rep l lo hi
    have zc : (cutD ds lo hi).length ≤ sizeLine := Nat.le_trans (cutD_length _ _ _) z
    refine sl_tupA pins s σ H _ v vl vu lo hi sl Q I rx hs pl pu ⟨p, xs, rfl, h, fun ⟨h1, h2⟩ => ?_, fun _ p2 hp => ?_⟩
    · have e : cutD ds lo hi = ds := by
        unfold cutD
        rw [l.length, h1, h2, List.drop_zero, Nat.sub_zero, ← l.length, List.take_length]
      rw [e] at w
      exact fin w ⟨_, _, rfl, h, l, z⟩
    · exact k (.tup _) M _ _ (step_new m hp) ⟨_, _, rfl, .inl (.inl upd_same), lc.keep (keep_new hp), zc⟩ (m.new hp) w
  · cases r1
    obtain ⟨ds, e, w⟩ := w
    obtain ⟨xs, h, l, z⟩ := m _ _ e
    have lc := cut_rep l lo hi
    have zc : (cutD ds lo hi).length ≤ sizeLine := Nat.le_trans (cutD_length _ _ _) z
    exact sl_list pins s σ H _ v vl vu lo hi sl Q I rx hs pl pu ⟨_, xs, rfl, SqL.of h, fun p hp => k (.lst p) _ _ _ (step_newL m hp) rfl (m.newL hp lc zc) (w p (m.free hp))⟩
  · rename_i ns
    obtain ⟨rfl, h⟩ := r1
    obtain ⟨z, w⟩ := w
    have l : RepL X.K H (ns.map D.int) (ns.map V.int) := RepL.ints
    have lc := cut_rep l lo hi
    rw [cut_map] at lc
    have zc : ((cutD ns lo hi).map D.int).length ≤ sizeLine := by rw [List.length_map]; exact Nat.le_trans (cutD_length _ _ _) z
    exact sl_list pins s σ H _ v vl vu lo hi sl Q I rx hs pl pu ⟨_, _, rfl, h.sq, fun p hp => k (.lst p) _ _ _ (step_newL m hp) rfl (m.newL hp lc zc) (w p (m.free hp))⟩
  · exact w.elim
/-- o[i] = v -/
def LSet (K : PySem.W.Frag) : V → V → V → Hp → (Hp → Prop) → Prop := fun o i v H Q => ∃ dO dI dV M q, Rep K H dO o ∧ Rep K H dI i ∧ Rep K H dV v ∧ RepM K H M ∧ setW dO dI dV M q ∧
  ∀ M' H', Step M H M' H' → RepM K H' M' → q M' → Q H'
theorem set_ok : PSet X (LSet X.K) := by
  rintro pins s σ H o i v ov iv u Q I ro ri rv ⟨dO, dI, dV, M, q, r1, r2, r3, m, w, k⟩
  unfold setW at w
  split at w
  · cases r1; cases r2
    obtain ⟨ds, j, e, ej, w⟩ := w
    obtain ⟨xs, h, l, z⟩ := m _ _ e
    refine set_list pins s σ H _ _ v ov iv u Q I ro ri rv ⟨_, xs, _, j, rfl, rfl, h, by rw [← l.length]; exact ej, ?_⟩
    exact k _ _ (step_wr e h) (m.wr h (l.set j r3) (by rw [List.length_set]; exact z)) w
  · exact w.elim
end
theorem toPyL_get : ∀ {ds : List D} {j : Nat} {z : PyData}, (toPyL ds)[j]? = some z → ∃ d, ds[j]? = some d ∧ z = toPy d
  | [], _, _, h => by simp [toPyL] at h
  | d :: ds, 0, z, h => by simp [toPyL] at h; exact ⟨d, rfl, h.symm⟩
  | d :: ds, j + 1, z, h => by
    simp only [toPyL, List.getElem?_cons_succ] at h ⊢
    exact toPyL_get h
theorem get_toPyL : ∀ {ds : List D} {j : Nat} {d : D}, ds[j]? = some d → (toPyL ds)[j]? = some (toPy d)
  | [], _, _, h => by simp at h
  | d :: ds, 0, e, h => by simp at h; subst h; rfl
  | d :: ds, j + 1, e, h => by
    simp only [toPyL, List.getElem?_cons_succ] at h ⊢
    exact get_toPyL h
theorem pureL_at : ∀ {ds : List D} {j : Nat} {d : D}, D.pureL ds = true → ds[j]? = some d → d.pure = true
  | [], _, _, _, h => by simp at h
  | d :: ds, 0, e, p, h => by simp at h; subst h; simp only [D.pureL, Bool.and_eq_true] at p; exact p.1
  | d :: ds, j + 1, e, p, h => by
    simp only [D.pureL, Bool.and_eq_true] at p
    simp only [List.getElem?_cons_succ] at h
    exact pureL_at p.2 h
theorem m_index {X : Cx} (hu : X.A.units + 65 < cLine) : MtR X "list.index" (LM X.K (mthW .index)) := by
  rintro pins s σ H x xs v us Q I rx rv ⟨dx, ds, M, q, r1, rl, m, w, k⟩
  have w : indexW dx ds M q := w
  unfold indexW at w
  split at w <;> first | exact w.elim | skip
  cases r1
  obtain ⟨y, rfl, ry⟩ := rl.one
  obtain ⟨es, j, z, e, ⟨p1, p2, p3, p4⟩, hj, hz, hf, w⟩ := w
  obtain ⟨ys, h, l, _⟩ := m _ _ e
  refine mt_indexD hu pins s σ H _ _ v us Q I rx rv ⟨_, y, toPy _, toPyL es, j, toPy z, rfl, rfl, .lst (SqL.of h) (dpl_of _ _ p2 l), dp_of _ _ p1 ry, shapedL_of p2 p4, shaped_of p1 p3, get_toPyL hj, ?_, fun n z' hn hz' => ?_, k (.int j) M _ H .refl rfl m w⟩
  · rw [eqv_deq _ _ (pureL_at p2 hj) p1]; exact hz
  · obtain ⟨d', hd', rfl⟩ := toPyL_get hz'
    rw [eqv_deq _ _ (pureL_at p2 hd') p1]; exact hf n d' hn hd'
end TB

/-! EngX: enumerate over a tuple -/
namespace TB
open PySem PySem.Spec PyProof.Rows L2

theorem newE {v : Value} {o : Obj} {G : Heap → Prop} (B : Begins v o G) :
    Meets (Builtin.«enumerate.__new__» ⟨[.type "enumerate", v], []⟩) (fun _ R s => G s.heap ∧
      R (.ok (.ret (.ref (s.heap.push o).objs.size))) { s with heap := (s.heap.push o).push { cls := .type "enumerate", data := .fields #[.none, .bool false, .ref s.heap.objs.size, rawInt 0, .none, .none] } }) :=
  .of_wp fun prog w A R s h => by
    obtain ⟨hp, g, d, tk, os⟩ := s
    obtain ⟨h1, h⟩ := h
    have hsub := sub_enumerate
    have goes : ∀ {A' : Around} {E : Value → Shared → Prop} {Q : Value → Shared → Prop}, Q (.ref hp.objs.size) ⟨hp.push o, g, d, tk, os⟩ → wpAny (model prog w) A' (pyIter v) Q E ⟨hp, g, d, tk, os⟩ := fun q =>
      B.iter prog w _ _ ⟨hp, g, d, tk, os⟩ _ h1 q
    wp_walk using goes
    refine wpAny_stack_any fun st => wpAny_pure ?_
    split
    · rename_i c _ _ _ _ _
      cases (c == Value.type "enumerate") <;> (wp_walk using goes; exact ⟨_, rfl, h⟩)
    · wp_walk using goes
      exact ⟨_, rfl, h⟩
section
variable {prog : Program} {w : World} {A : Around} {E : Value → Shared → Prop} {s : Shared}
theorem callE {v : Value} {o : Obj} {G : Heap → Prop} {Q : Value → Shared → Prop} (B : Begins v o G) (h1 : G s.heap)
    (h : ∀ h', IsEnum h' (s.heap.objs.size + 1) s.heap.objs.size 0 .none → h'.get? s.heap.objs.size = some o → (∀ b o, s.heap.get? b = some o → h'.get? b = some o) → Q (.ref (s.heap.objs.size + 1)) { s with heap := h' }) :
    wpAny (model prog w) A (call (.type "enumerate") [v]) Q E s := by
  refine callType_new F.called_enumerate (by decide) (F.typeCall_enumerate_1 _) (F.newCall_enumerate_1 _) (fun obj => F.args_object_init_2 obj _) F.entry_enumerate_new (newE B) ⟨h1, ?_⟩
  have hz : (s.heap.push o).objs.size = s.heap.objs.size + 1 := Heap.size_push ..
  show _ ∧ _
  rw [hz]
  have he : IsEnum ((s.heap.push o).push { cls := .type "enumerate", data := .fields #[.none, .bool false, .ref s.heap.objs.size, rawInt 0, .none, .none] }) (s.heap.objs.size + 1) s.heap.objs.size 0 .none := by
    have e := Heap.get?_push_size (s.heap.push o) (o := { cls := .type "enumerate", data := .fields #[.none, .bool false, .ref s.heap.objs.size, rawInt 0, .none, .none] }) rfl
    rw [hz] at e
    exact e
  exact ⟨⟨_, he, rfl⟩, h _ he (Heap.get?_push_of_some _ (Heap.get?_push_size _ B.free)) fun b o x => Heap.get?_push_of_some _ (Heap.get?_push_of_some _ x)⟩
end
/-- the tuple at a as it stands at each turn, each item in a new pair -/
def IteT (K : PySem.W.Frag) (a : Addr) : It :=
  ⟨fun i H => ∃ (xs : List V) (x : V), SqT K H a xs ∧ xs[i]? = some x, fun i H v H' => ∃ T x, v = .ref T ∧ H T = none ∧ H' = upd H T (.tup [.int (i : Nat), x]) ∧ ∀ xs, SqT K H a xs → xs[i]? = some x, fun i H => ∃ xs : List V, SqT K H a xs ∧ xs.length = i⟩
theorem turnE {P : Program} {w : World} {K : PySem.W.Frag} {elts : List Expr} {kk : Nat} {tpos : Pos} {a e it : Addr} (hei : e ≠ it) (hai : a ≠ it) (hea : e ≠ a) :
    Turn P w K (.Tuple elts kk tpos) (IteT K a) [e, it] e (fun i h => (∃ old, IsEnum h e it ((i : Nat) : Int) old) ∧ h.IsTupleIter it a i) where
  mem := by simp
  obj := fun i h st b hb => by
    obtain ⟨⟨old, he⟩, ⟨o, ho, hc, hd⟩⟩ := st
    rcases List.mem_cons.mp hb with z | z
    · rw [z]; exact ⟨_, he, fun v q => nomatch q⟩
    · rw [List.mem_singleton.mp z]; exact ⟨o, ho, fun v q => by rw [hd] at q; cases q⟩
  keep := fun i h h' st k => let ⟨⟨old, he⟩, hi⟩ := st; ⟨⟨old, k e (by simp) _ he⟩, hi.at fun o q => k it (by simp) o q⟩
  item := by
    intro X hP hw hK hc i pins s σ H E I hf st hg
    subst hP hw hK
    obtain ⟨⟨old, he⟩, hit⟩ := st
    obtain ⟨xs, x, hq, hx⟩ := hg
    obtain ⟨its, rv, p, hz⟩ := I.tuple hq
    obtain ⟨u, hu, ru⟩ := rv.get hx
    have hlt : i < its.toArray.size := by
      have e1 := (List.getElem?_eq_some_iff.mp hu).1
      simpa using e1
    have hel : e < s.heap.objs.size := Heap.lt_size he
    have hil : it < s.heap.objs.size := by
      obtain ⟨_, q, _⟩ := hit
      exact Heap.lt_size q
    have p' : s.heap.IsTuple a its.toArray := p
    refine wpAny_pyNext_enum_itemD (Draws.tuple (show X.A.in1.handled = none from I.ok.hd hc) it a hai its.toArray) he ⟨hit, p'⟩ hlt hei (by simp [hei, hea]) fun y h' tk hy ho st' hT hsz hk => ?_
    have hyu : y = u := by
      have hy : its.toArray[i]? = some y := hy
      simp at hy
      rw [hu] at hy
      exact (Option.some.inj hy).symm
    subst hyu
    refine ⟨_, rfl, wpAny_letOwnedTupleGo_enum (s := { s with heap := h', toks := tk + 1 }) ho fun h'' he' sb => ?_⟩
    have hT2 : h''.get? s.heap.objs.size = some { cls := .type "tuple", data := .seq #[.int i tk, y] } := (sb.2 _ (Nat.ne_of_gt hel)).trans hT
    have new : ObjOk X.prog X.w (upd H s.heap.objs.size (.tup [.int (i : Nat), x])) h'' s.heap.objs.size (.tup [.int (i : Nat), x]) :=
      ⟨by show 2 ≤ sizeLine; decide, [.int i tk, y], .cons ⟨_, rfl⟩ (.cons ru .nil), ⟨_, hT2, rfl, _, rfl⟩⟩
    have I1 : Inv X pins σ (upd H s.heap.objs.size (.tup [.int (i : Nat), x])) { s with heap := h'', toks := tk + 1 } :=
      I.turnedNew (t' := tk + 1) (ch := [e, it]) (fun b ob hb q => (sb.2 b (fun z => hb (by simp [z]))).trans (hk b ob (fun z => hb (by simp [z])) (fun z => hb (by simp [z])) q)) hf (Nat.le_refl _) new
    refine ⟨.ref s.heap.objs.size, _, I1, rfl, ⟨_, x, rfl, I.hok.fresh (Nat.le_refl _), rfl, fun ys hy => by rw [I.tuple_inj hy hq]; exact hx⟩, ⟨⟨y, ?_⟩, st'.1.at fun o q => (sb.2 it (Ne.symm hei)).trans q⟩, fun b hb => ?_⟩
    · have e1 : ((i + 1 : Nat) : Int) = (i : Int) + 1 := by omega
      rw [e1]
      exact he'
    · have hb' : b < s.heap.objs.size := by
        rcases List.mem_cons.mp hb with z | z
        · rw [z]; exact hel
        · rw [List.mem_singleton.mp z]; exact hil
      rw [upd_ne (Nat.ne_of_lt hb')]
      exact (hf b hb).1
  done := by
    intro X hP hw hK hc i pins s σ H E I hf st hg
    subst hP hw hK
    obtain ⟨⟨old, he⟩, hit⟩ := st
    obtain ⟨xs, hq, hx⟩ := hg
    obtain ⟨its, rv, p, hz⟩ := I.tuple hq
    obtain ⟨f0, f1, f2, f3, f4, f5⟩ := hf it (by simp)
    have hn : its.toArray.size = i := by
      have e1 := rv.length
      simp; omega
    have st' : s.heap.IsTupleIter it a its.toArray.size ∧ s.heap.IsTuple a its.toArray := by
      rw [hn]; exact ⟨hit, p⟩
    exact wpAny_pyNext_enum_endD (Draws.tuple (show X.A.in1.handled = none from I.ok.hd hc) it a hai its.toArray) he st' fun h' eb => ⟨rfl, I.turned (t' := s.toks) (fun b o hb q => eb b o hb q) f0 f1 f3 f4 f5⟩
  self := fun A i s Q E st h => let ⟨⟨_, he⟩, _⟩ := st; wpAny_pyIter_enum he h
def iEnumT (K : PySem.W.Frag) (ta : TA) : TI := fun σ H R => ta σ H fun vs H1 => ∃ a xs, vs = [.ref a] ∧ ((SqL K H1 a xs ∧ R (Ite K a) H1) ∨ (SqT K H1 a xs ∧ R (IteT K a) H1))
theorem pi_enumT {X : Cx} {e : Expr} {ta : TA} {p pos tpos : Pos} {elts : List Expr} {kk : Nat} (hg : Gl X "enumerate") (hm : X.mg "enumerate" = none) (ha : PA X [e] ta) (hs : starEach [e] X.env = [(false, eval e X.env)]) :
    PI X (.Tuple elts kk tpos) (.Call (.Name "enumerate" p) [e] [] pos) (iEnumT X.K ta) := by
  refine ⟨fun pins s σ H R I h => ?_⟩
  refine Call_ (ld_blt I hg hm boot_enumerate (PyProof.Rows.callWith_type1 (thn (ha.run pos pins s σ H _ I h) fun us s1 ⟨vs, H1, I1, r1, q1⟩ => ?_) hs rfl))
  obtain ⟨a, xs, ex, q⟩ := q1
  subst ex
  cases r1 with
  | cons r rr =>
    cases rr
    cases r
    have fresh : ∀ b, b ∈ [s1.heap.objs.size + 1, s1.heap.objs.size] → FpOk X pins H1 b := fun b hb => by
      have hle : s1.heap.objs.size ≤ b := by
        rcases List.mem_cons.mp hb with z | z
        · omega
        · rw [List.mem_singleton.mp z]; exact Nat.le_refl _
      exact I1.fpOk hle (I1.hok.fresh hle)
    rcases q with ⟨hq, q⟩ | ⟨hq, q⟩
    · obtain ⟨its, rv, p', hz⟩ := I1.list hq
      refine call_enumerate_list p'.isList fun h' he hit hsz hk => wpAny_pyIter_enum he ?_
      exact ⟨s1.heap.objs.size + 1, [s1.heap.objs.size + 1, s1.heap.objs.size], _, _, H1, rfl, I1.kept (t' := s1.toks) hk, turn_enum a (s1.heap.objs.size + 1) s1.heap.objs.size, ⟨⟨.none, he⟩, hit, Nat.succ_ne_self _⟩, fresh, q⟩
    · obtain ⟨its, rv, p', hz⟩ := I1.tuple hq
      obtain ⟨o1, ho1, _⟩ := id p'
      have lt := Heap.lt_size ho1
      refine callE (begins_tuple a its.toArray) p' fun h' he hit hk => wpAny_pyIter_enum he ?_
      exact ⟨s1.heap.objs.size + 1, [s1.heap.objs.size + 1, s1.heap.objs.size], _, _, H1, rfl, I1.kept (t' := s1.toks) hk, turnE (Nat.succ_ne_self _) (Nat.ne_of_lt lt) (Nat.ne_of_gt (Nat.lt_succ_of_lt lt)), ⟨⟨.none, he⟩, ⟨_, hit, rfl, rfl⟩⟩, fresh, q⟩
end TB

/-! Engz: enumerate over zip of two tuples -/
namespace TB
open PySem PySem.Spec PyProof.Rows L2 RZ
/-- a zip with any owned tuple -/
abbrev IsZ (h : Heap) (z TI TO : Addr) (f0 f1 : Value) : Prop :=
  h.get? z = some { cls := .type "zip", dict := none, data := .fields #[f0, f1, .bool false, .ref TI, .ref TO], slots := #[] }
def ZF (f0 f1 : Value) : Prop := (f0 = .none ∨ ∃ T : Nat, f0 = rawInt T) ∧ ∃ b, f1 = .bool b
section
variable {prog : Program} {w : World} {A : Around} {E : Value → Shared → Prop} {s : Shared}
theorem z_alive {a : Addr} {Q : Option Obj → Shared → Prop} (h : Q (s.heap.get? a) s) : wpAny (model prog w) A (loadIfAlive a) Q E s := fun _ _ _ => h
theorem z_free {z TI TO : Addr} {f0 f1 : Value} {Q : Bool → Shared → Prop} (hz : IsZ s.heap z TI TO f0 f1) (hf : ZF f0 f1)
    (h1 : Q true s) (h2 : ∀ h' f1', ZF f0 f1' → IsZ h' z TI TO f0 f1' → Heap.SameBut z s.heap h' → Q false { s with heap := h' }) : wpAny (model prog w) A (Builtin.SmallTypes.ownedTupleIsFree (.ref z)) Q E s := by
  obtain ⟨hf0, b, rfl⟩ := hf
  unfold Builtin.SmallTypes.ownedTupleIsFree
  rcases hf0 with rfl | ⟨T, rfl⟩
  · exact wpAny_bind (wpAny_field hz rfl (x := .none) rfl (wpAny_pure h1))
  · refine wpAny_bind (wpAny_field hz rfl (x := rawInt T) rfl ?_)
    show wpAny _ _ (loadIfAlive ((T : Int).toNat) >>= _) _ _ _
    rw [Int.toNat_natCast]
    refine wpAny_bind (z_alive ?_)
    cases hT : s.heap.get? T with
    | none =>
      simp only [Option.isNone_none, if_true]
      exact wpAny_pure h1
    | some oT =>
      simp only [Option.isNone_some, Bool.false_eq_true, if_false]
      refine wpAny_bind (wpAny_field hz rfl (x := .bool b) rfl ?_)
      cases b with
      | true =>
        rw [if_neg (show ¬ ((Value.bool true != Value.bool true) = true) from Bool.false_ne_true)]
        exact wpAny_pure (h2 s.heap _ ⟨.inr ⟨T, rfl⟩, true, rfl⟩ hz (Heap.SameBut.refl _ _))
      | false =>
        rw [if_pos (show (Value.bool false != Value.bool true) = true from rfl)]
        exact wpAny_bind (wpAny_setField_rec hz (by simp) fun h₁ hz₁ hs₁ => wpAny_pure (h2 h₁ _ ⟨.inr ⟨T, rfl⟩, true, rfl⟩ hz₁ hs₁))
theorem z_next_item {z TI TO i1 i2 l1 l2 : Addr} {f0 f1 : Value} {k1 k2 : Nat} {xs ys : Array Value} {x y a b : Value} {Q : Value → Shared → Prop} (D : ZipApart z TI TO i1 i2 l1 l2)
    (hz : IsZ s.heap z TI TO f0 f1) (hf : ZF f0 f1) (hTI : IsPair s.heap TI (.ref i1) (.ref i2)) (hTO : IsPair s.heap TO a b)
    (h1 : s.heap.IsTupleIter i1 l1 k1) (h2 : s.heap.IsTupleIter i2 l2 k2) (hl1 : s.heap.IsTuple l1 xs) (hl2 : s.heap.IsTuple l2 ys) (hx : xs[k1]? = some x) (hy : ys[k2]? = some y)
    (hQ : ∀ h' f0' f1' a' b', ZF f0' f1' → IsZ h' z TI TO f0' f1' → IsPair h' TO a' b' → h'.IsTupleIter i1 l1 (k1 + 1) → h'.IsTupleIter i2 l2 (k2 + 1) → IsPair h' s.heap.objs.size x y → h'.objs.size = s.heap.objs.size + 1 →
      (∀ c o, c ≠ z → c ≠ TO → c ≠ i1 → c ≠ i2 → s.heap.get? c = some o → h'.get? c = some o) → Q (.ref s.heap.objs.size) { s with heap := h' }) :
    wpAny (model prog w) A (Builtin.«zip.__next__» ⟨[.ref z], []⟩) (fun fin s' => ∃ v, fin = .done (.ret v) ∧ Q v s') E s := by
  show wpAny _ _ (field (.ref z) 2 >>= _) _ _ _
  refine wpAny_bind (wpAny_field hz rfl (x := .bool false) rfl ?_)
  show wpAny _ _ (field (.ref z) 3 >>= _) _ _ _
  refine wpAny_bind (wpAny_field hz rfl (x := .ref TI) rfl ?_)
  refine wpAny_bind (wpAny_seqItems hTI rfl ?_)
  show wpAny _ _ (Builtin.SmallTypes.ownedTupleIsFree (.ref z) >>= _) _ _ _
  refine wpAny_bind (z_free hz hf ?_ fun h₁ f1' hf' hz₁ hs₁ => ?_)
  · simp only [if_true]
    refine wpAny_bind (wpAny_rule ?_)
    refine wpAny_bind (wpAny_field hz rfl (x := .ref TO) rfl ?_)
    refine wpAny_bind (wpAny_setField_rec hz (by simp) fun h₁ hz₁ hs₁ => ?_)
    replace hz₁ : IsZ h₁ z TI TO .ellipsis f1 := hz₁
    refine wpAny_bind ?_
    simp only [List.zipIdx_cons, List.zipIdx_nil, List.forIn_cons, List.forIn_nil]
    refine wpAny_bind (wpAny_bind (wpAny_onRaise ?_))
    show wpAny _ _ (Builtin.SmallTypes.nextOf (.ref i1) >>= _) _ _ _
    refine wpAny_bind (nextOf_tuple_item (h1.extBut hs₁.extBut D.i1z) (hl1.extBut hs₁.extBut D.l1z) hx fun h₂ h1₂ hs₂ => wpAny_pure ?_)
    have hTO₂ : IsPair h₂ TO a b := hs₂.extBut _ _ D.TOi1 (hs₁.extBut _ _ D.TOz hTO)
    refine wpAny_bind (wpAny_seqItems hTO₂ rfl ?_)
    refine wpAny_bind (wpAny_updateSeq_pair hTO₂ fun h₃ hTO₃ hs₃ => ?_)
    replace hTO₃ : IsPair h₃ TO x b := hTO₃
    refine wpAny_bind (wpAny_letGo (wpAny_pure ?_))
    refine wpAny_bind (wpAny_bind (wpAny_onRaise ?_))
    show wpAny _ _ (Builtin.SmallTypes.nextOf (.ref i2) >>= _) _ _ _
    refine wpAny_bind (nextOf_tuple_item (((h2.extBut hs₁.extBut D.i2z).extBut hs₂.extBut D.i12.symm).extBut hs₃.extBut D.TOi2.symm)
      (((hl2.extBut hs₁.extBut D.l2z).extBut hs₂.extBut D.l2i1).extBut hs₃.extBut D.l2TO) hy fun h₄ h2₄ hs₄ => wpAny_pure ?_)
    have hTO₄ : IsPair h₄ TO x b := hs₄.extBut _ _ D.TOi2 hTO₃
    refine wpAny_bind (wpAny_seqItems hTO₄ rfl ?_)
    refine wpAny_bind (wpAny_updateSeq_pair hTO₄ fun h₅ hTO₅ hs₅ => ?_)
    replace hTO₅ : IsPair h₅ TO x y := hTO₅
    refine wpAny_bind (wpAny_letGo (wpAny_pure (wpAny_pure ?_)))
    refine wpAny_bind (wpAny_seqItems hTO₅ rfl ?_)
    refine wpAny_bind (wpAny_newTuple ?_)
    have hsz : h₅.objs.size = s.heap.objs.size := by rw [hs₅.1, hs₄.1, hs₃.1, hs₂.1, hs₁.1]
    have hz₅ : IsZ h₅ z TI TO .ellipsis f1 := hs₅.extBut _ _ D.TOz.symm (hs₄.extBut _ _ D.i2z.symm (hs₃.extBut _ _ D.TOz.symm (hs₂.extBut _ _ D.i1z.symm hz₁)))
    have hk₅ : ∀ c o, c ≠ z → c ≠ TO → c ≠ i1 → c ≠ i2 → s.heap.get? c = some o → h₅.get? c = some o := fun c o c1 c2 c3 c4 e =>
      hs₅.extBut _ _ c2 (hs₄.extBut _ _ c4 (hs₃.extBut _ _ c2 (hs₂.extBut _ _ c3 (hs₁.extBut _ _ c1 e))))
    have h1₅ : h₅.IsTupleIter i1 l1 (k1 + 1) := ((h1₂.extBut hs₃.extBut D.TOi1.symm).extBut hs₄.extBut D.i12).extBut hs₅.extBut D.TOi1.symm
    have h2₅ : h₅.IsTupleIter i2 l2 (k2 + 1) := h2₄.extBut hs₅.extBut D.TOi2.symm
    have hzlt : z < h₅.objs.size := Heap.lt_size hz₅
    show wpAny _ _ (Builtin.SmallTypes.ownedTupleHandOut (.ref z) (.ref h₅.objs.size) >>= _) _ _ _
    refine wpAny_bind ?_
    unfold Builtin.SmallTypes.ownedTupleHandOut
    have hz₆ : IsZ (h₅.push { cls := .type "tuple", data := .seq #[x, y] }) z TI TO .ellipsis f1 := Heap.get?_push_of_some _ hz₅
    refine wpAny_bind (wpAny_setField_rec hz₆ (by simp) fun h₇ hz₇ hs₇ => ?_)
    replace hz₇ : IsZ h₇ z TI TO (rawInt h₅.objs.size) f1 := hz₇
    refine wpAny_setField_rec hz₇ (by simp) fun h₈ hz₈ hs₈ => ?_
    replace hz₈ : IsZ h₈ z TI TO (rawInt h₅.objs.size) (.bool false) := hz₈
    have up : ∀ c o, c ≠ z → h₅.get? c = some o → h₈.get? c = some o := fun c o c1 e => hs₈.extBut _ _ c1 (hs₇.extBut _ _ c1 (Heap.get?_push_of_some _ e))
    have hT₈ : IsPair h₈ h₅.objs.size x y := hs₈.extBut _ _ (Nat.ne_of_gt hzlt) (hs₇.extBut _ _ (Nat.ne_of_gt hzlt) (Heap.get?_push_size _ rfl))
    have hz8 : h₈.objs.size = h₅.objs.size + 1 := by rw [hs₈.1, hs₇.1, Heap.size_push]
    rw [hsz] at hz₈ hT₈ hz8
    refine wpAny_pure ⟨_, rfl, ?_⟩
    show Q (.ref h₅.objs.size) _
    rw [hsz]
    exact hQ h₈ _ _ _ _ ⟨.inr ⟨_, rfl⟩, false, rfl⟩ hz₈ (up _ _ D.TOz hTO₅) (h1₅.at fun o e => up _ o D.i1z e) (h2₅.at fun o e => up _ o D.i2z e) hT₈ hz8 fun c o c1 c2 c3 c4 e => up c o c1 (hk₅ c o c1 c2 c3 c4 e)
  · simp only [Bool.false_eq_true, if_false]
    refine wpAny_bind ?_
    rw [← Array.forIn_toList]
    simp only [List.forIn_cons, List.forIn_nil]
    refine wpAny_bind (wpAny_bind (wpAny_holding ?_))
    show wpAny _ _ (Builtin.SmallTypes.nextOf (.ref i1) >>= _) _ _ _
    refine wpAny_bind (nextOf_tuple_item (s := { s with heap := h₁ }) (h1.extBut hs₁.extBut D.i1z) (hl1.extBut hs₁.extBut D.l1z) hx fun h₂ h1₂ hs₂ => wpAny_pure ?_)
    refine wpAny_pure ?_
    refine wpAny_bind (wpAny_bind (wpAny_holding ?_))
    show wpAny _ _ (Builtin.SmallTypes.nextOf (.ref i2) >>= _) _ _ _
    refine wpAny_bind (nextOf_tuple_item (s := { s with heap := h₂ }) ((h2.extBut hs₁.extBut D.i2z).extBut hs₂.extBut D.i12.symm) ((hl2.extBut hs₁.extBut D.l2z).extBut hs₂.extBut D.l2i1) hy fun h₃ h2₃ hs₃ => wpAny_pure ?_)
    refine wpAny_pure (wpAny_pure ?_)
    show wpAny _ _ (newTuple [x, y] >>= _) _ _ _
    refine wpAny_bind (wpAny_newTuple ?_)
    have hsz : h₃.objs.size = s.heap.objs.size := by rw [hs₃.1, hs₂.1, hs₁.1]
    have hz₃ : IsZ h₃ z TI TO f0 f1' := hs₃.extBut _ _ D.i2z.symm (hs₂.extBut _ _ D.i1z.symm hz₁)
    have hTO₃ : IsPair h₃ TO a b := hs₃.extBut _ _ D.TOi2 (hs₂.extBut _ _ D.TOi1 (hs₁.extBut _ _ D.TOz hTO))
    have hk : ∀ c o, c ≠ z → c ≠ i1 → c ≠ i2 → s.heap.get? c = some o → h₃.get? c = some o := fun c o c1 c2 c3 e => hs₃.extBut _ _ c3 (hs₂.extBut _ _ c2 (hs₁.extBut _ _ c1 e))
    have h1₃ : h₃.IsTupleIter i1 l1 (k1 + 1) := h1₂.extBut hs₃.extBut D.i12
    refine wpAny_pure ⟨_, rfl, ?_⟩
    show Q (.ref h₃.objs.size) _
    have hp : IsPair (h₃.push { cls := .type "tuple", data := .seq #[x, y] }) h₃.objs.size x y := Heap.get?_push_size _ rfl
    have hz4 : (h₃.push { cls := .type "tuple", data := .seq #[x, y] }).objs.size = h₃.objs.size + 1 := Heap.size_push ..
    rw [hsz] at hp hz4 ⊢
    exact hQ _ _ _ _ _ hf' (Heap.get?_push_of_some _ hz₃) (Heap.get?_push_of_some _ hTO₃) (h1₃.at fun o e => Heap.get?_push_of_some _ e) (h2₃.at fun o e => Heap.get?_push_of_some _ e) hp hz4 fun c o c1 c2 c3 c4 e => Heap.get?_push_of_some _ (hk c o c1 c3 c4 e)
theorem z_next_end {z TI TO i1 i2 l1 l2 : Addr} {f0 f1 : Value} {k1 k2 : Nat} {xs ys : Array Value} {a b : Value} {Q : Fin → Shared → Prop} (hh : A.handled = none) (D : ZipApart z TI TO i1 i2 l1 l2)
    (hz : IsZ s.heap z TI TO f0 f1) (hf : ZF f0 f1) (hTI : IsPair s.heap TI (.ref i1) (.ref i2)) (hTO : IsPair s.heap TO a b)
    (h1 : s.heap.IsTupleIter i1 l1 k1) (h2 : s.heap.IsTupleIter i2 l2 k2) (hl1 : s.heap.IsTuple l1 xs) (hl2 : s.heap.IsTuple l2 ys) (hend : xs[k1]? = none ∨ ys[k2]? = none)
    (hE : ∀ h' e, (∀ c o, c ≠ z → c ≠ TO → c ≠ i1 → c ≠ i2 → s.heap.get? c = some o → h'.get? c = some o) → (∃ o, h'.get? e = some o ∧ o.cls = .type "StopIteration") → E (.ref e) { s with heap := h' }) :
    wpAny (model prog w) A (Builtin.«zip.__next__» ⟨[.ref z], []⟩) Q E s := by
  show wpAny _ _ (field (.ref z) 2 >>= _) _ _ _
  refine wpAny_bind (wpAny_field hz rfl (x := .bool false) rfl ?_)
  show wpAny _ _ (field (.ref z) 3 >>= _) _ _ _
  refine wpAny_bind (wpAny_field hz rfl (x := .ref TI) rfl ?_)
  refine wpAny_bind (wpAny_seqItems hTI rfl ?_)
  show wpAny _ _ (Builtin.SmallTypes.ownedTupleIsFree (.ref z) >>= _) _ _ _
  refine wpAny_bind (z_free hz hf ?_ fun h₁ f1' hf' hz₁ hs₁ => ?_)
  · simp only [if_true]
    refine wpAny_bind (wpAny_rule ?_)
    refine wpAny_bind (wpAny_field hz rfl (x := .ref TO) rfl ?_)
    refine wpAny_bind (wpAny_setField_rec hz (by simp) fun h₁ hz₁ hs₁ => ?_)
    replace hz₁ : IsZ h₁ z TI TO .ellipsis f1 := hz₁
    refine wpAny_bind ?_
    simp only [List.zipIdx_cons, List.zipIdx_nil, List.forIn_cons, List.forIn_nil]
    refine wpAny_bind (wpAny_bind (wpAny_onRaise ?_))
    show wpAny _ _ (Builtin.SmallTypes.nextOf (.ref i1) >>= _) _ _ _
    cases hx : xs[k1]? with
    | none =>
      refine wpAny_bind (nextOf_tuple_end hh (h1.extBut hs₁.extBut D.i1z) (hl1.extBut hs₁.extBut D.l1z) hx fun h₂ e hs₂ he => ?_)
      obtain ⟨oe, hoe, hce⟩ := he
      have hz₂ : IsZ h₂ z TI TO .ellipsis f1 := hs₂ _ _ D.i1z.symm hz₁
      have hez : e ≠ z := fun x => by subst x; rw [hz₂] at hoe; cases hoe; simp at hce
      refine wpAny_setField_rec hz₂ (by simp) fun h₃ _ hs₃ => hE h₃ e (fun c o c1 _ c3 _ x => hs₃.extBut _ _ c1 (hs₂ _ _ c3 (hs₁.extBut _ _ c1 x))) ⟨oe, hs₃.extBut _ _ hez hoe, hce⟩
    | some x =>
      have hy : ys[k2]? = none := by rcases hend with h | h; rw [hx] at h; cases h; exact h
      refine wpAny_bind (nextOf_tuple_item (h1.extBut hs₁.extBut D.i1z) (hl1.extBut hs₁.extBut D.l1z) hx fun h₂ h1₂ hs₂ => wpAny_pure ?_)
      have hTO₂ : IsPair h₂ TO a b := hs₂.extBut _ _ D.TOi1 (hs₁.extBut _ _ D.TOz hTO)
      refine wpAny_bind (wpAny_seqItems hTO₂ rfl ?_)
      refine wpAny_bind (wpAny_updateSeq_pair hTO₂ fun h₃ hTO₃ hs₃ => ?_)
      refine wpAny_bind (wpAny_letGo (wpAny_pure ?_))
      refine wpAny_bind (wpAny_bind (wpAny_onRaise ?_))
      show wpAny _ _ (Builtin.SmallTypes.nextOf (.ref i2) >>= _) _ _ _
      refine wpAny_bind (nextOf_tuple_end hh (((h2.extBut hs₁.extBut D.i2z).extBut hs₂.extBut D.i12.symm).extBut hs₃.extBut D.TOi2.symm)
        (((hl2.extBut hs₁.extBut D.l2z).extBut hs₂.extBut D.l2i1).extBut hs₃.extBut D.l2TO) hy fun h₄ e hs₄ he => ?_)
      obtain ⟨oe, hoe, hce⟩ := he
      have hz₄ : IsZ h₄ z TI TO .ellipsis f1 := hs₄ _ _ D.i2z.symm (hs₃.extBut _ _ D.TOz.symm (hs₂.extBut _ _ D.i1z.symm hz₁))
      have hez : e ≠ z := fun x => by subst x; rw [hz₄] at hoe; cases hoe; simp at hce
      refine wpAny_setField_rec hz₄ (by simp) fun h₅ _ hs₅ => hE h₅ e (fun c o c1 c2 c3 c4 x => hs₅.extBut _ _ c1 (hs₄ _ _ c4 (hs₃.extBut _ _ c2 (hs₂.extBut _ _ c3 (hs₁.extBut _ _ c1 x))))) ⟨oe, hs₅.extBut _ _ hez hoe, hce⟩
  · simp only [Bool.false_eq_true, if_false]
    refine wpAny_bind ?_
    rw [← Array.forIn_toList]
    simp only [List.forIn_cons, List.forIn_nil]
    refine wpAny_bind (wpAny_bind (wpAny_holding ?_))
    show wpAny _ _ (Builtin.SmallTypes.nextOf (.ref i1) >>= _) _ _ _
    cases hx : xs[k1]? with
    | none =>
      refine wpAny_bind (nextOf_tuple_end (s := { s with heap := h₁ }) hh (h1.extBut hs₁.extBut D.i1z) (hl1.extBut hs₁.extBut D.l1z) hx fun h₂ e hs₂ he => ?_)
      exact hE h₂ e (fun c o c1 _ c3 _ x => hs₂ _ _ c3 (hs₁.extBut _ _ c1 x)) he
    | some x =>
      have hy : ys[k2]? = none := by rcases hend with h | h; rw [hx] at h; cases h; exact h
      refine wpAny_bind (nextOf_tuple_item (s := { s with heap := h₁ }) (h1.extBut hs₁.extBut D.i1z) (hl1.extBut hs₁.extBut D.l1z) hx fun h₂ h1₂ hs₂ => wpAny_pure ?_)
      refine wpAny_pure ?_
      refine wpAny_bind (wpAny_bind (wpAny_holding ?_))
      show wpAny _ _ (Builtin.SmallTypes.nextOf (.ref i2) >>= _) _ _ _
      refine wpAny_bind (nextOf_tuple_end (s := { s with heap := h₂ }) hh ((h2.extBut hs₁.extBut D.i2z).extBut hs₂.extBut D.i12.symm) ((hl2.extBut hs₁.extBut D.l2z).extBut hs₂.extBut D.l2i1) hy fun h₃ e hs₃ he => ?_)
      exact hE h₃ e (fun c o c1 _ c3 c4 x => hs₃ _ _ c4 (hs₂.extBut _ _ c3 (hs₁.extBut _ _ c1 x))) he
/-- next of a zip, as another builtin asks it -/
theorem z_nextOf {z : Addr} {Q : Value → Shared → Prop} {TI TO : Addr} {f0 f1 : Value} (hz : IsZ s.heap z TI TO f0 f1)
    (h : ∀ A', (A'.handled = A.handled) → wpAny (model prog w) A' (Builtin.«zip.__next__» ⟨[.ref z], []⟩) (fun fin s' => ∃ v, fin = .done (.ret v) ∧ Q v s') E s) : wpAny (model prog w) A (Builtin.SmallTypes.nextOf (.ref z)) Q E s := by
  have hTy : s.TypeIs (.ref z) "zip" := ⟨_, hz, rfl⟩
  unfold Builtin.SmallTypes.nextOf
  refine wpAny_bind (wpAny_callSpecial?_slot (name := Str.ofString "__next__") hTy F.slot_zip_next (wpAny_call_entry F.slot_zip_next hTy F.entry_zip_next ?_ (F.args_zip_next_1 _)))
  refine wpAny_mono (h _ rfl) (fun fin s' ⟨v, e, q⟩ => ⟨v, e, ?_⟩) fun _ _ x => x
  exact wpAny_pure q
/-- enumerate's next over any iterator that may make new objects -/
theorem en_next_item {e it : Addr} {i : Int} {old : Value} {Q : Value → Shared → Prop} (he : IsEnum s.heap e it i old) (NX : Value → Heap → Prop)
    (inner : ∀ Q' : Value → Shared → Prop, (∀ x h₁, NX x h₁ → Q' x { s with heap := h₁ }) → wpAny (model prog w) A (Builtin.SmallTypes.nextOf (.ref it)) Q' E s) (hE : ∀ x h₁, NX x h₁ → IsEnum h₁ e it i old)
    (hQ : ∀ x h₁ h' tk, NX x h₁ → IsEnumOut h' e it (i + 1) x h₁.objs.size → h'.get? h₁.objs.size = some { cls := .type "tuple", data := .seq #[.int i tk, x] } → h'.objs.size = h₁.objs.size + 1 →
      (∀ b o, b ≠ e → h₁.get? b = some o → h'.get? b = some o) → Q (.ref h₁.objs.size) { s with heap := h', toks := tk + 1 }) :
    wpAny (model prog w) A (Builtin.«enumerate.__next__» ⟨[.ref e], []⟩) (fun fin s' => ∃ v, fin = .done (.ret v) ∧ Q v s') E s := by
  obtain ⟨hp, g, d, tk, os⟩ := s
  show wpAny _ _ (field (.ref e) 2 >>= _) _ _ _
  refine wpAny_bind (wpAny_field he rfl (x := .ref it) rfl ?_)
  refine wpAny_bind (inner _ fun x h₁ nx => ?_)
  have he₁ : IsEnum h₁ e it i old := hE x h₁ nx
  show wpAny _ _ (field (.ref e) 3 >>= _) _ _ ⟨h₁, g, d, tk, os⟩
  refine wpAny_bind (wpAny_field he₁ rfl (x := rawInt i) rfl ?_)
  show wpAny _ _ (field (.ref e) 4 >>= _) _ _ ⟨h₁, g, d, tk, os⟩
  refine wpAny_bind (wpAny_field he₁ rfl (x := .none) rfl ?_)
  show wpAny _ _ (mkInt i >>= _) _ _ ⟨h₁, g, d, tk, os⟩
  refine wpAny_bind (wpAny_mkInt ?_)
  show wpAny _ _ (setField (.ref e) 3 (rawInt (i + 1)) >>= _) _ _ ⟨h₁, g, d, tk + 1, os⟩
  refine wpAny_bind (wpAny_setField_rec he₁ (by simp) fun h₂ he₂ hs₂ => ?_)
  replace hs₂ : Heap.SameBut e h₁ h₂ := hs₂
  replace he₂ : IsEnum h₂ e it (i + 1) old := he₂
  show wpAny _ _ (setField (.ref e) 4 .none >>= _) _ _ ⟨h₂, g, d, tk + 1, os⟩
  refine wpAny_bind (wpAny_setField_rec he₂ (by simp) fun h₃ he₃ hs₃ => ?_)
  replace hs₃ : Heap.SameBut e h₂ h₃ := hs₃
  replace he₃ : IsEnum h₃ e it (i + 1) old := he₃
  show wpAny _ _ (newTuple [.int i tk, x] >>= _) _ _ ⟨h₃, g, d, tk + 1, os⟩
  refine wpAny_bind (wpAny_newTuple ?_)
  have he₄ : IsEnum (h₃.push { cls := .type "tuple", data := .seq #[.int i tk, x] }) e it (i + 1) old := Heap.get?_push_of_some _ he₃
  generalize hh₄ : h₃.push { cls := .type "tuple", data := .seq #[.int i tk, x] } = h₄ at he₄
  have hsz : h₃.objs.size = h₁.objs.size := by rw [hs₃.1, hs₂.1]
  have hel : e < h₁.objs.size := Heap.lt_size he₁
  have ht₄ : h₄.get? h₁.objs.size = some { cls := .type "tuple", data := .seq #[.int i tk, x] } := by rw [← hh₄, ← hsz]; exact Heap.get?_push_size _ rfl
  have hz₄ : h₄.objs.size = h₁.objs.size + 1 := by rw [← hh₄, Heap.size_push, hsz]
  have hk₄ : ∀ b o, b ≠ e → h₁.get? b = some o → h₄.get? b = some o := fun b o hbe hb => by
    rw [← hh₄]; exact Heap.get?_push_of_some _ (hs₃.extBut b o hbe (hs₂.extBut b o hbe hb))
  show wpAny _ _ (Builtin.SmallTypes.ownedTupleIsFree (.ref e) >>= _) _ _ ⟨h₄, g, d, tk + 1, os⟩
  rw [hsz]
  refine wpAny_bind ?_
  · unfold Builtin.SmallTypes.ownedTupleIsFree
    refine wpAny_bind (wpAny_field he₄ rfl (x := .none) rfl (wpAny_pure ?_))
    simp only [if_true]
    refine wpAny_bind (wpAny_rule ?_)
    refine wpAny_bind (wpAny_field he₄ rfl (x := old) rfl ?_)
    refine wpAny_bind (wpAny_setField_rec he₄ (by simp) fun h₅ he₅ hs₅ => ?_)
    replace hs₅ : Heap.SameBut e h₄ h₅ := hs₅
    replace he₅ : IsEnum h₅ e it (i + 1) x := he₅
    show wpAny _ _ (Builtin.SmallTypes.ownedTupleHandOut (.ref e) (.ref h₁.objs.size) >>= _) _ _ ⟨h₅, g, d, tk + 1, os⟩
    refine wpAny_bind ?_
    · unfold Builtin.SmallTypes.ownedTupleHandOut
      refine wpAny_bind (wpAny_setField_rec he₅ (by simp) fun h₆ he₆ hs₆ => ?_)
      replace hs₆ : Heap.SameBut e h₅ h₆ := hs₆
      replace he₆ : IsEnumOut h₆ e it (i + 1) x h₁.objs.size := he₆
      refine wpAny_setField_rec he₆ (by simp) fun h₇ he₇ hs₇ => ?_
      replace hs₇ : Heap.SameBut e h₆ h₇ := hs₇
      replace he₇ : IsEnumOut h₇ e it (i + 1) x h₁.objs.size := he₇
      refine wpAny_bind (wpAny_letGo (wpAny_pure ⟨_, rfl, hQ x h₁ h₇ tk nx he₇ ?_ ?_ ?_⟩))
      · exact hs₇.extBut _ _ (Nat.ne_of_gt hel) (hs₆.extBut _ _ (Nat.ne_of_gt hel) (hs₅.extBut _ _ (Nat.ne_of_gt hel) ht₄))
      · rw [hs₇.1, hs₆.1, hs₅.1, hz₄]
      · exact fun b o hbe hb => hs₇.extBut b o hbe (hs₆.extBut b o hbe (hs₅.extBut b o hbe (hk₄ b o hbe hb)))
theorem en_pyNext_item {e it : Addr} {i : Int} {old : Value} {Q : Option Value → Shared → Prop} (he : IsEnum s.heap e it i old) (NX : Value → Heap → Prop)
    (inner : ∀ (A' : Around) (E' : Value → Shared → Prop) (Q' : Value → Shared → Prop), (∀ x h₁, NX x h₁ → Q' x { s with heap := h₁ }) → wpAny (model prog w) A' (Builtin.SmallTypes.nextOf (.ref it)) Q' E' s) (hE : ∀ x h₁, NX x h₁ → IsEnum h₁ e it i old)
    (hQ : ∀ x h₁ h' tk, NX x h₁ → IsEnumOut h' e it (i + 1) x h₁.objs.size → h'.get? h₁.objs.size = some { cls := .type "tuple", data := .seq #[.int i tk, x] } → h'.objs.size = h₁.objs.size + 1 →
      (∀ b o, b ≠ e → h₁.get? b = some o → h'.get? b = some o) → Q (some (.ref h₁.objs.size)) { s with heap := h', toks := tk + 1 }) :
    wpAny (model prog w) A (pyNext (.ref e)) Q E s := by
  have hT : s.TypeIs (.ref e) "enumerate" := ⟨_, he, rfl⟩
  unfold pyNext
  exact wpAny_bind (wpAny_attempt (wpAny_callSpecial?_slot (name := Str.ofString "__next__") hT F.slot_enumerate_next
    (wpAny_call_entry F.slot_enumerate_next hT F.entry_enumerate_next
      (en_next_item he NX (fun Q' h => inner _ _ Q' h) hE fun x h₁ h' tk a b c d k => wpAny_pure (hQ x h₁ h' tk a b c d k)) (F.args_enumerate_next_1 _))))
theorem en_pyNext_end {e it : Addr} {i : Int} {old : Value} {Q : Option Value → Shared → Prop} {NE : Heap → Prop} (he : IsEnum s.heap e it i old)
    (inner : ∀ (A' : Around) (E' : Value → Shared → Prop) (Q' : Value → Shared → Prop), A'.handled = A.handled → (∀ h' x, NE h' → (∃ o, h'.get? x = some o ∧ o.cls = .type "StopIteration") → E' (.ref x) { s with heap := h' }) → wpAny (model prog w) A' (Builtin.SmallTypes.nextOf (.ref it)) Q' E' s)
    (hQ : ∀ h', NE h' → Q none { s with heap := h' }) : wpAny (model prog w) A (pyNext (.ref e)) Q E s := by
  have hT : s.TypeIs (.ref e) "enumerate" := ⟨_, he, rfl⟩
  unfold pyNext
  refine wpAny_bind (wpAny_attempt (wpAny_callSpecial?_slot (name := Str.ofString "__next__") hT F.slot_enumerate_next
    (wpAny_call_entry F.slot_enumerate_next hT F.entry_enumerate_next ?_ (F.args_enumerate_next_1 _))))
  show wpAny _ _ (field (.ref e) 2 >>= _) _ _ _
  refine wpAny_bind (wpAny_field he rfl (x := .ref it) rfl ?_)
  refine wpAny_bind (inner _ _ _ rfl fun h' x hn hx' => ?_)
  obtain ⟨o, ho, hc⟩ := hx'
  refine wpAny_bind (wpAny_isInstance (T := "StopIteration") (b := true) ⟨o, ho, hc⟩ isSubtype_stop ?_)
  exact wpAny_pure (hQ _ hn)
end
/-- the tuples at a and b as they stand at each turn, the items in new pairs, each with its number in a new pair -/
def IteZ (K : PySem.W.Frag) (a b : Addr) : It :=
  ⟨fun i H => ∃ (xs ys : List V) (x y : V), SqT K H a xs ∧ SqT K H b ys ∧ xs[i]? = some x ∧ ys[i]? = some y,
    fun i H v H' => ∃ T2 T x y, v = .ref T ∧ H T2 = none ∧ H T = none ∧ T ≠ T2 ∧ H' = upd (upd H T2 (.tup [x, y])) T (.tup [.int (i : Nat), .ref T2]) ∧ (∀ xs, SqT K H a xs → xs[i]? = some x) ∧ ∀ ys, SqT K H b ys → ys[i]? = some y,
    fun i H => ∃ xs ys : List V, SqT K H a xs ∧ SqT K H b ys ∧ (xs.length ≤ i ∨ ys.length ≤ i)⟩
structure ZA (e z TI TO i1 i2 : Addr) : Prop where
  ez : e ≠ z
  eTI : e ≠ TI
  eTO : e ≠ TO
  e1 : e ≠ i1
  e2 : e ≠ i2
def ZSt (e z TI TO i1 i2 a b : Addr) (i : Nat) (h : Heap) : Prop :=
  (∃ old, IsEnum h e z ((i : Nat) : Int) old) ∧ (∃ f0 f1, ZF f0 f1 ∧ IsZ h z TI TO f0 f1) ∧ IsPair h TI (.ref i1) (.ref i2) ∧ (∃ x y, IsPair h TO x y) ∧ h.IsTupleIter i1 a i ∧ h.IsTupleIter i2 b i
theorem turn_eZ {P : Program} {w : World} {K : PySem.W.Frag} {elts : List Expr} {kk : Nat} {tpos : Pos} {a b e z TI TO i1 i2 : Addr} (D : ZipApart z TI TO i1 i2 a b) (Z : ZA e z TI TO i1 i2) :
    Turn P w K (.Tuple elts kk tpos) (IteZ K a b) [e, z, TI, TO, i1, i2] e (ZSt e z TI TO i1 i2 a b) where
  mem := by simp
  obj := fun i h st c hc => by
    obtain ⟨⟨old, he⟩, ⟨f0, f1, _, hz⟩, hTI, ⟨x, y, hTO⟩, ⟨o1, e1, _, d1⟩, ⟨o2, e2, _, d2⟩⟩ := st
    have e' : c = e ∨ c = z ∨ c = TI ∨ c = TO ∨ c = i1 ∨ c = i2 := by simpa using hc
    rcases e' with q | q | q | q | q | q
    · rw [q]; exact ⟨_, he, fun v q => nomatch q⟩
    · rw [q]; exact ⟨_, hz, fun v q => nomatch q⟩
    · rw [q]; exact ⟨_, hTI, fun v q => nomatch q⟩
    · rw [q]; exact ⟨_, hTO, fun v q => nomatch q⟩
    · rw [q]; exact ⟨o1, e1, fun v q => by rw [d1] at q; cases q⟩
    · rw [q]; exact ⟨o2, e2, fun v q => by rw [d2] at q; cases q⟩
  keep := fun i h h' st k => by
    obtain ⟨⟨old, he⟩, ⟨f0, f1, hf, hz⟩, hTI, ⟨x, y, hTO⟩, h1, h2⟩ := st
    exact ⟨⟨old, k e (by simp) _ he⟩, ⟨f0, f1, hf, k z (by simp) _ hz⟩, k TI (by simp) _ hTI, ⟨x, y, k TO (by simp) _ hTO⟩, h1.at fun o q => k i1 (by simp) o q, h2.at fun o q => k i2 (by simp) o q⟩
  item := by
    intro X hP hw hK hc i pins s σ H E I hf st hg
    subst hP hw hK
    obtain ⟨⟨old, he⟩, ⟨f0, f1, hzf, hz⟩, hTI, ⟨x0, y0, hTO⟩, h1, h2⟩ := st
    obtain ⟨xs, ys, x, y, hqx, hqy, hx, hy⟩ := hg
    obtain ⟨its, rv, p, _⟩ := I.tuple hqx
    obtain ⟨its2, rv2, p2, _⟩ := I.tuple hqy
    obtain ⟨u, hu, ru⟩ := rv.get hx
    obtain ⟨u2, hu2, ru2⟩ := rv2.get hy
    have hel : e < s.heap.objs.size := Heap.lt_size he
    have hzl : z < s.heap.objs.size := Heap.lt_size hz
    have hTIl : TI < s.heap.objs.size := Heap.lt_size hTI
    have hTOl : TO < s.heap.objs.size := Heap.lt_size hTO
    have h1l : i1 < s.heap.objs.size := by obtain ⟨_, e1, _⟩ := h1; exact Heap.lt_size e1
    have h2l : i2 < s.heap.objs.size := by obtain ⟨_, e2, _⟩ := h2; exact Heap.lt_size e2
    refine en_pyNext_item he (fun v h₁ => v = .ref s.heap.objs.size ∧ IsPair h₁ s.heap.objs.size u u2 ∧ h₁.objs.size = s.heap.objs.size + 1 ∧ (∃ f0 f1, ZF f0 f1 ∧ IsZ h₁ z TI TO f0 f1) ∧ (∃ x y, IsPair h₁ TO x y) ∧ h₁.IsTupleIter i1 a (i + 1) ∧ h₁.IsTupleIter i2 b (i + 1) ∧
        ∀ c o, c ≠ z → c ≠ TO → c ≠ i1 → c ≠ i2 → s.heap.get? c = some o → h₁.get? c = some o) (fun A' E' Q' hq => ?_) (fun v h₁ nx => nx.2.2.2.2.2.2.2 _ _ Z.ez Z.eTO Z.e1 Z.e2 he) fun v h₁ h' tk nx ho hT hsz hk => ?_
    · refine z_nextOf hz fun A'' _ => ?_
      exact z_next_item D hz hzf hTI hTO h1 h2 p p2 (x := u) (y := u2) (by simpa using hu) (by simpa using hu2) fun h' f0' f1' a' b' a1 a2 a3 a4 a5 a6 a7 a8 => hq _ _ ⟨rfl, a6, a7, ⟨f0', f1', a1, a2⟩, ⟨a', b', a3⟩, a4, a5, a8⟩
    · obtain ⟨rfl, hp1, hs1, ⟨f0', f1', hzf', hz'⟩, ⟨a', b', hTO'⟩, h1', h2', hk1⟩ := nx
      refine ⟨_, rfl, wpAny_letOwnedTupleGo_enum (s := { s with heap := h', toks := tk + 1 }) ho fun h'' he' sb => ?_⟩
      have hk2 : ∀ c o, c ≠ e → h₁.get? c = some o → h''.get? c = some o := fun c o ce q => (sb.2 c ce).trans (hk c o ce q)
      -- the pair of the zip
      have new1 : ObjOk X.prog X.w (upd H s.heap.objs.size (.tup [x, y])) h₁ s.heap.objs.size (.tup [x, y]) :=
        ⟨by show 2 ≤ sizeLine; decide, [u, u2], .cons ru (.cons ru2 .nil), ⟨_, hp1, rfl, _, rfl⟩⟩
      have I1 : Inv X pins σ (upd H s.heap.objs.size (.tup [x, y])) { s with heap := h₁, toks := s.toks } :=
        I.turnedNew (t' := s.toks) (ch := [e, z, TI, TO, i1, i2]) (fun c o hb q => hk1 c o (fun q' => hb (by simp [q'])) (fun q' => hb (by simp [q'])) (fun q' => hb (by simp [q'])) (fun q' => hb (by simp [q'])) q) hf (Nat.le_refl _) new1
      have hlt : ∀ c ∈ [e, z, TI, TO, i1, i2], c < s.heap.objs.size := fun c hcm => by
        have e' : c = e ∨ c = z ∨ c = TI ∨ c = TO ∨ c = i1 ∨ c = i2 := by simpa using hcm
        rcases e' with q | q | q | q | q | q <;> rw [q] <;> assumption
      have hf1 : ∀ c ∈ [e, z, TI, TO, i1, i2], FpOk X pins (upd H s.heap.objs.size (.tup [x, y])) c := fun c hcm => by
        obtain ⟨g0, g1, g2, g3, g4, g5⟩ := hf c hcm
        exact ⟨by rw [upd_ne (Nat.ne_of_lt (hlt c hcm))]; exact g0, g1, g2, g3, g4, g5⟩
      have hT2 : h''.get? h₁.objs.size = some { cls := .type "tuple", data := .seq #[.int i tk, .ref s.heap.objs.size] } := (sb.2 _ (Nat.ne_of_gt (by rw [hs1]; exact Nat.lt_succ_of_lt hel))).trans hT
      have new2 : ObjOk X.prog X.w (upd (upd H s.heap.objs.size (.tup [x, y])) h₁.objs.size (.tup [.int (i : Nat), .ref s.heap.objs.size])) h'' h₁.objs.size (.tup [.int (i : Nat), .ref s.heap.objs.size]) :=
        ⟨by show 2 ≤ sizeLine; decide, [.int i tk, .ref s.heap.objs.size], .cons ⟨_, rfl⟩ (.cons rfl .nil), ⟨_, hT2, rfl, _, rfl⟩⟩
      have I2 : Inv X pins σ (upd (upd H s.heap.objs.size (.tup [x, y])) h₁.objs.size (.tup [.int (i : Nat), .ref s.heap.objs.size])) { s with heap := h'', toks := tk + 1 } :=
        I1.turnedNew (t' := tk + 1) (ch := [e, z, TI, TO, i1, i2]) (fun c o hb q => hk2 c o (fun q' => hb (by simp [q'])) q) hf1 (Nat.le_refl _) new2
      have e1 : ((i + 1 : Nat) : Int) = (i : Int) + 1 := by omega
      refine ⟨.ref h₁.objs.size, _, I2, rfl, ⟨s.heap.objs.size, h₁.objs.size, x, y, rfl, I.hok.fresh (Nat.le_refl _), ?_, Nat.ne_of_gt (by rw [hs1]; exact Nat.lt_succ_self _), rfl, fun l hl => by rw [I.tuple_inj hl hqx]; exact hx, fun l hl => by rw [I.tuple_inj hl hqy]; exact hy⟩, ⟨⟨_, by rw [e1]; exact he'⟩, ⟨f0', f1', hzf', hk2 _ _ (Ne.symm Z.ez) hz'⟩, hk2 _ _ (Ne.symm Z.eTI) (hk1 _ _ D.TIz D.TITO D.TIi1 D.TIi2 hTI), ⟨a', b', hk2 _ _ (Ne.symm Z.eTO) hTO'⟩, h1'.at fun o q => hk2 _ _ (Ne.symm Z.e1) q, h2'.at fun o q => hk2 _ _ (Ne.symm Z.e2) q⟩, fun c hcm => ?_⟩
      · exact I.hok.fresh (by rw [hs1]; exact Nat.le_succ _)
      · have := hlt c hcm
        rw [upd_ne (Nat.ne_of_lt (by rw [hs1]; exact Nat.lt_succ_of_lt this)), upd_ne (Nat.ne_of_lt this)]
        exact (hf c hcm).1
  done := by
    intro X hP hw hK hc i pins s σ H E I hf st hg
    subst hP hw hK
    obtain ⟨⟨old, he⟩, ⟨f0, f1, hzf, hz⟩, hTI, ⟨x0, y0, hTO⟩, h1, h2⟩ := st
    obtain ⟨xs, ys, hqx, hqy, hend⟩ := hg
    obtain ⟨its, rv, p, _⟩ := I.tuple hqx
    obtain ⟨its2, rv2, p2, _⟩ := I.tuple hqy
    have l1 := rv.length
    have l2 := rv2.length
    have hend2 : its.toArray[i]? = none ∨ its2.toArray[i]? = none := by
      rcases hend with q | q
      · exact .inl (by simp; omega)
      · exact .inr (by simp; omega)
    refine en_pyNext_end (NE := fun h' => ∀ c o, c ≠ z → c ≠ TO → c ≠ i1 → c ≠ i2 → s.heap.get? c = some o → h'.get? c = some o) he (fun A' E' Q' hh hq => ?_) fun h' hk => ⟨rfl, I.turnedL (t' := s.toks) (ch := [e, z, TI, TO, i1, i2]) (fun c o hb q =>
      hk c o (fun q' => hb (by simp [q'])) (fun q' => hb (by simp [q'])) (fun q' => hb (by simp [q'])) (fun q' => hb (by simp [q'])) q) hf⟩
    refine z_nextOf hz fun A'' hA => ?_
    exact z_next_end (by rw [hA, hh]; exact I.ok.hd hc) D hz hzf hTI hTO h1 h2 p p2 hend2 fun h' x hk hx => hq h' x hk hx
  self := fun A i s Q E st h => let ⟨⟨_, he⟩, _⟩ := st; wpAny_pyIter_enum he h
/-- enumerate(z) of a zip: the zip is its own iterator -/
theorem newEz {z TI TO : Addr} :
    Meets (Builtin.«enumerate.__new__» ⟨[.type "enumerate", .ref z], []⟩) (fun _ R s => IsZip s.heap z TI TO .none ∧
      R (.ok (.ret (.ref s.heap.objs.size))) { s with heap := s.heap.push { cls := .type "enumerate", data := .fields #[.none, .bool false, .ref z, rawInt 0, .none, .none] } }) :=
  .of_wp fun prog w A R s h => by
    obtain ⟨hp, g, d, tk, os⟩ := s
    obtain ⟨h1, h⟩ := h
    have hsub := sub_enumerate
    have goes : ∀ {A' : Around} {E : Value → Shared → Prop} {Q : Value → Shared → Prop}, Q (.ref z) ⟨hp, g, d, tk, os⟩ → wpAny (model prog w) A' (pyIter (.ref z)) Q E ⟨hp, g, d, tk, os⟩ := fun q =>
      wpAny_pyIter_zip h1 q
    wp_walk using goes
    refine wpAny_stack_any fun st => wpAny_pure ?_
    split
    · rename_i c _ _ _ _ _
      cases (c == Value.type "enumerate") <;> (wp_walk using goes; exact ⟨_, rfl, h⟩)
    · wp_walk using goes
      exact ⟨_, rfl, h⟩
section
variable {prog : Program} {w : World} {A : Around} {E : Value → Shared → Prop} {s : Shared}
theorem callEz {z TI TO : Addr} {Q : Value → Shared → Prop} (h1 : IsZip s.heap z TI TO .none)
    (h : ∀ h', IsEnum h' s.heap.objs.size z 0 .none → (∀ b o, s.heap.get? b = some o → h'.get? b = some o) → Q (.ref s.heap.objs.size) { s with heap := h' }) :
    wpAny (model prog w) A (call (.type "enumerate") [.ref z]) Q E s := by
  refine callType_new F.called_enumerate (by decide) (F.typeCall_enumerate_1 _) (F.newCall_enumerate_1 _) (fun obj => F.args_object_init_2 obj _) F.entry_enumerate_new (newEz) ⟨h1, ?_⟩
  show _ ∧ _
  have he : IsEnum (s.heap.push { cls := .type "enumerate", data := .fields #[.none, .bool false, .ref z, rawInt 0, .none, .none] }) s.heap.objs.size z 0 .none := Heap.get?_push_size s.heap rfl
  exact ⟨⟨_, he, rfl⟩, h _ he fun b o x => Heap.get?_push_of_some _ x⟩
end
def iEnumZ (K : PySem.W.Frag) (ta : TA) : TI := fun σ H R => ta σ H fun vs H1 => ∃ a b xs ys, vs = [.ref a, .ref b] ∧ SqT K H1 a xs ∧ SqT K H1 b ys ∧ R (IteZ K a b) H1
theorem pi_enumZ {X : Cx} {e e2 : Expr} {ta : TA} {p pos p1 pos1 tpos : Pos} {elts : List Expr} {kk : Nat} (hg1 : Gl X "enumerate") (hm1 : X.mg "enumerate" = none) (hg : Gl X "zip") (hm : X.mg "zip" = none) (ha : PA X [e, e2] ta)
    (hs1 : starEach [.Call (.Name "zip" p) [e, e2] [] pos] X.env = [(false, eval (.Call (.Name "zip" p) [e, e2] [] pos) X.env)])
    (hs : starEach [e, e2] X.env = (false, eval e X.env) :: starEach [e2] X.env := by rfl) (hpl : (backTo pos (starEach [e2] X.env)).any (·.1) = false := by rfl) :
    PI X (.Tuple elts kk tpos) (.Call (.Name "enumerate" p1) [.Call (.Name "zip" p) [e, e2] [] pos] [] pos1) (iEnumZ X.K ta) := by
  refine ⟨fun pins s σ H R I h => ?_⟩
  refine Call_ (ld_blt I hg1 hm1 boot_enumerate (PyProof.Rows.callWith_type1 ?_ hs1 rfl))
  rw [hs1]
  show wpAny _ _ (spliced ((false, eval (.Call (.Name "zip" p) [e, e2] [] pos) X.env) :: [])) _ _ s
  refine Calls.spliced_cons ?_
  refine Call_ (ld_blt I hg hm PyProof.Rows.boot_zip (PyProof.Rows.callWith_type1 (thn (ha.run pos pins s σ H _ I h) fun us s1 ⟨vs, H1, I1, r1, q1⟩ => ?_) hs hpl))
  obtain ⟨a, b, xs, ys, ex, hqx, hqy, q⟩ := q1
  subst ex
  cases r1 with
  | cons r rr =>
    cases rr with
    | cons r' rr =>
      cases rr
      cases r
      cases r'
      obtain ⟨its, rv, p1, _⟩ := I1.tuple hqx
      obtain ⟨its2, rv2, p2, _⟩ := I1.tuple hqy
      obtain ⟨o1, ho1, _⟩ := id p1
      obtain ⟨o2, ho2, _⟩ := id p2
      refine call_zipT (show s1.heap.IsTuple a its.toArray from p1) (show s1.heap.IsTuple b its2.toArray from p2) fun h' hz hTI hTO h1 h2 hsz hk => Calls.spliced_nil ?_
      refine callEz (s := { s1 with heap := h' }) hz fun h'' he hk2 => wpAny_pyIter_enum he ?_
      have he5 : IsEnum h'' (s1.heap.objs.size + 5) (s1.heap.objs.size + 4) 0 .none := by rw [← hsz]; exact he
      have I2 : Inv X pins σ H1 { s1 with heap := h'' } := I1.kept (t' := s1.toks) fun c o e => hk2 _ _ (hk c o e)
      have fresh6 : ∀ c, c ∈ [s1.heap.objs.size + 5, s1.heap.objs.size + 4, s1.heap.objs.size + 2, s1.heap.objs.size + 3, s1.heap.objs.size, s1.heap.objs.size + 1] → FpOk X pins H1 c := fun c hcm => by
        have e' : c = s1.heap.objs.size + 5 ∨ c = s1.heap.objs.size + 4 ∨ c = s1.heap.objs.size + 2 ∨ c = s1.heap.objs.size + 3 ∨ c = s1.heap.objs.size ∨ c = s1.heap.objs.size + 1 := by simpa using hcm
        have hle : s1.heap.objs.size ≤ c := by
          rcases e' with z | z | z | z | z | z
          · rw [z]; exact Nat.le_add_right _ _
          · rw [z]; exact Nat.le_add_right _ _
          · rw [z]; exact Nat.le_add_right _ _
          · rw [z]; exact Nat.le_add_right _ _
          · rw [z]; exact Nat.le_refl _
          · rw [z]; exact Nat.le_add_right _ _
        exact I1.fpOk hle (I1.hok.fresh hle)
      refine ⟨s1.heap.objs.size + 5, [s1.heap.objs.size + 5, s1.heap.objs.size + 4, s1.heap.objs.size + 2, s1.heap.objs.size + 3, s1.heap.objs.size, s1.heap.objs.size + 1], _, _, H1, by rw [← hsz], I2, turn_eZ (PySem.W.ktu_apart s1.heap.objs.size a b (Heap.lt_size ho1) (Heap.lt_size ho2)) ⟨?_, ?_, ?_, ?_, ?_⟩, ⟨⟨.none, he5⟩, ⟨.none, .bool false, ⟨.inl rfl, _, rfl⟩, hk2 _ _ hz⟩, hk2 _ _ hTI, ⟨_, _, hk2 _ _ hTO⟩, h1.at fun o e => hk2 _ o e, h2.at fun o e => hk2 _ o e⟩, fresh6, q⟩
      · exact Nat.ne_of_gt (Nat.add_lt_add_left (by decide) _)
      · exact Nat.ne_of_gt (Nat.add_lt_add_left (by decide) _)
      · exact Nat.ne_of_gt (Nat.add_lt_add_left (by decide) _)
      · exact Nat.ne_of_gt (Nat.lt_add_of_pos_right (by decide))
      · exact Nat.ne_of_gt (Nat.add_lt_add_left (by decide) _)
end TB

/-! Engm: zip of a tuple with a list (each side a tuple or a list) -/
namespace TB
open PySem PySem.Spec PyProof.Rows L2 RZ
/-- the sequence at l: a list where p, a tuple else; and an iterator over it -/
def qSq (p : Bool) (h : Heap) (l : Addr) (xs : Array Value) : Prop := cond p (h.IsList l xs) (h.IsTuple l xs)
def qIt (p : Bool) (h : Heap) (i l : Addr) (k : Nat) : Prop := cond p (h.IsListIter i l k) (h.IsTupleIter i l k)
def qCl (p : Bool) : String := cond p "list_iterator" "tuple_iterator"
theorem qSq.extBut {p : Bool} {h h' : Heap} {a b : Addr} {xs : Array Value} (x : qSq p h a xs) (hs : Heap.ExtBut b h h') (hab : a ≠ b) : qSq p h' a xs := by
  cases p
  · exact Heap.IsTuple.extBut x hs hab
  · exact Heap.IsList.extBut x hs hab
theorem qIt.extBut {p : Bool} {h h' : Heap} {a b l : Addr} {k : Nat} (x : qIt p h a l k) (hs : Heap.ExtBut b h h') (hab : a ≠ b) : qIt p h' a l k := by
  cases p
  · exact Heap.IsTupleIter.extBut x hs hab
  · exact Heap.IsListIter.extBut x hs hab
theorem qIt.at {p : Bool} {h h' : Heap} {a l : Addr} {k : Nat} (x : qIt p h a l k) (e : ∀ o, h.get? a = some o → h'.get? a = some o) : qIt p h' a l k := by
  cases p
  · exact Heap.IsTupleIter.at x e
  · exact Heap.IsListIter.at x e
theorem qIt.obj {p : Bool} {h : Heap} {a l : Addr} {k : Nat} (x : qIt p h a l k) : ∃ o, h.get? a = some o ∧ ∀ v n, o.data ≠ .seq v n := by
  cases p
  · obtain ⟨o, e, _, d⟩ := (x : h.IsTupleIter a l k); exact ⟨o, e, fun v n q => by rw [d] at q; cases q⟩
  · obtain ⟨o, e, _, d⟩ := (x : h.IsListIter a l k); exact ⟨o, e, fun v n q => by rw [d] at q; cases q⟩
theorem qIt.mk {p : Bool} {h : Heap} {a l : Addr} (e : h.get? a = some { cls := .type (qCl p), data := .fields #[.ref l, .int 0 0] }) : qIt p h a l 0 := by
  cases p
  · exact ⟨_, e, rfl, rfl⟩
  · exact ⟨_, e, rfl, rfl⟩
theorem qSq.push {p : Bool} {h : Heap} {a : Addr} {xs : Array Value} (x : qSq p h a xs) (o : Obj) : qSq p (h.push o) a xs := by
  cases p
  · exact Heap.IsTuple.push x o
  · exact Heap.IsList.push x o
section
variable {prog : Program} {w : World} {A : Around} {E : Value → Shared → Prop} {s : Shared}
theorem q_next_item {p : Bool} {it l : Addr} {i : Nat} {items : Array Value} {x : Value} {Q : Value → Shared → Prop} (hit : qIt p s.heap it l i) (hl : qSq p s.heap l items) (hx : items[i]? = some x)
    (hQ : ∀ h', qIt p h' it l (i + 1) → Heap.SameBut it s.heap h' → Q x { s with heap := h' }) : wpAny (model prog w) A (Builtin.SmallTypes.nextOf (.ref it)) Q E s := by
  cases p
  · exact nextOf_tuple_item hit hl hx hQ
  · exact wpAny_nextOf_list_item hit hl hx hQ
theorem q_next_end {p : Bool} {it l : Addr} {i : Nat} {items : Array Value} {Q : Value → Shared → Prop} (hh : A.handled = none) (hit : qIt p s.heap it l i) (hl : qSq p s.heap l items) (hx : items[i]? = none)
    (hE : ∀ h' e, Heap.ExtBut it s.heap h' → (∃ o, h'.get? e = some o ∧ o.cls = .type "StopIteration") → E (.ref e) { s with heap := h' }) : wpAny (model prog w) A (Builtin.SmallTypes.nextOf (.ref it)) Q E s := by
  cases p
  · exact nextOf_tuple_end hh hit hl hx hE
  · exact wpAny_nextOf_list_end hh hit hl hx hE
theorem q_iter {p : Bool} {l : Addr} {items : Array Value} {Q : Value → Shared → Prop} (hl : qSq p s.heap l items)
    (hQ : Q (.ref s.heap.objs.size) { s with heap := s.heap.push { cls := .type (qCl p), data := .fields #[.ref l, .int 0 0] } }) : wpAny (model prog w) A (pyIter (.ref l)) Q E s := by
  cases p
  · exact wpAny_pyIter_tuple hl hQ
  · exact wpAny_pyIter_list hl hQ
theorem m_next_item {p q : Bool} {z TI TO i1 i2 l1 l2 : Addr} {f0 f1 : Value} {k1 k2 : Nat} {xs ys : Array Value} {x y a b : Value} {Q : Value → Shared → Prop} (D : ZipApart z TI TO i1 i2 l1 l2)
    (hz : IsZ s.heap z TI TO f0 f1) (hf : ZF f0 f1) (hTI : IsPair s.heap TI (.ref i1) (.ref i2)) (hTO : IsPair s.heap TO a b)
    (h1 : qIt p s.heap i1 l1 k1) (h2 : qIt q s.heap i2 l2 k2) (hl1 : qSq p s.heap l1 xs) (hl2 : qSq q s.heap l2 ys) (hx : xs[k1]? = some x) (hy : ys[k2]? = some y)
    (hQ : ∀ h' f0' f1' a' b', ZF f0' f1' → IsZ h' z TI TO f0' f1' → IsPair h' TO a' b' → qIt p h' i1 l1 (k1 + 1) → qIt q h' i2 l2 (k2 + 1) → IsPair h' s.heap.objs.size x y → h'.objs.size = s.heap.objs.size + 1 →
      (∀ c o, c ≠ z → c ≠ TO → c ≠ i1 → c ≠ i2 → s.heap.get? c = some o → h'.get? c = some o) → Q (.ref s.heap.objs.size) { s with heap := h' }) :
    wpAny (model prog w) A (Builtin.«zip.__next__» ⟨[.ref z], []⟩) (fun fin s' => ∃ v, fin = .done (.ret v) ∧ Q v s') E s := by
  show wpAny _ _ (field (.ref z) 2 >>= _) _ _ _
  refine wpAny_bind (wpAny_field hz rfl (x := .bool false) rfl ?_)
  show wpAny _ _ (field (.ref z) 3 >>= _) _ _ _
  refine wpAny_bind (wpAny_field hz rfl (x := .ref TI) rfl ?_)
  refine wpAny_bind (wpAny_seqItems hTI rfl ?_)
  show wpAny _ _ (Builtin.SmallTypes.ownedTupleIsFree (.ref z) >>= _) _ _ _
  refine wpAny_bind (z_free hz hf ?_ fun h₁ f1' hf' hz₁ hs₁ => ?_)
  · simp only [if_true]
    refine wpAny_bind (wpAny_rule ?_)
    refine wpAny_bind (wpAny_field hz rfl (x := .ref TO) rfl ?_)
    refine wpAny_bind (wpAny_setField_rec hz (by simp) fun h₁ hz₁ hs₁ => ?_)
    replace hz₁ : IsZ h₁ z TI TO .ellipsis f1 := hz₁
    refine wpAny_bind ?_
    simp only [List.zipIdx_cons, List.zipIdx_nil, List.forIn_cons, List.forIn_nil]
    refine wpAny_bind (wpAny_bind (wpAny_onRaise ?_))
    show wpAny _ _ (Builtin.SmallTypes.nextOf (.ref i1) >>= _) _ _ _
    refine wpAny_bind (q_next_item (h1.extBut hs₁.extBut D.i1z) (hl1.extBut hs₁.extBut D.l1z) hx fun h₂ h1₂ hs₂ => wpAny_pure ?_)
    have hTO₂ : IsPair h₂ TO a b := hs₂.extBut _ _ D.TOi1 (hs₁.extBut _ _ D.TOz hTO)
    refine wpAny_bind (wpAny_seqItems hTO₂ rfl ?_)
    refine wpAny_bind (wpAny_updateSeq_pair hTO₂ fun h₃ hTO₃ hs₃ => ?_)
    replace hTO₃ : IsPair h₃ TO x b := hTO₃
    refine wpAny_bind (wpAny_letGo (wpAny_pure ?_))
    refine wpAny_bind (wpAny_bind (wpAny_onRaise ?_))
    show wpAny _ _ (Builtin.SmallTypes.nextOf (.ref i2) >>= _) _ _ _
    refine wpAny_bind (q_next_item (((h2.extBut hs₁.extBut D.i2z).extBut hs₂.extBut D.i12.symm).extBut hs₃.extBut D.TOi2.symm)
      (((hl2.extBut hs₁.extBut D.l2z).extBut hs₂.extBut D.l2i1).extBut hs₃.extBut D.l2TO) hy fun h₄ h2₄ hs₄ => wpAny_pure ?_)
    have hTO₄ : IsPair h₄ TO x b := hs₄.extBut _ _ D.TOi2 hTO₃
    refine wpAny_bind (wpAny_seqItems hTO₄ rfl ?_)
    refine wpAny_bind (wpAny_updateSeq_pair hTO₄ fun h₅ hTO₅ hs₅ => ?_)
    replace hTO₅ : IsPair h₅ TO x y := hTO₅
    refine wpAny_bind (wpAny_letGo (wpAny_pure (wpAny_pure ?_)))
    refine wpAny_bind (wpAny_seqItems hTO₅ rfl ?_)
    refine wpAny_bind (wpAny_newTuple ?_)
    have hsz : h₅.objs.size = s.heap.objs.size := by rw [hs₅.1, hs₄.1, hs₃.1, hs₂.1, hs₁.1]
    have hz₅ : IsZ h₅ z TI TO .ellipsis f1 := hs₅.extBut _ _ D.TOz.symm (hs₄.extBut _ _ D.i2z.symm (hs₃.extBut _ _ D.TOz.symm (hs₂.extBut _ _ D.i1z.symm hz₁)))
    have hk₅ : ∀ c o, c ≠ z → c ≠ TO → c ≠ i1 → c ≠ i2 → s.heap.get? c = some o → h₅.get? c = some o := fun c o c1 c2 c3 c4 e =>
      hs₅.extBut _ _ c2 (hs₄.extBut _ _ c4 (hs₃.extBut _ _ c2 (hs₂.extBut _ _ c3 (hs₁.extBut _ _ c1 e))))
    have h1₅ : qIt p h₅ i1 l1 (k1 + 1) := ((h1₂.extBut hs₃.extBut D.TOi1.symm).extBut hs₄.extBut D.i12).extBut hs₅.extBut D.TOi1.symm
    have h2₅ : qIt q h₅ i2 l2 (k2 + 1) := h2₄.extBut hs₅.extBut D.TOi2.symm
    have hzlt : z < h₅.objs.size := Heap.lt_size hz₅
    show wpAny _ _ (Builtin.SmallTypes.ownedTupleHandOut (.ref z) (.ref h₅.objs.size) >>= _) _ _ _
    refine wpAny_bind ?_
    unfold Builtin.SmallTypes.ownedTupleHandOut
    have hz₆ : IsZ (h₅.push { cls := .type "tuple", data := .seq #[x, y] }) z TI TO .ellipsis f1 := Heap.get?_push_of_some _ hz₅
    refine wpAny_bind (wpAny_setField_rec hz₆ (by simp) fun h₇ hz₇ hs₇ => ?_)
    replace hz₇ : IsZ h₇ z TI TO (rawInt h₅.objs.size) f1 := hz₇
    refine wpAny_setField_rec hz₇ (by simp) fun h₈ hz₈ hs₈ => ?_
    replace hz₈ : IsZ h₈ z TI TO (rawInt h₅.objs.size) (.bool false) := hz₈
    have up : ∀ c o, c ≠ z → h₅.get? c = some o → h₈.get? c = some o := fun c o c1 e => hs₈.extBut _ _ c1 (hs₇.extBut _ _ c1 (Heap.get?_push_of_some _ e))
    have hT₈ : IsPair h₈ h₅.objs.size x y := hs₈.extBut _ _ (Nat.ne_of_gt hzlt) (hs₇.extBut _ _ (Nat.ne_of_gt hzlt) (Heap.get?_push_size _ rfl))
    have hz8 : h₈.objs.size = h₅.objs.size + 1 := by rw [hs₈.1, hs₇.1, Heap.size_push]
    rw [hsz] at hz₈ hT₈ hz8
    refine wpAny_pure ⟨_, rfl, ?_⟩
    show Q (.ref h₅.objs.size) _
    rw [hsz]
    exact hQ h₈ _ _ _ _ ⟨.inr ⟨_, rfl⟩, false, rfl⟩ hz₈ (up _ _ D.TOz hTO₅) (h1₅.at fun o e => up _ o D.i1z e) (h2₅.at fun o e => up _ o D.i2z e) hT₈ hz8 fun c o c1 c2 c3 c4 e => up c o c1 (hk₅ c o c1 c2 c3 c4 e)
  · simp only [Bool.false_eq_true, if_false]
    refine wpAny_bind ?_
    rw [← Array.forIn_toList]
    simp only [List.forIn_cons, List.forIn_nil]
    refine wpAny_bind (wpAny_bind (wpAny_holding ?_))
    show wpAny _ _ (Builtin.SmallTypes.nextOf (.ref i1) >>= _) _ _ _
    refine wpAny_bind (q_next_item (s := { s with heap := h₁ }) (h1.extBut hs₁.extBut D.i1z) (hl1.extBut hs₁.extBut D.l1z) hx fun h₂ h1₂ hs₂ => wpAny_pure ?_)
    refine wpAny_pure ?_
    refine wpAny_bind (wpAny_bind (wpAny_holding ?_))
    show wpAny _ _ (Builtin.SmallTypes.nextOf (.ref i2) >>= _) _ _ _
    refine wpAny_bind (q_next_item (s := { s with heap := h₂ }) ((h2.extBut hs₁.extBut D.i2z).extBut hs₂.extBut D.i12.symm) ((hl2.extBut hs₁.extBut D.l2z).extBut hs₂.extBut D.l2i1) hy fun h₃ h2₃ hs₃ => wpAny_pure ?_)
    refine wpAny_pure (wpAny_pure ?_)
    show wpAny _ _ (newTuple [x, y] >>= _) _ _ _
    refine wpAny_bind (wpAny_newTuple ?_)
    have hsz : h₃.objs.size = s.heap.objs.size := by rw [hs₃.1, hs₂.1, hs₁.1]
    have hz₃ : IsZ h₃ z TI TO f0 f1' := hs₃.extBut _ _ D.i2z.symm (hs₂.extBut _ _ D.i1z.symm hz₁)
    have hTO₃ : IsPair h₃ TO a b := hs₃.extBut _ _ D.TOi2 (hs₂.extBut _ _ D.TOi1 (hs₁.extBut _ _ D.TOz hTO))
    have hk : ∀ c o, c ≠ z → c ≠ i1 → c ≠ i2 → s.heap.get? c = some o → h₃.get? c = some o := fun c o c1 c2 c3 e => hs₃.extBut _ _ c3 (hs₂.extBut _ _ c2 (hs₁.extBut _ _ c1 e))
    have h1₃ : qIt p h₃ i1 l1 (k1 + 1) := h1₂.extBut hs₃.extBut D.i12
    refine wpAny_pure ⟨_, rfl, ?_⟩
    show Q (.ref h₃.objs.size) _
    have hp : IsPair (h₃.push { cls := .type "tuple", data := .seq #[x, y] }) h₃.objs.size x y := Heap.get?_push_size _ rfl
    have hz4 : (h₃.push { cls := .type "tuple", data := .seq #[x, y] }).objs.size = h₃.objs.size + 1 := Heap.size_push ..
    rw [hsz] at hp hz4 ⊢
    exact hQ _ _ _ _ _ hf' (Heap.get?_push_of_some _ hz₃) (Heap.get?_push_of_some _ hTO₃) (h1₃.at fun o e => Heap.get?_push_of_some _ e) (h2₃.at fun o e => Heap.get?_push_of_some _ e) hp hz4 fun c o c1 c2 c3 c4 e => Heap.get?_push_of_some _ (hk c o c1 c3 c4 e)
theorem m_next_end {p q : Bool} {z TI TO i1 i2 l1 l2 : Addr} {f0 f1 : Value} {k1 k2 : Nat} {xs ys : Array Value} {a b : Value} {Q : Fin → Shared → Prop} (hh : A.handled = none) (D : ZipApart z TI TO i1 i2 l1 l2)
    (hz : IsZ s.heap z TI TO f0 f1) (hf : ZF f0 f1) (hTI : IsPair s.heap TI (.ref i1) (.ref i2)) (hTO : IsPair s.heap TO a b)
    (h1 : qIt p s.heap i1 l1 k1) (h2 : qIt q s.heap i2 l2 k2) (hl1 : qSq p s.heap l1 xs) (hl2 : qSq q s.heap l2 ys) (hend : xs[k1]? = none ∨ ys[k2]? = none)
    (hE : ∀ h' e, (∀ c o, c ≠ z → c ≠ TO → c ≠ i1 → c ≠ i2 → s.heap.get? c = some o → h'.get? c = some o) → (∃ o, h'.get? e = some o ∧ o.cls = .type "StopIteration") → E (.ref e) { s with heap := h' }) :
    wpAny (model prog w) A (Builtin.«zip.__next__» ⟨[.ref z], []⟩) Q E s := by
  show wpAny _ _ (field (.ref z) 2 >>= _) _ _ _
  refine wpAny_bind (wpAny_field hz rfl (x := .bool false) rfl ?_)
  show wpAny _ _ (field (.ref z) 3 >>= _) _ _ _
  refine wpAny_bind (wpAny_field hz rfl (x := .ref TI) rfl ?_)
  refine wpAny_bind (wpAny_seqItems hTI rfl ?_)
  show wpAny _ _ (Builtin.SmallTypes.ownedTupleIsFree (.ref z) >>= _) _ _ _
  refine wpAny_bind (z_free hz hf ?_ fun h₁ f1' hf' hz₁ hs₁ => ?_)
  · simp only [if_true]
    refine wpAny_bind (wpAny_rule ?_)
    refine wpAny_bind (wpAny_field hz rfl (x := .ref TO) rfl ?_)
    refine wpAny_bind (wpAny_setField_rec hz (by simp) fun h₁ hz₁ hs₁ => ?_)
    replace hz₁ : IsZ h₁ z TI TO .ellipsis f1 := hz₁
    refine wpAny_bind ?_
    simp only [List.zipIdx_cons, List.zipIdx_nil, List.forIn_cons, List.forIn_nil]
    refine wpAny_bind (wpAny_bind (wpAny_onRaise ?_))
    show wpAny _ _ (Builtin.SmallTypes.nextOf (.ref i1) >>= _) _ _ _
    cases hx : xs[k1]? with
    | none =>
      refine wpAny_bind (q_next_end hh (h1.extBut hs₁.extBut D.i1z) (hl1.extBut hs₁.extBut D.l1z) hx fun h₂ e hs₂ he => ?_)
      obtain ⟨oe, hoe, hce⟩ := he
      have hz₂ : IsZ h₂ z TI TO .ellipsis f1 := hs₂ _ _ D.i1z.symm hz₁
      have hez : e ≠ z := fun x => by subst x; rw [hz₂] at hoe; cases hoe; simp at hce
      refine wpAny_setField_rec hz₂ (by simp) fun h₃ _ hs₃ => hE h₃ e (fun c o c1 _ c3 _ x => hs₃.extBut _ _ c1 (hs₂ _ _ c3 (hs₁.extBut _ _ c1 x))) ⟨oe, hs₃.extBut _ _ hez hoe, hce⟩
    | some x =>
      have hy : ys[k2]? = none := by rcases hend with h | h; rw [hx] at h; cases h; exact h
      refine wpAny_bind (q_next_item (h1.extBut hs₁.extBut D.i1z) (hl1.extBut hs₁.extBut D.l1z) hx fun h₂ h1₂ hs₂ => wpAny_pure ?_)
      have hTO₂ : IsPair h₂ TO a b := hs₂.extBut _ _ D.TOi1 (hs₁.extBut _ _ D.TOz hTO)
      refine wpAny_bind (wpAny_seqItems hTO₂ rfl ?_)
      refine wpAny_bind (wpAny_updateSeq_pair hTO₂ fun h₃ hTO₃ hs₃ => ?_)
      refine wpAny_bind (wpAny_letGo (wpAny_pure ?_))
      refine wpAny_bind (wpAny_bind (wpAny_onRaise ?_))
      show wpAny _ _ (Builtin.SmallTypes.nextOf (.ref i2) >>= _) _ _ _
      refine wpAny_bind (q_next_end hh (((h2.extBut hs₁.extBut D.i2z).extBut hs₂.extBut D.i12.symm).extBut hs₃.extBut D.TOi2.symm)
        (((hl2.extBut hs₁.extBut D.l2z).extBut hs₂.extBut D.l2i1).extBut hs₃.extBut D.l2TO) hy fun h₄ e hs₄ he => ?_)
      obtain ⟨oe, hoe, hce⟩ := he
      have hz₄ : IsZ h₄ z TI TO .ellipsis f1 := hs₄ _ _ D.i2z.symm (hs₃.extBut _ _ D.TOz.symm (hs₂.extBut _ _ D.i1z.symm hz₁))
      have hez : e ≠ z := fun x => by subst x; rw [hz₄] at hoe; cases hoe; simp at hce
      refine wpAny_setField_rec hz₄ (by simp) fun h₅ _ hs₅ => hE h₅ e (fun c o c1 c2 c3 c4 x => hs₅.extBut _ _ c1 (hs₄ _ _ c4 (hs₃.extBut _ _ c2 (hs₂.extBut _ _ c3 (hs₁.extBut _ _ c1 x))))) ⟨oe, hs₅.extBut _ _ hez hoe, hce⟩
  · simp only [Bool.false_eq_true, if_false]
    refine wpAny_bind ?_
    rw [← Array.forIn_toList]
    simp only [List.forIn_cons, List.forIn_nil]
    refine wpAny_bind (wpAny_bind (wpAny_holding ?_))
    show wpAny _ _ (Builtin.SmallTypes.nextOf (.ref i1) >>= _) _ _ _
    cases hx : xs[k1]? with
    | none =>
      refine wpAny_bind (q_next_end (s := { s with heap := h₁ }) hh (h1.extBut hs₁.extBut D.i1z) (hl1.extBut hs₁.extBut D.l1z) hx fun h₂ e hs₂ he => ?_)
      exact hE h₂ e (fun c o c1 _ c3 _ x => hs₂ _ _ c3 (hs₁.extBut _ _ c1 x)) he
    | some x =>
      have hy : ys[k2]? = none := by rcases hend with h | h; rw [hx] at h; cases h; exact h
      refine wpAny_bind (q_next_item (s := { s with heap := h₁ }) (h1.extBut hs₁.extBut D.i1z) (hl1.extBut hs₁.extBut D.l1z) hx fun h₂ h1₂ hs₂ => wpAny_pure ?_)
      refine wpAny_pure ?_
      refine wpAny_bind (wpAny_bind (wpAny_holding ?_))
      show wpAny _ _ (Builtin.SmallTypes.nextOf (.ref i2) >>= _) _ _ _
      refine wpAny_bind (q_next_end (s := { s with heap := h₂ }) hh ((h2.extBut hs₁.extBut D.i2z).extBut hs₂.extBut D.i12.symm) ((hl2.extBut hs₁.extBut D.l2z).extBut hs₂.extBut D.l2i1) hy fun h₃ e hs₃ he => ?_)
      exact hE h₃ e (fun c o c1 _ c3 c4 x => hs₃ _ _ c4 (hs₂.extBut _ _ c3 (hs₁.extBut _ _ c1 x))) he
end
section
variable {prog : Program} {w : World} {A : Around} {E : Value → Shared → Prop} {s : Shared}
theorem m_pyNext_item {p q : Bool} {z TI TO i1 i2 l1 l2 : Addr} {f0 f1 : Value} {k1 k2 : Nat} {xs ys : Array Value} {x y a b : Value} {Q : Option Value → Shared → Prop} (D : ZipApart z TI TO i1 i2 l1 l2)
    (hz : IsZ s.heap z TI TO f0 f1) (hf : ZF f0 f1) (hTI : IsPair s.heap TI (.ref i1) (.ref i2)) (hTO : IsPair s.heap TO a b)
    (h1 : qIt p s.heap i1 l1 k1) (h2 : qIt q s.heap i2 l2 k2) (hl1 : qSq p s.heap l1 xs) (hl2 : qSq q s.heap l2 ys) (hx : xs[k1]? = some x) (hy : ys[k2]? = some y)
    (hQ : ∀ h' f0' f1' a' b', ZF f0' f1' → IsZ h' z TI TO f0' f1' → IsPair h' TO a' b' → qIt p h' i1 l1 (k1 + 1) → qIt q h' i2 l2 (k2 + 1) → IsPair h' s.heap.objs.size x y → h'.objs.size = s.heap.objs.size + 1 →
      (∀ c o, c ≠ z → c ≠ TO → c ≠ i1 → c ≠ i2 → s.heap.get? c = some o → h'.get? c = some o) → Q (some (.ref s.heap.objs.size)) { s with heap := h' }) : wpAny (model prog w) A (pyNext (.ref z)) Q E s := by
  have hT : s.TypeIs (.ref z) "zip" := ⟨_, hz, rfl⟩
  unfold pyNext
  exact wpAny_bind (wpAny_attempt (wpAny_callSpecial?_slot (name := Str.ofString "__next__") hT F.slot_zip_next
    (wpAny_call_entry F.slot_zip_next hT F.entry_zip_next
      (m_next_item D hz hf hTI hTO h1 h2 hl1 hl2 hx hy fun h' f0' f1' a' b' a1 a2 a3 a4 a5 a6 a7 a8 => wpAny_pure (hQ h' f0' f1' a' b' a1 a2 a3 a4 a5 a6 a7 a8)) (F.args_zip_next_1 _))))
theorem m_pyNext_end {p q : Bool} {z TI TO i1 i2 l1 l2 : Addr} {f0 f1 : Value} {k1 k2 : Nat} {xs ys : Array Value} {a b : Value} {Q : Option Value → Shared → Prop} (hh : A.handled = none) (D : ZipApart z TI TO i1 i2 l1 l2)
    (hz : IsZ s.heap z TI TO f0 f1) (hf : ZF f0 f1) (hTI : IsPair s.heap TI (.ref i1) (.ref i2)) (hTO : IsPair s.heap TO a b)
    (h1 : qIt p s.heap i1 l1 k1) (h2 : qIt q s.heap i2 l2 k2) (hl1 : qSq p s.heap l1 xs) (hl2 : qSq q s.heap l2 ys) (hend : xs[k1]? = none ∨ ys[k2]? = none)
    (hQ : ∀ h', (∀ c o, c ≠ z → c ≠ TO → c ≠ i1 → c ≠ i2 → s.heap.get? c = some o → h'.get? c = some o) → Q none { s with heap := h' }) : wpAny (model prog w) A (pyNext (.ref z)) Q E s := by
  have hT : s.TypeIs (.ref z) "zip" := ⟨_, hz, rfl⟩
  unfold pyNext
  refine wpAny_bind (wpAny_attempt (wpAny_callSpecial?_slot (name := Str.ofString "__next__") hT F.slot_zip_next
    (wpAny_call_entry F.slot_zip_next hT F.entry_zip_next (m_next_end hh D hz hf hTI hTO h1 h2 hl1 hl2 hend fun h' e hk he => ?_) (F.args_zip_next_1 _))))
  obtain ⟨o, ho, hc⟩ := he
  refine wpAny_bind (wpAny_isInstance (T := "StopIteration") (b := true) ⟨o, ho, hc⟩ isSubtype_stop ?_)
  exact wpAny_pure (hQ _ hk)
/-- the pair is let go: the zip may keep it as its own, or not -/
theorem m_letGo {elts : List Expr} {x1 : Nat} {pos : Pos} {z TI TO T : Addr} {f0 f1 : Value} {Q : Unit → Shared → Prop} (hz : IsZ s.heap z TI TO f0 f1) (hf : ZF f0 f1)
    (hQ : ∀ h' f0' f1', ZF f0' f1' → IsZ h' z TI TO f0' f1' → Heap.SameBut z s.heap h' → Q () { s with heap := h' }) :
    wpAny (model prog w) A (letOwnedTupleGo (.Tuple elts x1 pos) (.ref z) (.ref T)) Q E s := by
  unfold letOwnedTupleGo
  refine wpAny_bind (wpAny_load hz ?_)
  show wpAny _ _ (if (["enumerate", "zip", "dict_itemiterator", "dict_reverseitemiterator", "odict_iterator", "itertools.zip_longest", "itertools.pairwise"].contains "zip" &&
      (#[f0, f1, .bool false, .ref TI, .ref TO] : Array Value)[0]? == some (rawInt T)) = true then _ else _) Q E s
  split
  · refine wpAny_bind (wpAny_rule ?_)
    show wpAny _ _ (setField (.ref z) 0 .none) Q E s
    exact wpAny_setField_rec hz (by simp) fun h' hz' hs' => hQ h' _ _ ⟨.inl rfl, hf.2⟩ hz' hs'
  · exact wpAny_pure (hQ s.heap _ _ hf hz (Heap.SameBut.refl _ _))
end
/-! the new zip -/
abbrev mH1 (p : Bool) (h : Heap) (l1 : Addr) : Heap := h.push { cls := .type (qCl p), data := .fields #[.ref l1, .int 0 0] }
abbrev mH2 (p q : Bool) (h : Heap) (l1 l2 : Addr) : Heap := (mH1 p h l1).push { cls := .type (qCl q), data := .fields #[.ref l2, .int 0 0] }
abbrev mH3 (p q : Bool) (h : Heap) (l1 l2 : Addr) : Heap := (mH2 p q h l1 l2).push { cls := .type "tuple", data := .seq #[.ref h.objs.size, .ref (mH1 p h l1).objs.size] }
abbrev mH4 (p q : Bool) (h : Heap) (l1 l2 : Addr) : Heap := (mH3 p q h l1 l2).push { cls := .type "tuple", data := .seq #[.none, .none] }
abbrev mH5 (p q : Bool) (h : Heap) (l1 l2 : Addr) : Heap := (mH4 p q h l1 l2).push { cls := .type "zip", data := .fields #[.none, .bool false, .bool false, .ref (mH2 p q h l1 l2).objs.size, .ref (mH3 p q h l1 l2).objs.size] }
theorem m_meets (p q : Bool) (l1 l2 : Addr) (xs ys : Array Value) :
    Meets (Builtin.«zip.__new__» ⟨[.type "zip", .ref l1, .ref l2], []⟩) (fun _ R s => qSq p s.heap l1 xs ∧ qSq q s.heap l2 ys ∧
      R (.ok (.ret (.ref (mH4 p q s.heap l1 l2).objs.size))) { s with heap := mH5 p q s.heap l1 l2 }) :=
  .of_wp fun prog w A R s h => by
    obtain ⟨hp, g, d, tk, os⟩ := s
    obtain ⟨hl1, hl2, h⟩ := h
    have hsub := sub_zip
    have hL1 : qSq p (Shared.heap ⟨hp, g, d, tk, os⟩) l1 xs := hl1
    have hL2 : qSq q (Shared.heap ⟨hp.push { cls := .type (qCl p), data := .fields #[.ref l1, .int 0 0] }, g, d, tk, os⟩) l2 ys := qSq.push hl2 _
    wp_walk using q_iter hL1, q_iter hL2
    exact ⟨_, rfl, h⟩
section
variable {prog : Program} {w : World} {A : Around} {E : Value → Shared → Prop} {s : Shared}
theorem m_call {p q : Bool} {l1 l2 : Addr} {xs ys : Array Value} {Q : Value → Shared → Prop} (hl1 : qSq p s.heap l1 xs) (hl2 : qSq q s.heap l2 ys)
    (h : ∀ h', IsZip h' (s.heap.objs.size + 4) (s.heap.objs.size + 2) (s.heap.objs.size + 3) .none → IsPair h' (s.heap.objs.size + 2) (.ref s.heap.objs.size) (.ref (s.heap.objs.size + 1)) →
      IsPair h' (s.heap.objs.size + 3) .none .none → qIt p h' s.heap.objs.size l1 0 → qIt q h' (s.heap.objs.size + 1) l2 0 → h'.objs.size = s.heap.objs.size + 5 →
      (∀ c o, s.heap.get? c = some o → h'.get? c = some o) → Q (.ref (s.heap.objs.size + 4)) { s with heap := h' }) :
    wpAny (model prog w) A (call (.type "zip") [.ref l1, .ref l2]) Q E s := by
  refine callType_new F.called_zip (by decide) (F.typeCall_zip_2 _ _) (F.newCall_zip_2 _ _) (fun obj => F.args_object_init_3 obj _ _) F.entry_zip_new
    (m_meets p q l1 l2 xs ys) ⟨hl1, hl2, ?_⟩
  have z1 : (mH1 p s.heap l1).objs.size = s.heap.objs.size + 1 := Heap.size_push ..
  have z2 : (mH2 p q s.heap l1 l2).objs.size = s.heap.objs.size + 2 := by rw [Heap.size_push, z1]
  have z3 : (mH3 p q s.heap l1 l2).objs.size = s.heap.objs.size + 3 := by rw [Heap.size_push, z2]
  have z4 : (mH4 p q s.heap l1 l2).objs.size = s.heap.objs.size + 4 := by rw [Heap.size_push, z3]
  have z5 : (mH5 p q s.heap l1 l2).objs.size = s.heap.objs.size + 5 := by rw [Heap.size_push, z4]
  have g5 : (mH5 p q s.heap l1 l2).get? (mH4 p q s.heap l1 l2).objs.size = some _ := Heap.get?_push_size _ rfl
  have g4 : (mH5 p q s.heap l1 l2).get? (mH3 p q s.heap l1 l2).objs.size = some _ := Heap.get?_push_of_some _ (Heap.get?_push_size _ rfl)
  have g3 : (mH5 p q s.heap l1 l2).get? (mH2 p q s.heap l1 l2).objs.size = some _ := Heap.get?_push_of_some _ (Heap.get?_push_of_some _ (Heap.get?_push_size _ rfl))
  have g2 : (mH5 p q s.heap l1 l2).get? (mH1 p s.heap l1).objs.size = some _ := Heap.get?_push_of_some _ (Heap.get?_push_of_some _ (Heap.get?_push_of_some _ (Heap.get?_push_size _ rfl)))
  have g1 : (mH5 p q s.heap l1 l2).get? s.heap.objs.size = some _ := Heap.get?_push_of_some _ (Heap.get?_push_of_some _ (Heap.get?_push_of_some _ (Heap.get?_push_of_some _ (Heap.get?_push_size _ rfl))))
  show _ ∧ _
  rw [z2, z3, z4] at g5
  rw [z1, z2] at g3
  rw [z3] at g4
  rw [z1] at g2
  rw [z4]
  exact ⟨⟨_, g5, rfl⟩, h _ g5 g3 g4 (qIt.mk g1) (qIt.mk g2) z5 fun c o x =>
    Heap.get?_push_of_some _ (Heap.get?_push_of_some _ (Heap.get?_push_of_some _ (Heap.get?_push_of_some _ (Heap.get?_push_of_some _ x))))⟩
end
/-- the sequence at a in the tracked heap: a list where p, a tuple else -/
def SqQ (p : Bool) (K : PySem.W.Frag) (H : Hp) (a : Addr) (xs : List V) : Prop := cond p (SqL K H a xs) (SqT K H a xs)
theorem SqQ.get {X : Cx} {p : Bool} {pins : List (Addr × Obj)} {σ : L2.St} {H : Hp} {s : Shared} {a : Addr} {xs : List V} (I : Inv X pins σ H s) (h : SqQ p X.K H a xs) : ∃ its, Vals xs its ∧ qSq p s.heap a its.toArray ∧ ∃ o, s.heap.get? a = some o := by
  cases p
  · obtain ⟨its, rv, q, _⟩ := I.tuple (h : SqT X.K H a xs)
    obtain ⟨o, ho, _⟩ := id q
    exact ⟨its, rv, q, o, ho⟩
  · obtain ⟨its, rv, q, _⟩ := I.list (h : SqL X.K H a xs)
    obtain ⟨o, ho, _⟩ := id q.isList
    exact ⟨its, rv, q.isList, o, ho⟩
theorem SqQ.inj {X : Cx} {p : Bool} {pins : List (Addr × Obj)} {σ : L2.St} {H : Hp} {s : Shared} {a : Addr} {xs ys : List V} (I : Inv X pins σ H s) (h : SqQ p X.K H a xs) (h2 : SqQ p X.K H a ys) : xs = ys := by
  cases p
  · exact I.tuple_inj h h2
  · exact I.list_inj h h2
/-- the sequences at a and b as they stand at each turn, the items in new pairs -/
def ItzM (p q : Bool) (K : PySem.W.Frag) (a b : Addr) : It :=
  ⟨fun i H => ∃ (xs ys : List V) (x y : V), SqQ p K H a xs ∧ SqQ q K H b ys ∧ xs[i]? = some x ∧ ys[i]? = some y,
    fun i H v H' => ∃ T x y, v = .ref T ∧ H T = none ∧ H' = upd H T (.tup [x, y]) ∧ (∀ xs, SqQ p K H a xs → xs[i]? = some x) ∧ ∀ ys, SqQ q K H b ys → ys[i]? = some y,
    fun i H => ∃ xs ys : List V, SqQ p K H a xs ∧ SqQ q K H b ys ∧ (xs.length ≤ i ∨ ys.length ≤ i)⟩
def MSt (p q : Bool) (z TI TO i1 i2 a b : Addr) (i : Nat) (h : Heap) : Prop :=
  (∃ f0 f1, ZF f0 f1 ∧ IsZ h z TI TO f0 f1) ∧ IsPair h TI (.ref i1) (.ref i2) ∧ (∃ x y, IsPair h TO x y) ∧ qIt p h i1 a i ∧ qIt q h i2 b i
theorem m_self {prog : Program} {w : World} {A : Around} {E : Value → Shared → Prop} {s : Shared} {z TI TO : Addr} {f0 f1 : Value} {Q : Value → Shared → Prop} (hz : IsZ s.heap z TI TO f0 f1) (h : Q (.ref z) s) : wpAny (model prog w) A (pyIter (.ref z)) Q E s := by
  have hT : s.TypeIs (.ref z) "zip" := ⟨_, hz, rfl⟩
  refine wpAny_pyIter_slot hT F.slot_zip_iter (wpAny_call_entry F.slot_zip_iter hT F.entry_zip_iter ?_ (F.args_zip_iter_1 _))
  show wpAny _ _ (ret (.ref z)) _ _ s
  exact wpAny_pure ⟨_, rfl, "zip", _, hT, F.slot_zip_next.lookup, h⟩
theorem turn_zipM {P : Program} {w : World} {K : PySem.W.Frag} {elts : List Expr} {kk : Nat} {tpos : Pos} {p q : Bool} {a b z TI TO i1 i2 : Addr} (D : ZipApart z TI TO i1 i2 a b) :
    Turn P w K (.Tuple elts kk tpos) (ItzM p q K a b) [z, TI, TO, i1, i2] z (MSt p q z TI TO i1 i2 a b) where
  mem := by simp
  obj := fun i h st c hc => by
    obtain ⟨⟨f0, f1, _, hz⟩, hTI, ⟨x, y, hTO⟩, h1, h2⟩ := st
    have e' : c = z ∨ c = TI ∨ c = TO ∨ c = i1 ∨ c = i2 := by simpa using hc
    rcases e' with c' | c' | c' | c' | c'
    · rw [c']; exact ⟨_, hz, fun v q => nomatch q⟩
    · rw [c']; exact ⟨_, hTI, fun v q => nomatch q⟩
    · rw [c']; exact ⟨_, hTO, fun v q => nomatch q⟩
    · rw [c']; cases p
      · obtain ⟨o1, e1, _, d1⟩ := (h1 : h.IsTupleIter i1 a i); exact ⟨o1, e1, fun v q => by rw [d1] at q; cases q⟩
      · obtain ⟨o1, e1, _, d1⟩ := (h1 : h.IsListIter i1 a i); exact ⟨o1, e1, fun v q => by rw [d1] at q; cases q⟩
    · rw [c']; cases q
      · obtain ⟨o1, e1, _, d1⟩ := (h2 : h.IsTupleIter i2 b i); exact ⟨o1, e1, fun v q => by rw [d1] at q; cases q⟩
      · obtain ⟨o1, e1, _, d1⟩ := (h2 : h.IsListIter i2 b i); exact ⟨o1, e1, fun v q => by rw [d1] at q; cases q⟩
  keep := fun i h h' st k => by
    obtain ⟨⟨f0, f1, hf, hz⟩, hTI, ⟨x, y, hTO⟩, h1, h2⟩ := st
    exact ⟨⟨f0, f1, hf, k z (by simp) _ hz⟩, k TI (by simp) _ hTI, ⟨x, y, k TO (by simp) _ hTO⟩, h1.at fun o q => k i1 (by simp) o q, h2.at fun o q => k i2 (by simp) o q⟩
  item := by
    intro X hP hw hK hc i pins s σ H E I hf st hg
    subst hP hw hK
    obtain ⟨⟨f0, f1, hzf, hz⟩, hTI, ⟨x0, y0, hTO⟩, h1, h2⟩ := st
    obtain ⟨xs, ys, x, y, hqx, hqy, hx, hy⟩ := hg
    obtain ⟨its, rv, p1, _⟩ := hqx.get I
    obtain ⟨its2, rv2, p2, _⟩ := hqy.get I
    obtain ⟨u, hu, ru⟩ := rv.get hx
    obtain ⟨u2, hu2, ru2⟩ := rv2.get hy
    have hzl : z < s.heap.objs.size := Heap.lt_size hz
    refine m_pyNext_item D hz hzf hTI hTO h1 h2 p1 p2 (x := u) (y := u2) (by simpa using hu) (by simpa using hu2) fun h' f0' f1' a' b' hzf' z' TO' h1' h2' hT hsz hk => ?_
    refine ⟨_, rfl, m_letGo (s := { s with heap := h' }) z' hzf' fun h'' f0'' f1'' hzf'' z'' sb => ?_⟩
    have hT2 : h''.get? s.heap.objs.size = some { cls := .type "tuple", data := .seq #[u, u2] } := (sb.2 _ (Nat.ne_of_gt hzl)).trans hT
    have new : ObjOk X.prog X.w (upd H s.heap.objs.size (.tup [x, y])) h'' s.heap.objs.size (.tup [x, y]) :=
      ⟨by show 2 ≤ sizeLine; decide, [u, u2], .cons ru (.cons ru2 .nil), ⟨_, hT2, rfl, _, rfl⟩⟩
    have I1 : Inv X pins σ (upd H s.heap.objs.size (.tup [x, y])) { s with heap := h'' } :=
      I.turnedNew (t' := s.toks) (ch := [z, TI, TO, i1, i2]) (fun c o hb q => (sb.2 c (fun q' => hb (by simp [q']))).trans (hk c o (fun q' => hb (by simp [q'])) (fun q' => hb (by simp [q'])) (fun q' => hb (by simp [q'])) (fun q' => hb (by simp [q'])) q)) hf (Nat.le_refl _) new
    refine ⟨.ref s.heap.objs.size, _, I1, rfl, ⟨_, x, y, rfl, I.hok.fresh (Nat.le_refl _), rfl, fun l hl => by rw [hl.inj I hqx]; exact hx, fun l hl => by rw [hl.inj I hqy]; exact hy⟩, ⟨⟨f0'', f1'', hzf'', z''⟩, ?_, ⟨a', b', ?_⟩, ?_, ?_⟩, fun c hcm => ?_⟩
    · exact (sb.2 _ D.TIz).trans (hk _ _ D.TIz D.TITO D.TIi1 D.TIi2 hTI)
    · exact (sb.2 _ D.TOz).trans TO'
    · exact h1'.at fun o q => (sb.2 _ D.i1z).trans q
    · exact h2'.at fun o q => (sb.2 _ D.i2z).trans q
    · have hlt : c < s.heap.objs.size := by
        have e' : c = z ∨ c = TI ∨ c = TO ∨ c = i1 ∨ c = i2 := by simpa using hcm
        rcases e' with q | q | q | q | q
        · rw [q]; exact hzl
        · rw [q]; exact Heap.lt_size hTI
        · rw [q]; exact Heap.lt_size hTO
        · rw [q]; obtain ⟨_, e1, _⟩ := h1.obj; exact Heap.lt_size e1
        · rw [q]; obtain ⟨_, e2, _⟩ := h2.obj; exact Heap.lt_size e2
      rw [upd_ne (Nat.ne_of_lt hlt)]
      exact (hf c hcm).1
  done := by
    intro X hP hw hK hc i pins s σ H E I hf st hg
    subst hP hw hK
    obtain ⟨⟨f0, f1, hzf, hz⟩, hTI, ⟨x0, y0, hTO⟩, h1, h2⟩ := st
    obtain ⟨xs, ys, hqx, hqy, hend⟩ := hg
    obtain ⟨its, rv, p1, _⟩ := hqx.get I
    obtain ⟨its2, rv2, p2, _⟩ := hqy.get I
    have l1 := rv.length
    have l2 := rv2.length
    have he : its.toArray[i]? = none ∨ its2.toArray[i]? = none := by
      rcases hend with q | q
      · exact .inl (by simp; omega)
      · exact .inr (by simp; omega)
    exact m_pyNext_end (I.ok.hd hc) D hz hzf hTI hTO h1 h2 p1 p2 he fun h' hk => ⟨rfl, I.turnedL (t' := s.toks) (ch := [z, TI, TO, i1, i2]) (fun c o hb q =>
      hk c o (fun q' => hb (by simp [q'])) (fun q' => hb (by simp [q'])) (fun q' => hb (by simp [q'])) (fun q' => hb (by simp [q'])) q) hf⟩
  self := fun A i s Q E st h => let ⟨⟨_, _, _, hz⟩, _⟩ := st; m_self hz h
def iZipM (K : PySem.W.Frag) (ta : TA) : TI := fun σ H R => ta σ H fun vs H1 => ∃ (p q : Bool) (a b : Addr) (xs ys : List V), vs = [.ref a, .ref b] ∧ SqQ p K H1 a xs ∧ SqQ q K H1 b ys ∧ R (ItzM p q K a b) H1
theorem pi_zipM {X : Cx} {e e2 : Expr} {ta : TA} {p pos tpos : Pos} {elts : List Expr} {kk : Nat} (hg : Gl X "zip") (hm : X.mg "zip" = none) (ha : PA X [e, e2] ta)
    (hs : starEach [e, e2] X.env = (false, eval e X.env) :: starEach [e2] X.env := by rfl) (hpl : (backTo pos (starEach [e2] X.env)).any (·.1) = false := by rfl) :
    PI X (.Tuple elts kk tpos) (.Call (.Name "zip" p) [e, e2] [] pos) (iZipM X.K ta) := by
  refine ⟨fun pins s σ H R I h => ?_⟩
  refine Call_ (ld_blt I hg hm PyProof.Rows.boot_zip (PyProof.Rows.callWith_type1 (thn (ha.run pos pins s σ H _ I h) fun us s1 ⟨vs, H1, I1, r1, q1⟩ => ?_) hs hpl))
  obtain ⟨pp, qq, a, b, xs, ys, ex, hqx, hqy, q⟩ := q1
  subst ex
  cases r1 with
  | cons r rr =>
    cases rr with
    | cons r' rr =>
      cases rr
      cases r
      cases r'
      have fresh5 : ∀ c, c ∈ [s1.heap.objs.size + 4, s1.heap.objs.size + 2, s1.heap.objs.size + 3, s1.heap.objs.size, s1.heap.objs.size + 1] → FpOk X pins H1 c := fun c hcm => by
        have e' : c = s1.heap.objs.size + 4 ∨ c = s1.heap.objs.size + 2 ∨ c = s1.heap.objs.size + 3 ∨ c = s1.heap.objs.size ∨ c = s1.heap.objs.size + 1 := by simpa using hcm
        have hle : s1.heap.objs.size ≤ c := by
          rcases e' with z | z | z | z | z
          · rw [z]; exact Nat.le_add_right _ _
          · rw [z]; exact Nat.le_add_right _ _
          · rw [z]; exact Nat.le_add_right _ _
          · rw [z]; exact Nat.le_refl _
          · rw [z]; exact Nat.le_add_right _ _
        exact I1.fpOk hle (I1.hok.fresh hle)
      obtain ⟨its, rv, p1, o1, ho1⟩ := hqx.get I1
      obtain ⟨its2, rv2, p2, o2, ho2⟩ := hqy.get I1
      refine m_call p1 p2 fun h' hz hTI hTO h1 h2 hsz hk => wpAny_pyIter_zip hz ?_
      have I2 : Inv X pins σ H1 { s1 with heap := h' } := I1.kept (t' := s1.toks) hk
      exact ⟨s1.heap.objs.size + 4, [s1.heap.objs.size + 4, s1.heap.objs.size + 2, s1.heap.objs.size + 3, s1.heap.objs.size, s1.heap.objs.size + 1], _, _, H1, rfl, I2, turn_zipM (PySem.W.ktu_apart s1.heap.objs.size a b (Heap.lt_size ho1) (Heap.lt_size ho2)), ⟨⟨_, _, ⟨.inl rfl, _, rfl⟩, hz⟩, hTI, ⟨_, _, hTO⟩, h1, h2⟩, fresh5, q⟩
end TB

namespace TB
open PySem PySem.Spec PyProof.Rows L2 RZ

/-! ### what is walked -/
structure Wk (K : PySem.W.Frag) (H0 : Hp) (J : It) (items : List D) (stab : Mem → Prop) : Prop where
  goes : ∀ i H M, Keep H0 H → RepM K H M → stab M → i < items.length → J.go i H
  stops : ∀ H M, Keep H0 H → RepM K H M → stab M → J.stop items.length H
  yld : ∀ i d H M x H', Keep H0 H → RepM K H M → stab M → items[i]? = some d → J.yld i H x H' → Step M H M H' ∧ Rep K H' d x ∧ RepM K H' M

theorem Keep.refl {H : Hp} : Keep H H := ⟨fun _ _ h => h, fun _ _ _ h => h⟩
theorem Keep.trans {H H1 H2 : Hp} (a : Keep H H1) (b : Keep H1 H2) : Keep H H2 := ⟨fun x y h => b.tup x y (a.tup x y h), fun x y z h => b.frz x y z (a.frz x y z h)⟩
section
variable {K : PySem.W.Frag} {H0 : Hp}
theorem wk_tup {a : Addr} {xs : List V} {ds : List D} (h : SqT K H0 a xs) (l : RepL K H0 ds xs) : Wk K H0 (Itt K a) ds fun _ => True := by
  have e := l.length
  refine ⟨fun i H M k m _ hi => ?_, fun H M k m _ => ⟨xs, k.sqT h, by omega⟩, fun i d H M x H' k m _ hd y => ?_⟩
  · exact ⟨xs, xs[i]'(by omega), k.sqT h, by simp⟩
  · obtain ⟨rfl, y⟩ := y
    obtain ⟨v, hv, r⟩ := (l.keep k).get hd
    have := y xs (k.sqT h)
    rw [hv] at this; cases this
    exact ⟨.refl, r, m⟩
theorem Rd.lst_inj {H : Hp} {a : Addr} {xs ys : List V} (h : H a = some (.lst xs)) (q : SqL K H a ys) (hk : ∀ o, K.lookup a = some o → False) : ys = xs := by
  rcases q with (q | ⟨o, q⟩) | ⟨o, _, _, q, _⟩
  · rw [h] at q; cases q; rfl
  · rw [h] at q; cases q
  · exact (hk o q).elim
theorem wk_lst {a : Addr} {ds : List D} : Wk K H0 (Itl K a) ds fun M => M a = some ds := by
  refine ⟨fun i H M k m hs hi => ?_, fun H M k m hs => ?_, fun i d H M x H' k m hs hd y => ?_⟩
  · obtain ⟨xs, h, l, _⟩ := m a ds hs
    have e := l.length
    exact ⟨xs, xs[i]'(by omega), SqL.of h, by simp⟩
  · obtain ⟨xs, h, l, _⟩ := m a ds hs
    have e := l.length
    exact ⟨xs, SqL.of h, by omega⟩
  · obtain ⟨xs, h, l, _⟩ := m a ds hs
    obtain ⟨rfl, y⟩ := y
    obtain ⟨v, hv, r⟩ := l.get hd
    have := y xs (SqL.of h)
    rw [hv] at this; cases this
    exact ⟨.refl, r, m⟩
theorem rngD_length {lo : Int} {n : Nat} : (rngD lo n).length = n := by simp [rngD]
theorem rngD_get {lo : Int} {n i : Nat} {d : D} (h : (rngD lo n)[i]? = some d) : i < n ∧ d = .int (lo + i) := by
  unfold rngD at h
  rw [List.getElem?_map] at h
  by_cases hi : i < n
  · rw [List.getElem?_range hi] at h
    simp at h
    exact ⟨hi, h.symm⟩
  · rw [List.getElem?_eq_none (by simp; omega)] at h; cases h
theorem wk_rng {lo : Int} {n : Nat} : Wk K H0 (Itr lo n) (rngD lo n) fun _ => True := by
  refine ⟨fun i H M k m _ hi => by rw [rngD_length] at hi; exact hi, fun H M k m _ => by rw [rngD_length]; exact Nat.le_refl _, fun i d H M x H' k m _ hd y => ?_⟩
  obtain ⟨rfl, rfl⟩ := y
  obtain ⟨_, rfl⟩ := rngD_get hd
  exact ⟨.refl, rfl, m⟩
theorem wk_str {s : Str} : Wk K H0 (Its s) (s.cps.toList.map fun c => .str ⟨#[c]⟩) fun _ => True := by
  refine ⟨fun i H M k m _ hi => (show i < s.cps.size by simpa using hi), fun H M k m _ => (show s.cps.size ≤ _ by simp), fun i d H M x H' k m _ hd y => ?_⟩
  obtain ⟨rfl, c, hc, rfl⟩ := y
  simp [hc] at hd
  subst hd
  exact ⟨.refl, rfl, m⟩
theorem enumD_length : ∀ {n : Nat} {ds : List D}, (enumD n ds).length = ds.length
  | _, [] => rfl
  | n, d :: ds => by simp [enumD, enumD_length]
theorem enumD_get : ∀ {n : Nat} {ds : List D} {i : Nat} {d : D}, (enumD n ds)[i]? = some d → ∃ e, ds[i]? = some e ∧ d = .tup [.int (n + i : Nat), e]
  | _, [], _, _, h => by simp [enumD] at h
  | n, e :: ds, 0, d, h => by simp [enumD] at h; exact ⟨e, rfl, h.symm⟩
  | n, e :: ds, i + 1, d, h => by
    simp only [enumD, List.getElem?_cons_succ] at h
    obtain ⟨e, h1, h2⟩ := enumD_get h
    exact ⟨e, by simpa using h1, by rw [h2]; congr 4; omega⟩
theorem pair_ok {M : Mem} {H : Hp} {T : Addr} {d e : D} {x y : V} (hT : H T = none) (m : RepM K H M) (r1 : Rep K H d x) (r2 : Rep K H e y) :
    Step M H M (upd H T (.tup [x, y])) ∧ Rep K (upd H T (.tup [x, y])) (.tup [d, e]) (.ref T) ∧ RepM K (upd H T (.tup [x, y])) M :=
  ⟨step_new m hT, ⟨T, _, rfl, .inl (.inl upd_same), ⟨x, _, rfl, r1.keep (keep_new hT), y, _, rfl, r2.keep (keep_new hT), rfl⟩, line2⟩, m.new hT⟩
theorem wk_enum {a : Addr} {ds : List D} : Wk K H0 (Ite K a) (enumD 0 ds) fun M => M a = some ds := by
  refine ⟨fun i H M k m hs hi => ?_, fun H M k m hs => ?_, fun i d H M x H' k m hs hd y => ?_⟩
  · obtain ⟨xs, h, l, _⟩ := m a ds hs
    have e := l.length
    rw [enumD_length] at hi
    exact ⟨xs, xs[i]'(by omega), SqL.of h, by simp⟩
  · obtain ⟨xs, h, l, _⟩ := m a ds hs
    have e := l.length
    rw [enumD_length]
    exact ⟨xs, SqL.of h, by omega⟩
  · obtain ⟨xs, h, l, _⟩ := m a ds hs
    obtain ⟨T, z, rfl, hT, rfl, y⟩ := y
    obtain ⟨e, he, rfl⟩ := enumD_get hd
    obtain ⟨v, hv, r⟩ := l.get he
    have := y xs (SqL.of h)
    rw [hv] at this; cases this
    rw [Nat.zero_add]
    exact pair_ok hT m rfl r
theorem wk_enumT {a : Addr} {xs : List V} {ds : List D} (h : SqT K H0 a xs) (l : RepL K H0 ds xs) : Wk K H0 (IteT K a) (enumD 0 ds) fun _ => True := by
  have e := l.length
  refine ⟨fun i H M k m _ hi => ?_, fun H M k m _ => ?_, fun i d H M x H' k m _ hd y => ?_⟩
  · rw [enumD_length] at hi
    exact ⟨xs, xs[i]'(by omega), k.sqT h, by simp⟩
  · rw [enumD_length]
    exact ⟨xs, k.sqT h, by omega⟩
  · obtain ⟨T, z, rfl, hT, rfl, y⟩ := y
    obtain ⟨e, he, rfl⟩ := enumD_get hd
    obtain ⟨v, hv, r⟩ := (l.keep k).get he
    have := y xs (k.sqT h)
    rw [hv] at this; cases this
    rw [Nat.zero_add]
    exact pair_ok hT m rfl r
theorem zipD_length : ∀ {xs ys : List D}, (zipD xs ys).length = min xs.length ys.length
  | [], _ => by simp [zipD]
  | _ :: _, [] => by simp [zipD]
  | x :: xs, y :: ys => by simp [zipD, zipD_length]
theorem zipD_get : ∀ {xs ys : List D} {i : Nat} {d : D}, (zipD xs ys)[i]? = some d → ∃ e f, xs[i]? = some e ∧ ys[i]? = some f ∧ d = .tup [e, f]
  | [], _, _, _, h => by simp [zipD] at h
  | _ :: _, [], _, _, h => by simp [zipD] at h
  | x :: xs, y :: ys, 0, d, h => by simp [zipD] at h; exact ⟨x, y, rfl, rfl, h.symm⟩
  | x :: xs, y :: ys, i + 1, d, h => by
    simp only [zipD, List.getElem?_cons_succ] at h
    obtain ⟨e, f, h1, h2, h3⟩ := zipD_get h
    exact ⟨e, f, by simpa using h1, by simpa using h2, h3⟩
theorem wk_zipL {a b : Addr} {ds es : List D} : Wk K H0 (Itz K a b) (zipD ds es) fun M => M a = some ds ∧ M b = some es := by
  refine ⟨fun i H M k m hs hi => ?_, fun H M k m hs => ?_, fun i d H M x H' k m hs hd y => ?_⟩
  · obtain ⟨xs, h, l, _⟩ := m a ds hs.1
    obtain ⟨ys, h2, l2, _⟩ := m b es hs.2
    have e := l.length
    have e2 := l2.length
    rw [zipD_length] at hi
    exact ⟨xs, ys, xs[i]'(by omega), ys[i]'(by omega), SqL.of h, SqL.of h2, by simp, by simp⟩
  · obtain ⟨xs, h, l, _⟩ := m a ds hs.1
    obtain ⟨ys, h2, l2, _⟩ := m b es hs.2
    have e := l.length
    have e2 := l2.length
    rw [zipD_length]
    exact ⟨xs, ys, SqL.of h, SqL.of h2, by omega⟩
  · obtain ⟨xs, h, l, _⟩ := m a ds hs.1
    obtain ⟨ys, h2, l2, _⟩ := m b es hs.2
    obtain ⟨T, z, z2, rfl, hT, rfl, y, y2⟩ := y
    obtain ⟨e, f, he, hf, rfl⟩ := zipD_get hd
    obtain ⟨v, hv, r⟩ := l.get he
    obtain ⟨v2, hv2, r2⟩ := l2.get hf
    have := y xs (SqL.of h)
    rw [hv] at this; cases this
    have := y2 ys (SqL.of h2)
    rw [hv2] at this; cases this
    exact pair_ok hT m r r2
theorem wk_zipT {a b : Addr} {xs ys : List V} {ds es : List D} (h : SqT K H0 a xs) (l : RepL K H0 ds xs) (h2 : SqT K H0 b ys) (l2 : RepL K H0 es ys) : Wk K H0 (ItzT K a b) (zipD ds es) fun _ => True := by
  have e := l.length
  have e2 := l2.length
  refine ⟨fun i H M k m hs hi => ?_, fun H M k m hs => ?_, fun i d H M x H' k m hs hd y => ?_⟩
  · rw [zipD_length] at hi
    exact ⟨xs, ys, xs[i]'(by omega), ys[i]'(by omega), k.sqT h, k.sqT h2, by simp, by simp⟩
  · rw [zipD_length]
    exact ⟨xs, ys, k.sqT h, k.sqT h2, by omega⟩
  · obtain ⟨T, z, z2, rfl, hT, rfl, y, y2⟩ := y
    obtain ⟨e, f, he, hf, rfl⟩ := zipD_get hd
    obtain ⟨v, hv, r⟩ := (l.keep k).get he
    obtain ⟨v2, hv2, r2⟩ := (l2.keep k).get hf
    have := y xs (k.sqT h)
    rw [hv] at this; cases this
    have := y2 ys (k.sqT h2)
    rw [hv2] at this; cases this
    exact pair_ok hT m r r2
theorem wk_zipTL {a b : Addr} {xs : List V} {ds es : List D} (h : SqT K H0 a xs) (l : RepL K H0 ds xs) : Wk K H0 (ItzM false true K a b) (zipD ds es) fun M => M b = some es := by
  have e := l.length
  refine ⟨fun i H M k m hs hi => ?_, fun H M k m hs => ?_, fun i d H M x H' k m hs hd y => ?_⟩
  · obtain ⟨ys, h2, l2, _⟩ := m b es hs
    have e2 := l2.length
    rw [zipD_length] at hi
    exact ⟨xs, ys, xs[i]'(by omega), ys[i]'(by omega), k.sqT h, SqL.of h2, by simp, by simp⟩
  · obtain ⟨ys, h2, l2, _⟩ := m b es hs
    have e2 := l2.length
    rw [zipD_length]
    exact ⟨xs, ys, k.sqT h, SqL.of h2, by omega⟩
  · obtain ⟨ys, h2, l2, _⟩ := m b es hs
    obtain ⟨T, z, z2, rfl, hT, rfl, y, y2⟩ := y
    obtain ⟨e, f, he, hf, rfl⟩ := zipD_get hd
    obtain ⟨v, hv, r⟩ := (l.keep k).get he
    obtain ⟨v2, hv2, r2⟩ := l2.get hf
    have := y xs (k.sqT h)
    rw [hv] at this; cases this
    have := y2 ys (SqL.of h2)
    rw [hv2] at this; cases this
    exact pair_ok hT m r r2
theorem wk_ezip {a b : Addr} {xs ys : List V} {ds es : List D} (h : SqT K H0 a xs) (l : RepL K H0 ds xs) (h2 : SqT K H0 b ys) (l2 : RepL K H0 es ys) : Wk K H0 (IteZ K a b) (enumD 0 (zipD ds es)) fun _ => True := by
  have e := l.length
  have e2 := l2.length
  refine ⟨fun i H M k m hs hi => ?_, fun H M k m hs => ?_, fun i d H M x H' k m hs hd y => ?_⟩
  · rw [enumD_length, zipD_length] at hi
    exact ⟨xs, ys, xs[i]'(by omega), ys[i]'(by omega), k.sqT h, k.sqT h2, by simp, by simp⟩
  · rw [enumD_length, zipD_length]
    exact ⟨xs, ys, k.sqT h, k.sqT h2, by omega⟩
  · obtain ⟨T2, T, z, z2, rfl, hT2, hT, hne, rfl, y, y2⟩ := y
    obtain ⟨dd, hdd, rfl⟩ := enumD_get hd
    obtain ⟨e, f, he, hf, rfl⟩ := zipD_get hdd
    obtain ⟨v, hv, r⟩ := (l.keep k).get he
    obtain ⟨v2, hv2, r2⟩ := (l2.keep k).get hf
    have := y xs (k.sqT h)
    rw [hv] at this; cases this
    have := y2 ys (k.sqT h2)
    rw [hv2] at this; cases this
    rw [Nat.zero_add]
    have p1 := pair_ok (d := e) (e := f) hT2 m r r2
    have p2 := pair_ok (d := .int (i : Nat)) (e := .tup [e, f]) (T := T) (x := .int (i : Nat)) (y := .ref T2) (by rw [upd_ne hne]; exact hT) p1.2.2 rfl p1.2.1
    exact ⟨p1.1.trans p2.1, p2.2⟩
end

def LI (K : PySem.W.Frag) (w : En → Mem → KI → Prop) : TI := fun σ H R => ∃ ρ M r, RepE K H ρ σ ∧ RepM K H M ∧ w ρ M r ∧
  ∀ items stab M' J H', Step M H M' H' → RepM K H' M' → Wk K H' J items stab → r items stab M' → R J H'
section
variable {X : Cx} {tg e e2 : Expr}
theorem pi_imp {t t' : TI} (h : PI X tg e t) (f : ∀ σ H R, t' σ H R → t σ H R) : PI X tg e t' := ⟨fun pins s σ H R I hw => h.run pins s σ H R I (f σ H R hw)⟩
def iSeq (K : PySem.W.Frag) (tl : TE) : TI := fun σ H R => tl σ H fun x H1 => (∃ a, x = .ref a ∧ (∃ xs, SqL K H1 a xs) ∧ R (Itl K a) H1) ∨ (∃ a, x = .ref a ∧ (∃ xs, SqT K H1 a xs) ∧ R (Itt K a) H1) ∨ ∃ s, x = .str s ∧ R (Its s) H1
theorem pi_seq {tl : TE} (hl : PE X e tl) : PI X tg e (iSeq X.K tl) := by
  refine ⟨fun pins s σ H R I h => ?_⟩
  refine thn (hl.run pins s σ H _ I h) fun v s1 ⟨x, H1, I1, r1, q1⟩ => ?_
  rcases q1 with ⟨a, rfl, ⟨xs, hq⟩, q⟩ | ⟨a, rfl, ⟨xs, hq⟩, q⟩ | ⟨z, rfl, q⟩
  · cases r1
    obtain ⟨its, rv, p, hz⟩ := I1.list hq
    refine wpAny_pyIter_list p.isList ?_
    refine ⟨s1.heap.objs.size, [s1.heap.objs.size], _, _, H1, rfl, I1.kept (t' := s1.toks) fun b o e => Heap.get?_push_of_some _ e, turn_list a _, ⟨_, Heap.get?_push_size _ rfl, rfl, rfl⟩, fun b hb => ?_, q⟩
    have e : b = s1.heap.objs.size := by simpa using hb
    subst e
    exact I1.fpOk (Nat.le_refl _) (I1.hok.fresh (Nat.le_refl _))
  · cases r1
    obtain ⟨its, rv, p, hz⟩ := I1.tuple hq
    refine wpAny_pyIter_tuple (show s1.heap.IsTuple a its.toArray from p) ?_
    refine ⟨s1.heap.objs.size, [s1.heap.objs.size], _, _, H1, rfl, I1.kept (t' := s1.toks) fun b o e => Heap.get?_push_of_some _ e, turn_tuple a _, ⟨_, Heap.get?_push_size _ rfl, rfl, rfl⟩, fun b hb => ?_, q⟩
    have e : b = s1.heap.objs.size := by simpa using hb
    subst e
    exact I1.fpOk (Nat.le_refl _) (I1.hok.fresh (Nat.le_refl _))
  · obtain ⟨t, rfl⟩ := r1
    cases ha : z.cps.all (· < 128)
    · exact wpAny_pyIter_wide ha (pi_one (tk := s1.toks) I1 _ (turn_str _ z t "str_iterator" (.inr rfl)) ⟨_, Heap.get?_push_size _ rfl, rfl, rfl⟩ q)
    · exact wpAny_pyIter_ascii ha (pi_one (tk := s1.toks) I1 _ (turn_str _ z t "str_ascii_iterator" (.inl rfl)) ⟨_, Heap.get?_push_size _ rfl, rfl, rfl⟩ q)
variable {K : PySem.W.Frag} {w w2 : En → Mem → K1 → Prop}
theorem seqW_ok {d : D} {M : Mem} {r : KI} {x : V} {H : Hp} {R : It → Hp → Prop} (hr : Rep K H d x) (m : RepM K H M) (h : seqW d M r) (f : ∀ items stab J, Wk K H J items stab → r items stab M → R J H) :
    (∃ a, x = .ref a ∧ (∃ xs, SqL K H a xs) ∧ R (Itl K a) H) ∨ (∃ a, x = .ref a ∧ (∃ xs, SqT K H a xs) ∧ R (Itt K a) H) ∨ ∃ s, x = .str s ∧ R (Its s) H := by
  unfold seqW at h
  split at h
  · obtain ⟨a, xs, rfl, q, l, z⟩ := hr
    exact .inr (.inl ⟨a, rfl, ⟨xs, q⟩, f _ _ _ (wk_tup q l) (h z)⟩)
  · cases hr
    obtain ⟨ds, e, h⟩ := h
    obtain ⟨xs, q, l, z⟩ := m _ _ e
    exact .inl ⟨_, rfl, ⟨xs, SqL.of q⟩, f _ _ _ wk_lst (h z)⟩
  · cases hr
    exact .inr (.inr ⟨_, rfl, f _ _ _ wk_str h⟩)
  · exact h.elim
theorem pi_seqE (he : PE X e (LE X.K w)) : PI X tg e (LI X.K fun ρ M R => w ρ M fun d M1 => seqW d M1 R) := by
  refine pi_imp (pi_seq he) ?_
  rintro σ H R ⟨ρ, M, r, hE, hM, h, k⟩
  refine ⟨ρ, M, _, hE, hM, h, fun d M1 v H1 s1 r1 m1 q1 => ?_⟩
  exact seqW_ok r1 m1 q1 fun items stab J wk q => k items stab M1 J H1 s1 m1 wk q
end

/-! ### targets -/
mutual
def T.slots : T → List Nat
  | .nm i => [i]
  | .tp ts => Ts.slots ts
  | .ix _ _ => []
def Ts.slots : Ts → List Nat
  | .nil => []
  | .cons t ts => T.slots t ++ Ts.slots ts
end
def LG (K : PySem.W.Frag) (sl : List Nat) (w : D → En → Mem → (En → Mem → Prop) → Prop) : TG := fun v σ H Q => ∃ d ρ M k, Rep K H d v ∧ RepE K H ρ σ ∧ RepM K H M ∧ w d ρ M k ∧
  ∀ ρ' M' σ' H', (∀ vs : List Nat, (∀ i ∈ sl, i ∈ vs) → wipe σ' vs = wipe σ vs) → Step M H M' H' → RepE K H' ρ' σ' → RepM K H' M' → k ρ' M' → Q σ' H'
def LGs (K : PySem.W.Frag) (sl : List Nat) (w : List D → En → Mem → (En → Mem → Prop) → Prop) : TGs := fun vs σ H Q => ∃ ds ρ M k, RepL K H ds vs ∧ RepE K H ρ σ ∧ RepM K H M ∧ w ds ρ M k ∧
  ∀ ρ' M' σ' H', (∀ vs : List Nat, (∀ i ∈ sl, i ∈ vs) → wipe σ' vs = wipe σ vs) → Step M H M' H' → RepE K H' ρ' σ' → RepM K H' M' → k ρ' M' → Q σ' H'
theorem wipe_get : ∀ (vs : List Nat) (σ : St) (i : Nat), (wipe σ vs)[i]? = if i ∈ vs then (if i < σ.length then some none else none) else σ[i]?
  | [], σ, i => by simp [wipe]
  | v :: vs, σ, i => by
    unfold wipe
    by_cases h : v = i
    · subst h
      by_cases hl : v < σ.length
      · rw [List.getElem?_set_self (by rw [wipe_length]; exact hl)]; simp [hl]
      · rw [List.getElem?_eq_none (by rw [List.length_set, wipe_length]; omega)]; simp [hl]
    · rw [List.getElem?_set_ne h, wipe_get vs σ i]
      have : (i ∈ v :: vs) ↔ i ∈ vs := by simp [List.mem_cons]; omega
      simp only [this]
theorem wipe_set {σ : St} {i : Nat} {o : Option V} {vs : List Nat} (h : i ∈ vs) : wipe (σ.set i o) vs = wipe σ vs := by
  apply List.ext_getElem?
  intro j
  rw [wipe_get, wipe_get, List.length_set]
  by_cases hj : j ∈ vs
  · simp [hj]
  · simp only [hj, if_false]
    rw [List.getElem?_set_ne (fun e => hj (by rw [← e]; exact h))]
theorem wipe_wipe {σ : St} {vs : List Nat} : wipe (wipe σ vs) vs = wipe σ vs := by
  apply List.ext_getElem?
  intro j
  rw [wipe_get, wipe_get, wipe_length]
  by_cases hj : j ∈ vs
  · simp [hj]
  · simp [hj]

structure Post (K : PySem.W.Frag) (M : Mem) (H : Hp) (F : Ed) (E : Ends) : Prop where
  nx : ∀ ρ' M' σ' H', Step M H M' H' → RepE K H' ρ' σ' → RepM K H' M' → F.nx ρ' M' → E.nx σ' H'
  rt : ∀ d M' v H', Step M H M' H' → Rep K H' d v → RepM K H' M' → F.rt d M' → E.rt v H'
  bk : ∀ ρ' M' σ' H', Step M H M' H' → RepE K H' ρ' σ' → RepM K H' M' → F.bk ρ' M' → E.bk σ' H'
  ct : ∀ ρ' M' σ' H', Step M H M' H' → RepE K H' ρ' σ' → RepM K H' M' → F.ct ρ' M' → E.ct σ' H'
theorem Post.step {K : PySem.W.Frag} {M M1 : Mem} {H H1 : Hp} {F : Ed} {E : Ends} (p : Post K M H F E) (s : Step M H M1 H1) : Post K M1 H1 F E :=
  ⟨fun a b c d t => p.nx a b c d (s.trans t), fun a b c d t => p.rt a b c d (s.trans t), fun a b c d t => p.bk a b c d (s.trans t), fun a b c d t => p.ct a b c d (s.trans t)⟩
def LS (K : PySem.W.Frag) (w : En → Mem → Ed → Prop) : TS := fun E σ H => ∃ ρ M F, RepE K H ρ σ ∧ RepM K H M ∧ w ρ M F ∧ Post K M H F E

section
variable {X : Cx} {tg e e2 : Expr} {pos : Pos} {w w2 : En → Mem → K1 → Prop}
theorem pg_imp {t t' : TG} (h : PG X tg t) (f : ∀ v σ H Q, t' v σ H Q → t v σ H Q) : PG X tg t' := ⟨fun pins s σ H v u Q I r hw => h.run pins s σ H v u Q I r (f v σ H Q hw)⟩
theorem pgs_imp {ts : List Expr} {t t' : TGs} (h : PGs X ts t) (f : ∀ v σ H Q, t' v σ H Q → t v σ H Q) : PGs X ts t' := ⟨fun pins s σ H v u Q I r hw => h.run pins s σ H v u Q I r (f v σ H Q hw)⟩
theorem ps_imp {st : Stmt} {t t' : TS} (h : PS X st t) (f : ∀ E σ H, t' E σ H → t E σ H) : PS X st t' := ⟨fun pins s σ H D I hw => h.run pins s σ H D I (f D σ H hw)⟩
theorem pss_imp {st : List Stmt} {t t' : TS} (h : PSs X st t) (f : ∀ E σ H, t' E σ H → t E σ H) : PSs X st t' := ⟨fun pins s σ H D I hw => h.run pins s σ H D I (f D σ H hw)⟩

def forW (wi : En → Mem → KI → Prop) (wt : D → En → Mem → (En → Mem → Prop) → Prop) (wb : En → Mem → Ed → Prop) : En → Mem → Ed → Prop := fun ρ M F =>
  wi ρ M fun items stab M1 => ∃ W : Nat → En → Mem → Prop, W 0 ρ M1 ∧ (∀ i ρ M, i ≤ items.length → W i ρ M → stab M) ∧
      (∀ i d ρ M, items[i]? = some d → W i ρ M → wt d ρ M fun ρ' M' => wb ρ' M' ⟨W (i + 1), F.rt, F.nx, W (i + 1)⟩) ∧
      (∀ ρ M, W items.length ρ M → F.nx ρ M)
theorem ps_forE {it : Expr} {body : List Stmt} {wi : En → Mem → KI → Prop} {wt : D → En → Mem → (En → Mem → Prop) → Prop} {wb : En → Mem → Ed → Prop} {sl : List Nat}
    (hp : PassesOwn (model X.prog X.w) X.A X.env X.xe) (hc : X.calm = true) (hi : PI X tg it (LI X.K wi)) (hg : PG X tg (LG X.K sl wt)) (hb : PSs X body (LS X.K wb)) (hs : ∀ x, foldedSetIterable it X.env x = pure x) :
    PS X (.For tg it body [] pos) (LS X.K (forW wi wt wb)) := by
  refine ps_imp (ps_for hp hc hi hg hb hs) ?_
  rintro E σ H ⟨ρ, M, F, hE, hM, h, P⟩
  refine ⟨ρ, M, _, hE, hM, h, fun items stab M1 J H1 s1 m1 wk q => ?_⟩
  obtain ⟨W, w0, ws, wt', wd⟩ := q
  refine ⟨fun i m σ' H' => m = items.length - i ∧ i ≤ items.length ∧ ∃ ρ' M', RepE X.K H' ρ' σ' ∧ RepM X.K H' M' ∧ Step M H M' H' ∧ Keep H1 H' ∧ W i ρ' M', ⟨_, rfl, Nat.zero_le _, ρ, M1, hE.keep s1.keep, m1, s1, .refl, w0⟩, ?_⟩
  rintro i m σ' H' ⟨rfl, hi, ρ', M', e', m', s', k', w'⟩
  have st := ws i ρ' M' hi w'
  by_cases hlt : i < items.length
  · refine .inr ⟨wk.goes i H' M' k' m' st hlt, fun σ2 H2 => ∃ ρ2 M2, RepE X.K H2 ρ2 σ2 ∧ RepM X.K H2 M2 ∧ Step M H M2 H2 ∧ Keep H1 H2 ∧ W (i + 1) ρ2 M2,
      fun σ2 H2 hh => ⟨items.length - (i + 1), by omega, rfl, hlt, hh⟩, fun x H2 y => ?_⟩
    have hd : items[i]? = some items[i] := by simp [hlt]
    obtain ⟨s2, r2, m2⟩ := wk.yld i _ H' M' x H2 k' m' st hd y
    refine ⟨items[i], ρ', M', _, r2, e'.keep s2.keep, m2, wt' i _ ρ' M' hd w', fun ρ3 M3 σ3 H3 _ s3 e3 m3 q3 => ?_⟩
    have s03 : Step M H M3 H3 := (s'.trans s2).trans s3
    have k3 : Keep H1 H3 := (k'.trans s2.keep).trans s3.keep
    refine ⟨ρ3, M3, _, e3, m3, q3, ⟨fun ρ4 M4 σ4 H4 s4 e4 m4 q4 => ⟨ρ4, M4, e4, m4, s03.trans s4, k3.trans s4.keep, q4⟩, fun d4 M4 v4 H4 s4 => P.rt d4 M4 v4 H4 (s03.trans s4),
      fun ρ4 M4 σ4 H4 s4 => P.nx ρ4 M4 σ4 H4 (s03.trans s4), fun ρ4 M4 σ4 H4 s4 e4 m4 q4 => ⟨ρ4, M4, e4, m4, s03.trans s4, k3.trans s4.keep, q4⟩⟩⟩
  · have e : i = items.length := by omega
    subst e
    exact .inl ⟨wk.stops H' M' k' m' st, P.nx ρ' M' σ' H' s' e' m' (wd ρ' M' w')⟩

def compW (wi : En → Mem → KI → Prop) (wt : D → En → Mem → (En → Mem → Prop) → Prop) (wc : En → Mem → (Bool → Mem → Prop) → Prop) (we : En → Mem → K1 → Prop) (own : List Nat) : En → Mem → K1 → Prop := fun ρ M q =>
  wi ρ M fun items stab M1 => items.length ≤ sizeLine ∧ ∃ W : Nat → List D → Mem → Prop, W 0 [] M1 ∧
      (∀ i acc M, i ≤ items.length → W i acc M → stab M) ∧
      (∀ i d acc M, items[i]? = some d → W i acc M → wt d (wipeE ρ own) M fun ρ' M' => wc ρ' M' fun b M2 =>
        if b = true then we ρ' M2 fun y M3 => W (i + 1) (acc ++ [y]) M3 else W (i + 1) acc M2) ∧
      (∀ acc M, acc.length ≤ items.length → W items.length acc M → ∀ p, M p = none → q (.lst p) (M.up p acc))
def LCd (K : PySem.W.Frag) (w : En → Mem → (Bool → Mem → Prop) → Prop) : TT := fun σ H Q => ∃ ρ M q, RepE K H ρ σ ∧ RepM K H M ∧ w ρ M q ∧
  ∀ b M' H', Step M H M' H' → RepM K H' M' → q b M' → Q b H'
/-- the reading of a comprehension from the law's words -/
theorem tLc_of {wi : En → Mem → KI → Prop} {wt : D → En → Mem → (En → Mem → Prop) → Prop} {wc : En → Mem → (Bool → Mem → Prop) → Prop} {we : En → Mem → K1 → Prop} {own sl : List Nat} {K : PySem.W.Frag} (hsl : ∀ i ∈ sl, i ∈ own)
    {σ : St} {H : Hp} {Q : VK} (h : LE K (compW wi wt wc we own) σ H Q) : tLc (LI K wi) (LG K sl wt) (LCd K wc) (LE K we) own σ H Q := by
  obtain ⟨ρ, M, q, hE, hM, h, P⟩ := h
  refine ⟨ρ, M, _, hE, hM, h, fun items stab M1 J H1 s1 m1 wk hq => ?_⟩
  obtain ⟨hz, W, w0, ws, wt', wd⟩ := hq
  intro Dd hD
  refine ⟨fun i m H' => m = items.length - i ∧ i ≤ items.length ∧ ∃ acc xs M', H' Dd = some (.lst xs) ∧ RepL K H' acc xs ∧ acc.length ≤ i ∧ M' Dd = none ∧ RepM K H' M' ∧ Step M H M' H' ∧ Keep H1 H' ∧ W i acc M',
    ⟨_, rfl, Nat.zero_le _, [], [], M1, upd_same, rfl, Nat.le_refl _, m1.free hD, m1.new hD, s1.trans (step_new m1 hD), keep_new hD, w0⟩, ?_⟩
  rintro i m H' ⟨rfl, hi, acc, xs, M', hDx, l, hl, hMD, m', s', k', w'⟩
  have st := ws i acc M' hi w'
  by_cases hlt : i < items.length
  · refine .inr ⟨wk.goes i H' M' k' m' st hlt, fun H2 => ∃ acc xs M', H2 Dd = some (.lst xs) ∧ RepL K H2 acc xs ∧ acc.length ≤ i + 1 ∧ M' Dd = none ∧ RepM K H2 M' ∧ Step M H M' H2 ∧ Keep H1 H2 ∧ W (i + 1) acc M',
      fun H2 hh => ⟨items.length - (i + 1), by omega, rfl, hlt, hh⟩, fun x H2 y => ?_⟩
    have hd : items[i]? = some items[i] := by simp [hlt]
    obtain ⟨s2, r2, m2⟩ := wk.yld i _ H' M' x H2 k' m' st hd y
    have E0 : RepE K H' ρ σ := hE.keep s'.keep
    refine ⟨items[i], wipeE ρ own, M', _, r2, (E0.keep s2.keep).wipe own, m2, wt' i _ acc M' hd w', fun ρ3 M3 σ3 H3 hw3 s3 e3 m3 q3 => ⟨?_, ?_⟩⟩
    · rw [hw3 own hsl, wipe_wipe]
    refine ⟨ρ3, M3, _, e3, m3, q3, fun b M4 H4 s4 m4 q4 => ?_⟩
    have s24 : Step M' H' M4 H4 := (s2.trans s3).trans s4
    cases b with
    | false =>
      simp only [Bool.false_eq_true, if_false] at q4 ⊢
      exact ⟨acc, xs, M4, s24.lst _ _ hMD hDx, l.keep s24.keep, by omega, s24.dom _ _ hMD hDx, m4, s'.trans s24, k'.trans s24.keep, q4⟩
    | true =>
      simp only [if_true] at q4 ⊢
      refine ⟨ρ3, M4, _, e3.keep s4.keep, m4, q4, fun yv M5 v H5 s5 r5 m5 q5 => ?_⟩
      have s25 : Step M' H' M5 H5 := s24.trans s5
      have h5 : H5 Dd = some (.lst xs) := s25.lst _ _ hMD hDx
      have n5 : M5 Dd = none := s25.dom _ _ hMD hDx
      have l5 := l.keep s25.keep
      refine ⟨xs, h5, by rw [← l.length]; omega, acc ++ [yv], xs ++ [v], M5, upd_same, (l5.app (RepL.single r5)).keep (keep_wr h5), by simp; omega, n5, ?_, ?_, ?_, q5⟩
      · intro a ds e
        obtain ⟨ys, a1, a2, a3⟩ := m5 a ds e
        have ne : a ≠ Dd := fun z => by rw [z, n5] at e; cases e
        exact ⟨ys, by rw [upd_ne ne]; exact a1, a2.keep (keep_wr h5), a3⟩
      · have hDn : H Dd = none := by
          cases hh : H Dd with
          | none => rfl
          | some o => obtain ⟨o', ho'⟩ := s1.live _ _ hh; rw [hD] at ho'; cases ho'
        have t : Step M H M5 H5 := s'.trans s25
        exact ⟨fun a zs hh => by rw [upd_ne (ne_of_none hh hDn)]; exact t.tup a zs hh, fun a o u hh => by rw [upd_ne (ne_of_none hh hDn)]; exact t.frz a o u hh,
          fun a zs hn hh => by rw [upd_ne (ne_of_none hh hDn)]; exact t.lst a zs hn hh, t.dom, fun a o hh => by rw [upd_ne (ne_of_none hh hDn)]; exact t.live a o hh⟩
      · have k5 : Keep H1 H5 := k'.trans s25.keep
        exact k5.trans (keep_wr h5)
  · have e : i = items.length := by omega
    subst e
    refine .inl ⟨wk.stops H' M' k' m' st, ?_⟩
    have q1 := wd acc M' hl w' Dd hMD
    refine P (.lst Dd) (M'.up Dd acc) (.ref Dd) H' ?_ rfl ?_ q1
    · have hDn : H Dd = none := by
        cases hh : H Dd with
        | none => rfl
        | some o => obtain ⟨o', ho'⟩ := s1.live _ _ hh; rw [hD] at ho'; cases ho'
      exact ⟨s'.tup, s'.frz, s'.lst, fun a o hn ho => by rw [up_ne (ne_of_none ho hDn)]; exact s'.dom a o hn ho, s'.live⟩
    · intro a ds e
      by_cases ha : a = Dd
      · subst ha
        rw [up_same] at e; cases e
        exact ⟨xs, hDx, l, by omega⟩
      · rw [up_ne ha] at e
        exact m' a ds e
def compW2 (wi : En → Mem → KI → Prop) (wt : D → En → Mem → (En → Mem → Prop) → Prop) (wc : En → Mem → (Bool → Mem → Prop) → Prop) (wi1 : En → Mem → KI → Prop) (wt1 : D → En → Mem → (En → Mem → Prop) → Prop) (wc1 : En → Mem → (Bool → Mem → Prop) → Prop) (we : En → Mem → K1 → Prop) (own own1 : List Nat) : En → Mem → K1 → Prop := fun ρ M q =>
  wi ρ M fun items stab M1 => ∃ W : Nat → List D → Mem → Prop, W 0 [] M1 ∧
      (∀ i acc M, i ≤ items.length → W i acc M → stab M) ∧
      (∀ i d acc M, items[i]? = some d → W i acc M → wt d (wipeE ρ own) M fun ρ' M' => wc ρ' M' fun b M2 =>
        if b = true then wi1 ρ' M2 fun items1 stab1 M3 => ∃ V : Nat → List D → Mem → Prop, V 0 acc M3 ∧
            (∀ j acc M, j ≤ items1.length → V j acc M → stab1 M) ∧
            (∀ j d1 acc M, items1[j]? = some d1 → V j acc M → wt1 d1 (wipeE ρ' own1) M fun ρ'' M4 => wc1 ρ'' M4 fun b M5 =>
              if b = true then we ρ'' M5 fun y M6 => acc.length < sizeLine ∧ V (j + 1) (acc ++ [y]) M6 else V (j + 1) acc M5) ∧
            (∀ acc M, V items1.length acc M → W (i + 1) acc M)
        else W (i + 1) acc M2) ∧
      (∀ acc M, W items.length acc M → ∀ p, M p = none → q (.lst p) (M.up p acc))
/-- the reading of a comprehension of two clauses from the law's words -/
theorem tLc2_of {wi : En → Mem → KI → Prop} {wt : D → En → Mem → (En → Mem → Prop) → Prop} {wc : En → Mem → (Bool → Mem → Prop) → Prop} {wi1 : En → Mem → KI → Prop} {wt1 : D → En → Mem → (En → Mem → Prop) → Prop} {wc1 : En → Mem → (Bool → Mem → Prop) → Prop} {we : En → Mem → K1 → Prop} {own own1 sl sl1 : List Nat} {K : PySem.W.Frag} (hsl : ∀ i ∈ sl, i ∈ own) (hsl1 : ∀ i ∈ sl1, i ∈ own1)
    {σ : St} {H : Hp} {Q : VK} (h : LE K (compW2 wi wt wc wi1 wt1 wc1 we own own1) σ H Q) : tLc2 (LI K wi) (LG K sl wt) (LCd K wc) (LI K wi1) (LG K sl1 wt1) (LCd K wc1) (LE K we) own own1 σ H Q := by
  obtain ⟨ρ, M, q, hE, hM, h, P⟩ := h
  refine ⟨ρ, M, _, hE, hM, h, fun items stab M1 J H1 s1 m1 wk hq => ?_⟩
  obtain ⟨W, w0, ws, wt', wd⟩ := hq
  intro Dd hD
  have hDn : H Dd = none := by
    cases hh : H Dd with
    | none => rfl
    | some o => obtain ⟨o', ho'⟩ := s1.live _ _ hh; rw [hD] at ho'; cases ho'
  refine ⟨fun i m H' => m = items.length - i ∧ i ≤ items.length ∧ ∃ acc xs M', H' Dd = some (.lst xs) ∧ RepL K H' acc xs ∧ acc.length ≤ sizeLine ∧ M' Dd = none ∧ RepM K H' M' ∧ Step M H M' H' ∧ Keep H1 H' ∧ W i acc M',
    ⟨_, rfl, Nat.zero_le _, [], [], M1, upd_same, rfl, Nat.zero_le _, m1.free hD, m1.new hD, s1.trans (step_new m1 hD), keep_new hD, w0⟩, ?_⟩
  rintro i m H' ⟨rfl, hi, acc, xs, M', hDx, l, hl, hMD, m', s', k', w'⟩
  have st := ws i acc M' hi w'
  by_cases hlt : i < items.length
  · refine .inr ⟨wk.goes i H' M' k' m' st hlt, fun H2 => ∃ acc xs M', H2 Dd = some (.lst xs) ∧ RepL K H2 acc xs ∧ acc.length ≤ sizeLine ∧ M' Dd = none ∧ RepM K H2 M' ∧ Step M H M' H2 ∧ Keep H1 H2 ∧ W (i + 1) acc M',
      fun H2 hh => ⟨items.length - (i + 1), by omega, rfl, hlt, hh⟩, fun x H2 y => ?_⟩
    have hd : items[i]? = some items[i] := by simp [hlt]
    obtain ⟨s2, r2, m2⟩ := wk.yld i _ H' M' x H2 k' m' st hd y
    have E0 : RepE K H' ρ σ := hE.keep s'.keep
    refine ⟨items[i], wipeE ρ own, M', _, r2, (E0.keep s2.keep).wipe own, m2, wt' i _ acc M' hd w', fun ρ3 M3 σ3 H3 hw3 s3 e3 m3 q3 => ⟨?_, ?_⟩⟩
    · rw [hw3 own hsl, wipe_wipe]
    refine ⟨ρ3, M3, _, e3, m3, q3, fun b M4 H4 s4 m4 q4 => ?_⟩
    have s24 : Step M' H' M4 H4 := (s2.trans s3).trans s4
    cases b with
    | false =>
      simp only [Bool.false_eq_true, if_false] at q4 ⊢
      exact ⟨acc, xs, M4, s24.lst _ _ hMD hDx, l.keep s24.keep, hl, s24.dom _ _ hMD hDx, m4, s'.trans s24, k'.trans s24.keep, q4⟩
    | true =>
      simp only [if_true] at q4 ⊢
      have e4 := e3.keep s4.keep
      refine ⟨ρ3, M4, _, e4, m4, q4, fun items1 stab1 M5 J1 H5 s5 m5 wk1 hq1 => ?_⟩
      obtain ⟨V, v0, vs, vt, vd⟩ := hq1
      have s25 : Step M' H' M5 H5 := s24.trans s5
      refine ⟨fun j k H' => k = items1.length - j ∧ j ≤ items1.length ∧ ∃ acc xs M', H' Dd = some (.lst xs) ∧ RepL K H' acc xs ∧ acc.length ≤ sizeLine ∧ M' Dd = none ∧ RepM K H' M' ∧ Step M H M' H' ∧ Keep H1 H' ∧ Keep H5 H' ∧ V j acc M',
        ⟨_, rfl, Nat.zero_le _, acc, xs, M5, s25.lst _ _ hMD hDx, l.keep s25.keep, hl, s25.dom _ _ hMD hDx, m5, s'.trans s25, k'.trans s25.keep, Keep.refl, v0⟩, ?_⟩
      rintro j m1' H6 ⟨rfl, hj, acc6, xs6, M6, hDx6, l6, hl6, hMD6, m6, s6, k6, kk6, v6⟩
      have st1 := vs j acc6 M6 hj v6
      by_cases hlt1 : j < items1.length
      · refine .inr ⟨wk1.goes j H6 M6 kk6 m6 st1 hlt1, fun H2 => ∃ acc xs M', H2 Dd = some (.lst xs) ∧ RepL K H2 acc xs ∧ acc.length ≤ sizeLine ∧ M' Dd = none ∧ RepM K H2 M' ∧ Step M H M' H2 ∧ Keep H1 H2 ∧ Keep H5 H2 ∧ V (j + 1) acc M',
          fun H2 hh => ⟨items1.length - (j + 1), by omega, rfl, hlt1, hh⟩, fun x H7 y1 => ?_⟩
        have hd1 : items1[j]? = some items1[j] := by simp [hlt1]
        obtain ⟨s7, r7, m7⟩ := wk1.yld j _ H6 M6 x H7 kk6 m6 st1 hd1 y1
        have E6 : RepE K H6 ρ3 σ3 := (e4.keep s5.keep).keep kk6
        refine ⟨items1[j], wipeE ρ3 own1, M6, _, r7, (E6.keep s7.keep).wipe own1, m7, vt j _ acc6 M6 hd1 v6, fun ρ8 M8 σ8 H8 hw8 s8 e8 m8 q8 => ⟨?_, ?_⟩⟩
        · rw [hw8 own1 hsl1, wipe_wipe]
        refine ⟨ρ8, M8, _, e8, m8, q8, fun b M9 H9 s9 m9 q9 => ?_⟩
        have s79 : Step M6 H6 M9 H9 := (s7.trans s8).trans s9
        cases b with
        | false =>
          simp only [Bool.false_eq_true, if_false] at q9 ⊢
          exact ⟨acc6, xs6, M9, s79.lst _ _ hMD6 hDx6, l6.keep s79.keep, hl6, s79.dom _ _ hMD6 hDx6, m9, s6.trans s79, k6.trans s79.keep, kk6.trans s79.keep, q9⟩
        | true =>
          simp only [if_true] at q9 ⊢
          refine ⟨ρ8, M9, _, e8.keep s9.keep, m9, q9, fun yv M10 v H10 s10 r10 m10 q10 => ?_⟩
          obtain ⟨hlen, q10⟩ := q10
          have sA : Step M6 H6 M10 H10 := s79.trans s10
          have h10 : H10 Dd = some (.lst xs6) := sA.lst _ _ hMD6 hDx6
          have n10 : M10 Dd = none := sA.dom _ _ hMD6 hDx6
          have l10 := l6.keep sA.keep
          refine ⟨xs6, h10, by rw [← l6.length]; exact hlen, acc6 ++ [yv], xs6 ++ [v], M10, upd_same, (l10.app (RepL.single r10)).keep (keep_wr h10), by simp; omega, n10, ?_, ?_, ?_, ?_, q10⟩
          · intro a ds e
            obtain ⟨ys, a1, a2, a3⟩ := m10 a ds e
            have ne : a ≠ Dd := fun z => by rw [z, n10] at e; cases e
            exact ⟨ys, by rw [upd_ne ne]; exact a1, a2.keep (keep_wr h10), a3⟩
          · have t : Step M H M10 H10 := s6.trans sA
            exact ⟨fun a zs hh => by rw [upd_ne (ne_of_none hh hDn)]; exact t.tup a zs hh, fun a o u hh => by rw [upd_ne (ne_of_none hh hDn)]; exact t.frz a o u hh,
              fun a zs hn hh => by rw [upd_ne (ne_of_none hh hDn)]; exact t.lst a zs hn hh, t.dom, fun a o hh => by rw [upd_ne (ne_of_none hh hDn)]; exact t.live a o hh⟩
          · exact (k6.trans sA.keep).trans (keep_wr h10)
          · exact (kk6.trans sA.keep).trans (keep_wr h10)
      · have e : j = items1.length := by omega
        subst e
        exact .inl ⟨wk1.stops H6 M6 kk6 m6 st1, acc6, xs6, M6, hDx6, l6, hl6, hMD6, m6, s6, k6, vd acc6 M6 v6⟩
  · have e : i = items.length := by omega
    subst e
    refine .inl ⟨wk.stops H' M' k' m' st, ?_⟩
    have q1 := wd acc M' w' Dd hMD
    refine P (.lst Dd) (M'.up Dd acc) (.ref Dd) H' ?_ rfl ?_ q1
    · exact ⟨s'.tup, s'.frz, s'.lst, fun a o hn ho => by rw [up_ne (ne_of_none ho hDn)]; exact s'.dom a o hn ho, s'.live⟩
    · intro a ds e
      by_cases ha : a = Dd
      · subst ha
        rw [up_same] at e; cases e
        exact ⟨xs, hDx, l, by omega⟩
      · rw [up_ne ha] at e
        exact m' a ds e
end
end TB

namespace TB
open PySem PySem.Spec PyProof.Rows L2

/-! ### from the program's form to the small language -/
structure Ct where
  N : List Str
  sc : Scope
  fn : Str → Bool
  fns : List (Str × Nat × Nat)
  cs : List (Str × D)

def findIx : List Str → Str → Option Nat
  | [], _ => none
  | y :: r, x => if y = x then some 0 else (findIx r x).map (· + 1)
theorem findIx_get : ∀ {N : List Str} {x : Str} {i : Nat}, findIx N x = some i → N[i]? = some x
  | [], _, _, h => by simp [findIx] at h
  | y :: r, x, i, h => by
    unfold findIx at h
    split at h
    · rename_i e; cases h; simp [e]
    · simp only [Option.map_eq_some_iff] at h
      obtain ⟨j, e, rfl⟩ := h
      simpa using findIx_get e

def bnames : List Str := ["len", "abs", "tuple", "list", "all", "any", "int", "isinstance", "bool", "str", "range", "enumerate", "zip", "sum", "sorted", "set", "min", "max"]
def Ct.isGl (C : Ct) (x : Str) : Bool := C.sc.names.lookup x == some .globalImplicit
/-- a name that is a built-in's -/
def Ct.isB (C : Ct) (x : Str) : Bool := C.isGl x && (C.fns.lookup x).isNone && (C.cs.lookup x).isNone && bnames.contains x
def bopOf : Operator → Option Bin
  | .Add => some .add | .Sub => some .sub | .Mult => some .mul | .FloorDiv => some .fdiv | .Mod => some .mod | .Pow => some .pow | _ => none
def copOf : CmpOp → Option Cm
  | .Lt => some .lt | .LtE => some .le | .Gt => some .gt | .GtE => some .ge | .Eq => some .eq | .NotEq => some .ne | .Is => some .isN | .IsNot => some .notN | .In => some .inn | .NotIn => some .notIn
def tyOf (x : Str) : Option Ty :=
  if x = "int" then some .int else if x = "bool" then some .bool else if x = "str" then some .str else if x = "tuple" then some .tuple else if x = "list" then some .list else none
def bfOf (x : Str) : Option Bf :=
  if x = "len" then some .len else if x = "abs" then some .abs else if x = "tuple" then some .tuple else if x = "list" then some .list else if x = "all" then some .all
  else if x = "any" then some .any else if x = "int" then some .int else if x = "sum" then some .sum else if x = "str" then some .str else if x = "min" then some .min else if x = "max" then some .max else none
def mfOf (m : Str) (n : Nat) : Option Mf :=
  if m = "append" then some .append else if m = "insert" then some .insert else if m = "pop" then (if n = 0 then some .pop else some .popAt) else if m = "extend" then some .extend else if m = "index" then some .index else none
def ownOf (N : List Str) : List (Str × NameKind) → List (Str × Nat)
  | [] => []
  | (x, k) :: r => match k with
    | .local | .cell => match findIx N x with
      | some i => (x, i) :: ownOf N r
      | none => ownOf N r
    | _ => ownOf N r
def Es.len : Es → Nat
  | .nil => 0
  | .cons _ r => r.len + 1
/-- the slice [::-1] -/
def isBack : Option Expr → Option Expr → Option Expr → Bool
  | none, none, some (.UnaryOp .USub (.Constant (.int 1) _ _) _) => true
  | _, _, _ => false
def isStar : Expr → Bool
  | .Starred .. => true
  | _ => false
def isSlice : Expr → Bool
  | .Slice .. => true
  | _ => false
def isSet : Expr → Bool
  | .Set .. => true
  | _ => false
def zipArgs (C : Ct) : Expr → Option (Expr × Expr)
  | .Call (.Name x _) [a, b] [] _ => if x = "zip" ∧ C.isB x = true then some (a, b) else none
  | _ => none
def isTupE : Expr → Bool
  | .Tuple .. => true
  | _ => false
def isCall0 : Expr → Bool
  | .Call (.Name _ _) [] [] _ => true
  | _ => false
mutual
def cE : Nat → Ct → Expr → Option E
  | 0, _, _ => none
  | n + 1, C, .Constant c _ _ => match c with
    | .int i => some (.cst (.int i))
    | .bool b => some (.cst (.bl b))
    | .none => some (.cst .non)
    | .str s => some (.cst (.str s))
    | _ => none
  | n + 1, C, .Name x _ =>
    if x == "__debug__" || x == "__classdict__" then none else
    match C.sc.names.lookup x with
    | some .local => (findIx C.N x).map .var
    | some .cell => (findIx C.N x).map .var
    | some .free => (findIx C.N x).map .var
    | some .globalImplicit => (C.cs.lookup x).map .cst
    | _ => none
  | n + 1, C, .BinOp a op b _ => do
    let a ← cE n C a
    let b ← cE n C b
    let o ← bopOf op
    some (.bin o a b)
  | n + 1, C, .UnaryOp op a _ => match op with
    | .USub => (cE n C a).map .neg
    | .Not => (cE n C a).map .not
    | _ => none
  | n + 1, C, .BoolOp op es _ => cB n C op es
  | n + 1, C, .Compare a ops bs _ => match ops, bs with
    | [op], [b] => if isSet b then none else do
      let a ← cE n C a
      let b ← cE n C b
      let o ← copOf op
      some (.cmp o a b)
    | [op, op2], [b, c] => if isSet c then none else do
      let a ← cE n C a
      let b ← cE n C b
      let c ← cE n C c
      let o ← copOf op
      let o2 ← copOf op2
      some (.chn o o2 a b c)
    | [op, op2, op3], [b, c, d] => if isSet d then none else do
      let a ← cE n C a
      let b ← cE n C b
      let c ← cE n C c
      let d ← cE n C d
      let o ← copOf op
      let o2 ← copOf op2
      let o3 ← copOf op3
      some (.chn3 o o2 o3 a b c d)
    | _, _ => none
  | n + 1, C, .IfExp c a b _ => do
    let c ← cE n C c
    let a ← cE n C a
    let b ← cE n C b
    some (.ite c a b)
  | n + 1, C, .Tuple es _ _ => if es.length ≤ 1000 then (cEs n C es).map .tup else none
  | n + 1, C, .List es _ => if es.length ≤ 1000 then (cEs n C es).map .lst else none
  | n + 1, C, .Subscript a i _ => match i with
    | .Slice lo hi st _ => match st with
      | none => do
        let a ← cE n C a
        let lo ← cO n C lo
        let hi ← cO n C hi
        some (.sl a lo hi)
      | some _ => if isBack lo hi st then do
          let a ← cE n C a
          some (.bfn .rev (.cons a .nil))
        else none
    | i => do
      let a ← cE n C a
      let i ← cE n C i
      some (.ix a i)
  | n + 1, C, .Call f es kws cp => match kws with
    | _ :: _ => none
    | [] => match f with
      | .Name x _ =>
        if x == "__debug__" || x == "__name__" then none else
        if C.isGl x then
          match C.fns.lookup x with
          | some (g, ar) => if es.length == ar then (cEs n C es).map (.call g) else none
          | none => if C.isB x then
              (if x = "isinstance" then
                match es with
                | [a, .Name t _] => if C.isB t then do
                    let a ← cE n C a
                    let t ← tyOf t
                    some (.bfn (.isT t) (.cons a .nil))
                  else none
                | _ => none
              else if x = "sorted" then
                match es with
                | [.Call (.Name y _) es2 [] _] => if C.isB y && y == "set" then
                    match es2 with
                    | [a] => do
                      let a ← cE n C a
                      some (.bfn .sset (.cons a .nil))
                    | _ => none
                  else none
                | [a] => do
                  let a ← cE n C a
                  some (.bfn .srt (.cons a .nil))
                | _ => none
              else match es with
                | [a] => do
                  let a ← cE n C a
                  let b ← bfOf x
                  some (.bfn b (.cons a .nil))
                | [a, b] => if x = "min" then do
                      let a ← cE n C a
                      let b ← cE n C b
                      some (.bfn .min (.cons a (.cons b .nil)))
                    else if x = "max" then do
                      let a ← cE n C a
                      let b ← cE n C b
                      some (.bfn .max (.cons a (.cons b .nil)))
                    else none
                | _ => none)
            else none
        else none
      | .Attribute o m ap => if m == "upper" then some .stuck else if isCall0 o || !(ap.endLine == cp.line) || !decide (es.length < 29) then none else do
        let o ← cE n C o
        let m ← mfOf m es.length
        let es ← cEs n C es
        some (.mth m o es)
      | _ => none
  | n + 1, C, .ListComp elt gs scope _ => match gs with
    | [⟨tg, it, ifs, asy⟩] =>
      let own := ownOf C.N scope.names
      let C' : Ct := { C with sc := relS scope C.sc, fn := fun x => scope.names.lookup x == some .cell }
      if asy = 0 ∧ blkC C.N C.sc scope own = true then do
        let i ← cI n C tg it
        let t ← cT n C' tg
        let c ← cC n C' ifs
        let e ← cE n C' elt
        if t.slots.all (fun i => (own.map (·.2)).contains i) then some (.comp e t i c (own.map (·.2))) else none
      else none
    | [⟨tg, it, ifs, asy⟩, ⟨tg1, it1, ifs1, asy1⟩] =>
      let own := ownOf C.N scope.names
      let C' : Ct := { C with sc := relS scope C.sc, fn := fun x => scope.names.lookup x == some .cell }
      if asy = 0 ∧ asy1 = 0 ∧ isSet it1 = false ∧ blkC C.N C.sc scope own = true then do
        let i ← cI n C tg it
        let t ← cT n C' tg
        let c ← cC n C' ifs
        let i1 ← cI n C' tg1 it1
        let t1 ← cT n C' tg1
        let c1 ← cC n C' ifs1
        let e ← cE n C' elt
        if t.slots.all (fun i => (own.map (·.2)).contains i) && t1.slots.all (fun i => (own.map (·.2)).contains i) then some (.comp2 e t i c t1 i1 c1 (own.map (·.2)) t1.slots) else none
      else none
    | _ => none
  | _, _, _ => none
def cEs : Nat → Ct → List Expr → Option Es
  | 0, _, _ => none
  | n + 1, C, [] => some .nil
  | n + 1, C, e :: es => do
    let e ← cE n C e
    let es ← cEs n C es
    some (.cons e es)
def cB : Nat → Ct → BoolOp → List Expr → Option E
  | 0, _, _, _ => none
  | n + 1, C, op, [] => none
  | n + 1, C, op, [e] => cE n C e
  | n + 1, C, op, e :: es => do
    let e ← cE n C e
    let es ← cB n C op es
    match op with
    | .And => some (.and e es)
    | .Or => some (.or e es)
def cO : Nat → Ct → Option Expr → Option O
  | 0, _, _ => none
  | n + 1, C, none => some .no
  | n + 1, C, some e => (cE n C e).map .yes
def cC : Nat → Ct → List Expr → Option C
  | 0, _, _ => none
  | n + 1, C, [] => some .no
  | n + 1, C, [e] => (cE n C e).map .yes
  | _, _, _ => none
def cT : Nat → Ct → Expr → Option T
  | 0, _, _ => none
  | n + 1, C, .Name x _ => match C.sc.names.lookup x with
    | some .local => (findIx C.N x).map .nm
    | some .cell => if C.fn x then (findIx C.N x).map .nm else none
    | _ => none
  | n + 1, C, .Tuple ts _ _ => (cTs n C ts).map .tp
  | n + 1, C, .Subscript o i _ => if isSlice i then none else do
    let o ← cE n C o
    let i ← cE n C i
    some (.ix o i)
  | _, _, _ => none
def cTs : Nat → Ct → List Expr → Option Ts
  | 0, _, _ => none
  | n + 1, C, [] => some .nil
  | n + 1, C, t :: ts => do
    let t ← cT n C t
    let ts ← cTs n C ts
    some (.cons t ts)
def cI : Nat → Ct → Expr → Expr → Option I
  | 0, _, _, _ => none
  | n + 1, C, tg, it => match it with
    | .Call (.Name x p) es [] q =>
      if C.isB x then
        (if x = "range" then match es with
          | [a] => (cE n C a).map .rng1
          | [a, b] => do
            let a ← cE n C a
            let b ← cE n C b
            some (.rng2 a b)
          | _ => none
        else if x = "enumerate" then (if isTupE tg then match es with
          | [a] => (match zipArgs C a with
            | some uv => do
              let u ← cE n C uv.1
              let v ← cE n C uv.2
              some (.ezip u v)
            | none => (cE n C a).map .enum)
          | _ => none else none)
        else if x = "zip" then (if isTupE tg then match es with
          | [a, b] => do
            let a ← cE n C a
            let b ← cE n C b
            some (.zip a b)
          | _ => none else none)
        else (cE n C (.Call (.Name x p) es [] q)).map .seq)
      else (cE n C (.Call (.Name x p) es [] q)).map .seq
    | it => if isSet it then none else (cE n C it).map .seq
end
/-- the tuple on the right is made, its parts are stored from the left -/
def noSwap (C : Ct) (ts vs : List Expr) : Bool :=
  let line := (ts.head?.map (·.pos.line)).getD 0
  let names := ts.filterMap fun
    | .Name id pos => if C.sc.names.lookup id == some .local && pos.line == line then some id else none
    | _ => none
  !(ts.length == 2 || ts.length == 3) || vs.length != ts.length || names.length != ts.length || vs.all (foldedForSure 8)
def swaps (C : Ct) (x : Str) (l : Nat) : Expr → Bool
  | .ListComp _ _ scope pos => C.sc.names.lookup x == some .local && l == pos.line && !(scope.names.any fun (n, k) => n == x && (k == .local || k == .cell))
  | _ => false
def isComp : Expr → Bool
  | .ListComp .. | .SetComp .. | .DictComp .. => true
  | _ => false
mutual
def cS : Nat → Ct → Stmt → Option S
  | 0, _, _ => none
  | n + 1, C, .Assign ts e pos => match ts with
    | [.Name x px] => if isComp e then
        (match e with
        | .ListComp _ _ _ _ => do
          let t ← cT n C (.Name x px)
          let e ← cE n C e
          some (.asg t e)
        | _ => none)
      else do
        let t ← cT n C (.Name x px)
        let e ← cE n C e
        some (.asg t e)
    | [.Tuple tts k tp] => match tts, e with
      | [.Name x px, .Name y py], .Tuple [a, b] k2 p2 =>
        if noSwap C [.Name x px, .Name y py] [a, b] = true then do
          let t ← cT n C (.Tuple [.Name x px, .Name y py] k tp)
          let e ← cE n C (.Tuple [a, b] k2 p2)
          some (.asg t e)
        else if x ≠ y ∧ px.line = py.line ∧ C.sc.names.lookup x = some .local ∧ C.sc.names.lookup y = some .local ∧ isStar a = false ∧ isStar b = false ∧ ([a, b].all (foldedForSure 8)) = false ∧ ([a, b].all (constantsAlone 8)) = false then do
          let i ← findIx C.N x
          let j ← findIx C.N y
          let a ← cE n C a
          let b ← cE n C b
          some (.par i j a b)
        else none
      | [.Name x px, .Name y py, .Name z pz], .Tuple [a, b, c] k2 p2 =>
        if noSwap C [.Name x px, .Name y py, .Name z pz] [a, b, c] = true then do
          let t ← cT n C (.Tuple [.Name x px, .Name y py, .Name z pz] k tp)
          let e ← cE n C (.Tuple [a, b, c] k2 p2)
          some (.asg t e)
        else if (x ≠ y ∧ x ≠ z ∧ y ≠ z) ∧ (px.line = py.line ∧ px.line = pz.line) ∧ C.sc.names.lookup x = some .local ∧ C.sc.names.lookup y = some .local ∧ C.sc.names.lookup z = some .local ∧ (isStar a = false ∧ isStar b = false ∧ isStar c = false) ∧ ([a, b, c].all (foldedForSure 8)) = false ∧ ([a, b, c].all (constantsAlone 8)) = false then do
          let i ← findIx C.N x
          let j ← findIx C.N y
          let l ← findIx C.N z
          let a ← cE n C a
          let b ← cE n C b
          let c ← cE n C c
          some (.asg (.tp (.cons (.nm i) (.cons (.nm j) (.cons (.nm l) .nil)))) (.tup (.cons a (.cons b (.cons c .nil)))))
        else none
      | tts, .Tuple vs k2 p2 => if noSwap C tts vs = true then do
          let t ← cT n C (.Tuple tts k tp)
          let e ← cE n C (.Tuple vs k2 p2)
          some (.asg t e)
        else none
      | tts, e => if isTupE e then none else do
        let t ← cT n C (.Tuple tts k tp)
        let e ← cE n C e
        some (.asg t e)
    | [.Subscript o i p] => if isComp e then none else do
      let t ← cT n C (.Subscript o i p)
      let e ← cE n C e
      some (.asg t e)
    | _ => none
  | n + 1, C, .AugAssign (.Name x _) op e _ => match C.sc.names.lookup x with
    | some .local => do
      let i ← findIx C.N x
      let o ← bopOf op
      let e ← cE n C e
      some (.aug i o e)
    | _ => none
  | n + 1, C, .Expr e _ => if isComp e then none else (cE n C e).map .expr
  | n + 1, C, .Return e _ => match e with
    | none => some .retN
    | some e => (cE n C e).map .ret
  | n + 1, C, .If c a b _ => do
    let c ← cE n C c
    let a ← cSs n C a
    let b ← cSs n C b
    some (.ite c a b)
  | n + 1, C, .While c b o _ => match o with
    | [] => do
      let c ← cE n C c
      let b ← cSs n C b
      some (.whl c b)
    | _ => none
  | n + 1, C, .For t it b o _ => match o with
    | [] => do
      let i ← cI n C t it
      let t ← cT n C t
      let b ← cSs n C b
      some (.for_ t i b)
    | _ => none
  | n + 1, C, .Break _ => some .brk
  | n + 1, C, .Continue _ => some .cont
  | n + 1, C, .Pass _ => some .pass
  | n + 1, C, .Raise _ _ _ => some .stuck
  | _, _, _ => none
def cSs : Nat → Ct → List Stmt → Option Ss
  | 0, _, _ => none
  | n + 1, C, [] => some .nil
  | n + 1, C, s :: ss => do
    let s ← cS n C s
    let ss ← cSs n C ss
    some (.cons s ss)
end
end TB

/-! EngN: sorted(set(xs)), xs a list of whole numbers -/
namespace TB
open PySem PySem.Spec PyProof.Rows L2
section
variable {P : Program} {w : World} {A : Around} {E : Value → Shared → Prop} {s : Shared}
/-- the set before the list is read -/
def bare (w : World) : Obj := { cls := .type "set", dict := none, data := .set #[] 0 (.fresh 0 0 (!w.params.followText "set-order")) }
theorem set_of_list {l : Addr} {items : Array Value} (ns : List Int) {Q : Value → Shared → Prop} (hh : A.handled = none) (hl : s.heap.IsList l items) (hi : IntsAre items.toList ns) (hb : ns.length + 1 < scanBound)
    (h : ∀ (h' : Heap) (tk c : Nat), SetR w h' s.heap.objs.size (fun j => decide (j ∈ ns)) c → c ≤ ns.length → (∀ b o, s.heap.get? b = some o → h'.get? b = some o) → Q (.ref s.heap.objs.size) { s with heap := h', toks := tk }) :
    wpAny (model P w) A (call (.type "set") [.ref l]) Q E s := by
  have hn : items.size = ns.length := by rw [← Array.length_toList]; exact IntsAre.length hi
  obtain ⟨c, tl, hmro⟩ := F.called_set.mro
  have hmade := F.called_set.made
  have hsub := F.called_set.sub
  refine wpAny_call (codeAny_of_tree ?_)
  show wpAny _ _ (callAny (.type "set") _) _ _ _
  refine wpAny_pure ⟨Code.quiet_builtin _ (by decide +kernel), codeAny_builtin F.entry_type_call ?_⟩
  rw [Around.under_plain (weight_type_call_type "set" [.ref l] []) rfl]
  have h1 := F.called_set.notType
  have h2 := F.called_set.canCreate
  have hct := F.typeCall_set_1 (.ref l)
  repeat (any_goals (first | assumption | wp_step))
  refine codeAny_mono (code_set_led1 (.ref l) (E := E) (Q₁ := fun obj s₁ => obj = .ref s.heap.objs.size ∧ s₁ = { s with heap := s.heap.push (bare w) }) ⟨rfl, rfl⟩) fun r s₁ hr => ?_
  cases r with
  | error e => exact hr
  | ok fl =>
    cases fl with
    | ret obj =>
      obtain ⟨rfl, rfl⟩ := hr
      have hS : (s.heap.push (bare w)).get? s.heap.objs.size = some (bare w) := Heap.get?_push_size _ rfl
      have hT : Shared.TypeIs { s with heap := s.heap.push (bare w) } (.ref s.heap.objs.size) "set" := ⟨_, hS, rfl⟩
      have hli := F.called_set.init.lookup
      have hbi := F.called_set.init.bind (.ref s.heap.objs.size)
      repeat (any_goals (first | assumption | wp_step))
      refine codeAny_mono (codeAny_call_builtin (R := wants (fun r s₂ => r = .none ∧ ∃ h' tk c, s₂ = { s with heap := h', toks := tk } ∧ SetR w h' s.heap.objs.size (fun j => decide (j ∈ ns)) c ∧ c ≤ ns.length ∧
          (∀ b o, s.heap.get? b = some o → h'.get? b = some o)) E) F.called_set.init.plain F.entry_set_init (check_set_init_1 hT ?_)) fun r₂ s₂ hr₂ => ?_
      · have ⟨ol, hol, hcl, nl, hdl⟩ := hl
        obtain ⟨ocls, odict, odata, oslots⟩ := ol
        simp only at hcl hdl
        subst hcl
        subst hdl
        have hol' : (s.heap.push (bare w)).get? l = some { cls := .type "list", dict := odict, data := .seq items nl, slots := oslots } := Heap.get?_push_of_some _ hol
        have hls : l < s.heap.objs.size := Heap.lt_size hol
        have hsls := F.sub_list_set
        have hslf := F.sub_list_frozenset
        have hne : (Value.type "list" == Value.type "dict") = false := by decide
        have hl1 : (s.heap.push (bare w)).IsList l items := ⟨_, hol', rfl, nl, rfl⟩
        have hsz : (s.heap.push (bare w)).objs.size = s.heap.objs.size + 1 := Heap.size_push ..
        unfold Builtin.«set.__init__» noKeywords Builtin.Frozenset.updateFrom
        generalize hPI : pyIter = PI
        wp_walk
        subst hPI
        refine wpAny_pyIter_list hl1 ?_
        refine wpAny_bind (wpAny_runValue ?_)
        have hne2 : l ≠ (s.heap.push (bare w)).objs.size := by rw [hsz]; exact Nat.ne_of_lt (Nat.lt_succ_of_lt hls)
        have hh3 : A.in1.in1.in1.handled = none := by simp [hh]
        refine set_update_ints ((Walks.list hh3 _ l hne2 items).toS) s.heap.objs.size
          (by simp only [List.mem_cons, List.not_mem_nil, or_false, not_or]; exact ⟨by rw [hsz]; exact Nat.ne_of_lt (Nat.lt_succ_self _), Nat.ne_of_gt hls⟩) ns hn hb (fun i v hv => ?_) (items.size - 0) 0 _ (by omega) (Nat.zero_le _)
          ⟨⟨_, Heap.get?_push_size _ rfl, rfl, rfl⟩, hl1.push _⟩ ⟨0, Nat.le_refl 0, setR_new_at (Heap.get?_push_of_some _ hS)⟩ ?_
        · have hk : i < ns.length := by rw [← hn]; exact (Array.getElem?_eq_some_iff.mp hv).1
          obtain ⟨t, e⟩ := PyProof.Rows.IntsAre.int_at hi i v (by rw [Array.getElem?_toList]; exact hv)
          refine ⟨ns[i], t, List.getElem?_eq_getElem hk, ?_⟩
          rw [e, List.getD_eq_getElem?_getD, List.getElem?_eq_getElem hk] <;> rfl
        · intro s' c' hm hc' hS'
          obtain ⟨h', g2, d', tk', os'⟩ := s'
          have eg : g2 = s.gens := hm.gens
          have ed : d' = s.drawn := hm.drawn
          have eo : os' = s.os := hm.os
          subst eg ed eo
          show wpAny _ _ _ _ _ _
          refine wpAny_pure ?_
          show wpAny _ _ (ret Value.none) _ _ _
          refine wpAny_pure ⟨rfl, h', tk', c', rfl, hS', by rw [← hn]; exact hc', fun b o e => ?_⟩
          have hb0 : b < s.heap.objs.size := Heap.lt_size e
          refine hm.heap b o ?_ (Heap.get?_push_of_some _ (Heap.get?_push_of_some _ e))
          simp only [List.mem_cons, List.not_mem_nil, or_false, not_or]
          exact ⟨Nat.ne_of_lt hb0, by rw [hsz]; exact Nat.ne_of_lt (Nat.lt_succ_of_lt hb0)⟩
      · cases r₂ with
        | error e => exact hr₂
        | ok fl₂ =>
          cases fl₂ with
          | ret r =>
            obtain ⟨rfl, h', tk, c', rfl, hS', hc', hk'⟩ := hr₂
            repeat (any_goals (first | assumption | wp_step))
            exact h _ _ _ hS' hc' hk'
          | _ => exact hr₂.elim
    | _ => exact hr.elim
end
/-- set(xs), xs a list of whole numbers -/
def rSetL (K : PySem.W.Frag) (w : World) : List V → Hp → VK → Prop := fun vs H Q => ∃ (l : Addr) (ns : List Int), vs = [.ref l] ∧ SqL K H l (ns.map V.int) ∧ ns.length < 64 ∧
  ∀ (p : Addr) (c : Nat), H p = none → c ≤ ns.length → Q (.ref p) (upd H p (SetO w p (fun j => decide (j ∈ ns)) c))
theorem cr_setL {X : Cx} (hc : X.calm = true) : CallR X (.type "set") (rSetL X.K X.w) := by
  intro pins s σ H vs us Q I r h
  obtain ⟨l, ns, rfl, hq, h64, q⟩ := h
  rw [Vals.ref1 r]
  obtain ⟨its, rv, pl, hz⟩ := I.list hq
  refine set_of_list ns (I.ok.hd hc) pl.isList (by simpa using rv.ints) (by unfold scanBound; omega) fun h' tk c hS hle hk => ?_
  exact ⟨.ref _, upd H s.heap.objs.size (SetO X.w s.heap.objs.size (fun j => decide (j ∈ ns)) c), I.laid (t' := tk) hk (Nat.le_refl _) (setO_new hS), rfl, q _ c (I.hok.fresh (Nat.le_refl _)) hle⟩

/-! ### xs[::-1] -/
section
variable {prog : Program} {w : World} {A : Around} {E : Value → Shared → Prop} {s : Shared}
theorem adjust_back (n : Nat) : Builtin.Slice.sliceAdjust none none (-1) (n : Int) = ((n : Int) - 1, -1) := by
  unfold Builtin.Slice.sliceAdjust
  simp
theorem places_back (n : Nat) : Builtin.Slice.slicePlaces ((n : Int) - 1) (-1) (-1) = n := by
  unfold Builtin.Slice.slicePlaces
  have h1 : ¬ ((-1 : Int) > 0) := by omega
  simp only [h1, if_false]
  split
  · rw [show (- -1 : Int) = 1 by decide]
    simp only [Int.ediv_one]
    omega
  · omega
theorem fm_congr {α β : Type} {f g : α → Option β} : ∀ {l : List α}, (∀ x ∈ l, f x = g x) → l.filterMap f = l.filterMap g
  | [], _ => rfl
  | a :: l, h => by
    rw [List.filterMap_cons, List.filterMap_cons, h a (by simp), fm_congr fun x hx => h x (by simp [hx])]
theorem pick_back (xs : Array Value) : ((List.range xs.size).filterMap fun (m : Nat) => xs[(((xs.size : Int) - 1) + (m : Int) * (-1)).toNat]?).toArray = xs.toList.reverse.toArray := by
  congr 1
  have h2 := PySem.W.krv_all xs
  rw [← h2, ← List.filterMap_reverse, ← PySem.W.krv_range, List.filterMap_map]
  apply fm_congr
  intro m hm
  have := List.mem_range.mp hm
  show xs[(((xs.size : Int) - 1) + (m : Int) * (-1)).toNat]? = xs[xs.size - 1 - m]?
  congr 1
  omega
theorem applied_back {sl : Addr} {vs : Value} {n : Nat} {Q : Int × Int × Nat → Shared → Prop} (hs : s.heap.IsSliceOf sl .none .none vs) (ps : IsPart vs (some (-1)))
    (h : Q ((n : Int) - 1, -1, n) s) : wpAny (model prog w) A (Builtin.Slice.sliceApplied (.ref sl) (pure (n : Int))) Q E s := by
  obtain ⟨os, hos, hcs, hds⟩ := id hs
  unfold Builtin.Slice.sliceApplied Builtin.Slice.sliceFields
  refine wpAny_bind (wpAny_bind (wpAny_field hos hds (x := .none) rfl (wpAny_bind (wpAny_field hos hds (x := .none) rfl (wpAny_bind (wpAny_field hos hds (x := vs) rfl (wpAny_pure ?_)))))))
  refine wpAny_bind (HT.slicePart_ ps ?_)
  show wpAny _ _ (if ((-1 : Int) == 0) = true then _ else _) _ _ s
  rw [if_neg (by decide)]
  refine wpAny_bind (HT.slicePart_ .none (wpAny_bind (HT.slicePart_ .none (wpAny_bind (wpAny_pure ?_)))))
  show wpAny _ _ (match Builtin.Slice.sliceAdjust none none (-1) (n : Int) with | (lo, hi) => pure (lo, (-1 : Int), Builtin.Slice.slicePlaces lo hi (-1))) _ _ s
  rw [adjust_back n]
  show wpAny _ _ (pure ((n : Int) - 1, (-1 : Int), Builtin.Slice.slicePlaces ((n : Int) - 1) (-1) (-1))) _ _ s
  rw [places_back]
  exact wpAny_pure h
theorem item_back {t sl : Addr} {items : Array Value} {vs : Value} {Q : Value → Shared → Prop} (ht : IsTup s.heap t items) (hs : s.heap.IsSliceOf sl .none .none vs) (ps : IsPart vs (some (-1)))
    (h : Q (.ref s.heap.objs.size) { s with heap := s.heap.push { cls := .type "tuple", data := .seq items.toList.reverse.toArray } })
    (hsz : items.size ≤ sizeLine) : wpAny (model prog w) A (getItem (.ref t) (.ref sl)) Q E s := by
  have fits : sizeOk (.seq items.toList.reverse.toArray) := by
    show items.toList.reverse.toArray.size ≤ sizeLine
    rw [List.size_toArray, List.length_reverse, Array.length_toList]
    exact hsz
  obtain ⟨os, hos, hcs, hds⟩ := id hs
  have hTs : s.TypeIs (.ref sl) "slice" := ⟨os, hos, hcs⟩
  unfold getItem
  try with_reducible refine wpAny_holding ?_
  first | refine wpAny_bind (wpAny_pure ?_) | skip
  refine wpAny_bind (wpAny_sequenceKey ht.typeIs (by decide) ?_)
  refine wpAny_bind (wpAny_callSpecial?_slot (name := Str.ofString "__getitem__") ht.typeIs PyProof.Rows.slot_tuple_getitem
    (wpAny_call_entry PyProof.Rows.slot_tuple_getitem ht.typeIs entry_tuple_getitem ?_ (args_tuple_getitem _ _)))
  show wpAny _ _ (Builtin.Tuple.tupleItemsOf (.ref t) >>= _) _ _ s
  refine wpAny_bind (tupleItemsOf_ ht ?_)
  refine wpAny_bind (wpAny_typeOf hTs ?_)
  rw [if_pos (by decide)]
  refine wpAny_bind (applied_back hs ps ?_)
  have hno : ¬ (((((items.size : Nat) : Int) - 1) == 0 && (-1 : Int) == 1 && items.size == items.size) = true) := by
    intro q
    rw [Bool.and_eq_true, Bool.and_eq_true] at q
    exact absurd q.1.2 (by decide)
  show wpAny _ _ (if ((((items.size : Nat) : Int) - 1) == 0 && (-1 : Int) == 1 && items.size == items.size) = true then _ else _) _ _ s
  rw [if_neg hno, pick_back]
  first
    | exact wpAny_bind (m := Builtin.Tuple.tupleExact _) (wpAny_newObj_type (wpAny_pure ⟨_, rfl, wpAny_pure h⟩) fits)
    | exact wpAny_bind (m := Builtin.Tuple.tupleExact _) (wpAny_newObj_type (wpAny_bind (wpAny_pure (wpAny_pure ⟨_, rfl, wpAny_pure h⟩))) fits)
    | exact wpAny_bind (wpAny_bind (m := Builtin.Tuple.tupleExact _) (wpAny_newObj_type (wpAny_pure (wpAny_pure ⟨_, rfl, wpAny_pure h⟩)) fits))
    | exact wpAny_bind (wpAny_bind (m := Builtin.Tuple.tupleExact _) (wpAny_newObj_type (wpAny_pure ⟨_, rfl, wpAny_pure h⟩) fits))
end
section
variable {X : Cx}
/-- x[::-1] of a tuple or a list -/
def tRev (K : PySem.W.Frag) (te : TE) : TE := fun σ H Q => te σ H fun x H1 => (∃ a xs, x = .ref a ∧ SqT K H1 a xs ∧ ∀ p, H1 p = none → Q (.ref p) (upd H1 p (.tup xs.reverse))) ∨
  (∃ a xs, x = .ref a ∧ SqL K H1 a xs ∧ ∀ p, H1 p = none → Q (.ref p) (upd H1 p (.lst xs.reverse)))
theorem pe_back {e : Expr} {te : TE} {k : Nat} {p1 p2 p3 pos : Pos} (he : PE X e te) : PE X (.Subscript e (.Slice none none (some (.UnaryOp .USub (.Constant (.int 1) k p1) p2)) p3) pos) (tRev X.K te) := by
  refine ⟨fun pins s σ H Q I h => ?_⟩
  refine Subscript_ (thn (he.run pins s σ H _ I h) fun v s1 ⟨x, H1, I1, r1, q1⟩ => ?_)
  have hst : PO X (some (.UnaryOp .USub (.Constant (.int 1) k p1) p2)) (tPart (tUn (rU fun i => .int (-i)) (tC (.int 1)))) := po_some (pe_un un_neg pe_int)
  refine wpAny_Slice (thn (po_none.run pins s1 σ H1 (fun o H2 => o = none ∧ H2 = H1) I1 ⟨rfl, rfl⟩) fun vl s2 ⟨l, H2, I2, pl, el, e2⟩ => ?_)
  subst el e2
  refine thn (po_none.run pins s2 σ H2 (fun o H3 => o = none ∧ H3 = H2) I2 ⟨rfl, rfl⟩) fun vu s3 ⟨u, H3, I3, pu, eu, e3⟩ => ?_
  subst eu e3
  refine thn (hst.run pins s3 σ H3 (fun o H4 => o = some (-1) ∧ H4 = H3) I3 ⟨1, rfl, -1, rfl, rfl, rfl⟩) fun vs s4 ⟨o, H4, I4, ps, eo, e4⟩ => ?_
  subst eo e4
  cases pl
  cases pu
  have I5 : Inv X pins σ H4 { s4 with heap := s4.heap.push { cls := .type "slice", data := .fields #[.none, .none, vs] } } := I4.kept (t' := s4.toks) fun b ob q => Heap.get?_push_of_some _ q
  rcases q1 with ⟨a, xs, rfl, hx, q⟩ | ⟨a, xs, rfl, hx, q⟩
  · cases r1
    obtain ⟨its, r, ht, hz⟩ := I5.tuple hx
    have hlen := r.length
    show wpAny (model X.prog X.w) X.A (subscriptTail e (.Slice none none (some (.UnaryOp .USub (.Constant (.int 1) k p1) p2)) p3) (.ref a) (.ref s4.heap.objs.size)) (EP X pins σ Q) X.xe { s4 with heap := s4.heap.push { cls := .type "slice", data := .fields #[.none, .none, vs] } }
    refine tail_any (ops := [.ref a, .ref s4.heap.objs.size]) ht.typeIs (PyProof.Rows.slot_tuple_getitem.lookup) ?_ (by with_unfolding_all rfl)
    refine item_back ht (Heap.IsSliceOf.new _ _ _ vs) ps ?_ (by rw [List.size_toArray]; omega)
    refine ⟨.ref _, _, I5.laid (t' := s4.toks) (o := .tup xs.reverse) (fun b ob q => Heap.get?_push_of_some _ q) (Nat.le_refl _) ?_, rfl, q _ (I5.hok.fresh (Nat.le_refl _))⟩
    exact ⟨by rw [List.length_reverse]; exact hz, _, r.reverse, IsTup.new _ _⟩
  · cases r1
    obtain ⟨its, r, ht, hz⟩ := I5.list hx
    have hlen := r.length
    show wpAny (model X.prog X.w) X.A (subscriptTail e (.Slice none none (some (.UnaryOp .USub (.Constant (.int 1) k p1) p2)) p3) (.ref a) (.ref s4.heap.objs.size)) (EP X pins σ Q) X.xe { s4 with heap := s4.heap.push { cls := .type "slice", data := .fields #[.none, .none, vs] } }
    refine tail_any (ops := [.ref a, .ref s4.heap.objs.size]) ht.isList.typeIs (PySem.slot_list_getitem.lookup) ?_ (by with_unfolding_all rfl)
    refine wpAny_getItem_list_slice ht.isList (Heap.IsSliceOf.new _ _ _ vs) .none .none ps (by decide) ?_ (by rw [List.size_toArray]; omega)
    rw [PySem.W.krv_pick]
    refine ⟨.ref _, _, I5.laid (t' := s4.toks) (o := .lst xs.reverse) (fun b ob q => Heap.get?_push_of_some _ q) (Nat.le_refl _) ?_, rfl, q _ (I5.hok.fresh (Nat.le_refl _))⟩
    exact ⟨by rw [List.length_reverse]; exact hz, _, 0, r.reverse, Heap.get?_push_size _ rfl⟩
end
end TB

namespace TB
open PySem PySem.Spec PyProof.Rows L2

def LSp (K : PySem.W.Frag) (n : Nat) (p : List D → Mem → K1 → Prop) : Sp := fun vs H Q _ => vs.length = n ∧ ∃ ds M q, RepL K H ds vs ∧ RepM K H M ∧ p ds M q ∧
  ∀ d M' v H', Step M H M' H' → Rep K H' d v → RepM K H' M' → q d M' → Q v H'

structure Ok (Γ : Gam) (C : Ct) (X : Cx) : Prop where
  hN : X.N = C.N
  nd : C.N.Nodup
  sc : X.env.scope = C.sc
  calm : X.calm = true
  fn : ∀ x, C.fn x = true → X.fn x = true
  un : X.A.units + 66 < cLine
  xe : X.xe = fun _ _ => False
  fns : ∀ x g n, C.fns.lookup x = some (g, n) → ∃ f fd ps k, X.mg x = some (.ref f) ∧ PySem.W.keepIn X.K (.ref f) = true ∧ FnOk X.prog X.w X.K X.mg X.base CX0 k f fd ps (LSp X.K n (Γ g)) ∧ Binds X.K fd ps [] ∧ Room k X.A ∧ ps.length = n
  cs : ∀ x d, C.cs.lookup x = some d → ∃ u v, X.mg x = some u ∧ RelV v u ∧ ∀ H, Rep X.K H d v
  bl : ∀ x, x ∈ bnames → C.fns.lookup x = none → C.cs.lookup x = none → X.mg x = none
theorem Ok.blk {Γ : Gam} {C : Ct} {X : Cx} (o : Ok Γ C X) (scope : Scope) (s : Shared) (H : Hp) (cl : List (Str × Addr)) (A : Addr) (fp : List Addr) :
    Ok Γ { C with sc := relS scope C.sc, fn := fun x => scope.names.lookup x == some .cell } (X.blk s H scope (compEnvC scope cl A X.env) fp) :=
  ⟨o.hN, o.nd, by show relS scope X.env.scope = _; rw [o.sc], o.calm, fun x h => h, o.un, rfl, o.fns, o.cs, o.bl⟩
theorem Ok.pas {Γ : Gam} {C : Ct} {X : Cx} (o : Ok Γ C X) : PassesOwn (model X.prog X.w) X.A X.env X.xe := by rw [o.xe]; exact PassesOwn.never

section
variable {Γ : Gam} {X : Cx} {a b c e : Expr} {pos : Pos} {w wa wb wc : En → Mem → K1 → Prop}
/-! ### the constructs, one by one -/
theorem s_bin (op : Bin) (ha : PE X a (LE X.K wa)) (hb : PE X b (LE X.K wb)) : PE X (.BinOp a op.op b pos) (LE X.K fun ρ M q => wa ρ M fun x M1 => wb ρ M1 fun y M2 => binW op x y M2 q) := by
  refine pe_imp (pe_op (op_bin op) ha hb) ?_
  rintro σ H Q ⟨ρ, M, q, hE, hM, h, k⟩
  refine ⟨ρ, M, _, hE, hM, h, fun d1 M1 v1 H1 s1 r1 m1 q1 => ⟨ρ, M1, _, hE.keep s1.keep, m1, q1, fun d2 M2 v2 H2 s2 r2 m2 q2 => ?_⟩⟩
  exact ⟨d1, d2, M2, q, r1.keep s2.keep, r2, m2, q2, fun d M' v H' s => k d M' v H' ((s1.trans s2).trans s)⟩
theorem s_cmp (hu : X.A.units + 66 < cLine) (op : Cm) (hm : behindInMarks op.op b = false) (ha : PE X a (LE X.K wa)) (hb : PE X b (LE X.K wb)) :
    PE X (.Compare a [op.op] [b] pos) (LE X.K fun ρ M q => wa ρ M fun x M1 => wb ρ M1 fun y M2 => cmpW op x y M2 fun k => q (.bl k) M2) := by
  refine pe_imp (pe_cmpR (op_cmp hu op) ha hb hm) ?_
  rintro σ H Q ⟨ρ, M, q, hE, hM, h, k⟩
  refine ⟨ρ, M, _, hE, hM, h, fun d1 M1 v1 H1 s1 r1 m1 q1 => ⟨ρ, M1, _, hE.keep s1.keep, m1, q1, fun d2 M2 v2 H2 s2 r2 m2 q2 => ?_⟩⟩
  exact ⟨d1, d2, M2, q, r1.keep s2.keep, r2, m2, q2, fun d M' v H' s => k d M' v H' ((s1.trans s2).trans s)⟩
theorem cmpW_bl {op : Cm} {x y : D} {M : Mem} {q q' : Bool → Prop} (h : cmpW op x y M q) (f : ∀ b, q b → q' b) : cmpW op x y M q' := by
  have g : ∀ {x y : D} {q q' : Bool → Prop}, eqW x y M q → (∀ b, q b → q' b) → eqW x y M q' := fun {x y q q'} h f => by
    unfold eqW at h ⊢
    split at h
    · obtain ⟨a, b, c, d, e, h⟩ := h; exact ⟨a, b, c, d, e, f _ h⟩
    · exact ⟨h.1, f _ h.2⟩
  have g2 : ∀ {x y : D} {q q' : Bool → Prop}, inW x y M q → (∀ b, q b → q' b) → inW x y M q' := fun {x y q q'} h f => by
    unfold inW at h ⊢
    split at h
    · exact ⟨h.1, f _ h.2⟩
    · obtain ⟨a, b, c, h⟩ := h; exact ⟨a, b, c, f _ h⟩
    · exact h.elim
  cases op with
  | lt => cases x <;> cases y <;> first | exact h.elim | exact f _ h
  | le => cases x <;> cases y <;> first | exact h.elim | exact f _ h
  | gt => cases x <;> cases y <;> first | exact h.elim | exact f _ h
  | ge => cases x <;> cases y <;> first | exact h.elim | exact f _ h
  | eq => exact g h f
  | ne => exact g (q := fun b => q (!b)) (q' := fun b => q' (!b)) h fun b => f _
  | isN => cases y <;> first | exact h.elim | exact f _ h | (cases x <;> first | exact h.elim | exact f _ h)
  | notN => cases y <;> first | exact h.elim | exact f _ h | (cases x <;> first | exact h.elim | exact f _ h)
  | inn => exact g2 h f
  | notIn => exact g2 (q := fun b => q (!b)) (q' := fun b => q' (!b)) h fun b => f _
theorem t_cmp (hu : X.A.units + 66 < cLine) (op : Cm) (hm : behindInMarks op.op b = false) (ha : PE X a (LE X.K wa)) (hb : PE X b (LE X.K wb)) :
    PT X (.Compare a [op.op] [b] pos) (LT X.K fun ρ M q => wa ρ M fun x M1 => wb ρ M1 fun y M2 => cmpW op x y M2 fun k => q (.bl k) M2) := by
  refine pt_imp (pt_cmpR (op_cmp hu op) ha hb hm) ?_
  rintro σ H Q ⟨ρ, M, q, hE, hM, h, k⟩
  refine ⟨ρ, M, _, hE, hM, h, fun d1 M1 v1 H1 s1 r1 m1 q1 => ⟨ρ, M1, _, hE.keep s1.keep, m1, q1, fun d2 M2 v2 H2 s2 r2 m2 q2 => ?_⟩⟩
  refine ⟨d1, d2, M2, fun d M' => ∃ b, d = .bl b ∧ q d M', r1.keep s2.keep, r2, m2, cmpW_bl q2 fun b z => ⟨b, rfl, z⟩, ?_⟩
  rintro d M' v H' s r m ⟨b, rfl, z⟩
  cases r
  obtain ⟨b', e, z⟩ := k (.bl b) M' (.bl b) H' ((s1.trans s2).trans s) rfl m z
  have e : some b = some b' := e
  cases e
  exact ⟨b, rfl, z⟩
theorem LR2.bl {K : PySem.W.Frag} {op : Cm} {x y : V} {H : Hp} {M : Mem} {dx dy : D} {f : Bool → Prop} {Q : VK} (r1 : Rep K H dx x) (r2 : Rep K H dy y) (m : RepM K H M) (h : cmpW op dx dy M f)
    (k : ∀ b H', f b → Step M H M H' → RepM K H' M → Q (.bl b) H') : LR2 K (cmpF op) x y H Q := by
  refine ⟨dx, dy, M, fun d M' => M' = M ∧ ∃ b, d = .bl b ∧ f b, r1, r2, m, cmpW_bl h fun b z => ⟨rfl, b, rfl, z⟩, ?_⟩
  rintro d M' v H' s r m' ⟨rfl, b, rfl, z⟩
  cases r
  exact k b H' z s m'
theorem s_chn (hu : X.A.units + 66 < cLine) (o1 o2 : Cm) (hm : lastMarks [o1.op, o2.op] [b, c] = false) (ha : PE X a (LE X.K wa)) (hb : PE X b (LE X.K wb)) (hc : PE X c (LE X.K wc)) :
    PE X (.Compare a [o1.op, o2.op] [b, c] pos) (LE X.K fun ρ M q => wa ρ M fun x M1 => wb ρ M1 fun y M2 => cmpW o1 x y M2 fun k =>
      if k = true then wc ρ M2 fun z M3 => cmpW o2 y z M3 fun k => q (.bl k) M3 else q (.bl false) M2) := by
  refine pe_imp (pe_chain (op_cmp hu o1) (op_cmp hu o2) ha hb hc hm) ?_
  rintro σ H Q ⟨ρ, M, q, hE, hM, h, k⟩
  refine ⟨ρ, M, _, hE, hM, h, fun d1 M1 v1 H1 s1 r1 m1 q1 => ⟨ρ, M1, _, hE.keep s1.keep, m1, q1, fun d2 M2 v2 H2 s2 r2 m2 q2 => ?_⟩⟩
  refine LR2.bl (r1.keep s2.keep) r2 m2 q2 fun kb H3 z s3 m3 => ⟨kb, rfl, ?_⟩
  cases kb with
  | false => simp only [Bool.false_eq_true, if_false] at z ⊢; exact k (.bl false) M2 _ H3 ((s1.trans s2).trans s3) rfl m3 z
  | true =>
    simp only [if_true] at z ⊢
    refine ⟨ρ, M2, _, ((hE.keep s1.keep).keep s2.keep).keep s3.keep, m3, z, fun d4 M4 v4 H4 s4 r4 m4 q4 => ?_⟩
    exact LR2.bl ((r2.keep s3.keep).keep s4.keep) r4 m4 q4 fun kb H5 z s5 m5 => k (.bl kb) M4 _ H5 ((((s1.trans s2).trans s3).trans s4).trans s5) rfl m5 z
theorem pe_chain3 {X : Cx} {op op' op3 : CmpOp} {r r' r3 : R2} {a b c d : Expr} {ta tb tc td : TE} {pos : Pos} (ho : OpR X (compareOp op) r) (ho' : OpR X (compareOp op') r') (ho3 : OpR X (compareOp op3) r3) (ha : PE X a ta) (hb : PE X b tb) (hc : PE X c tc) (hd : PE X d td)
    (hm : lastMarks [op, op', op3] [b, c, d] = false) : PE X (.Compare a [op, op', op3] [b, c, d] pos) (fun σ H Q => ta σ H fun x H1 => tb σ H1 fun y H2 => r x y H2 fun z H3 => ∃ k, z = .bl k ∧
      (if k = true then tc σ H3 fun w H4 => r' y w H4 fun z H5 => ∃ k, z = .bl k ∧ (if k = true then td σ H5 fun u H6 => r3 w u H6 Q else Q (.bl false) H5) else Q (.bl false) H3)) := by
  refine ⟨fun pins s σ H Q I h => ?_⟩
  refine Compare_chain (thn (ha.run pins s σ H _ I h) fun v s1 ⟨x, H1, I1, r1, q1⟩ => chain_link (thn (hb.run pins s1 σ H1 _ I1 q1) fun u s2 ⟨y, H2, I2, r2, q2⟩ =>
    thn (ho pins s2 σ H2 x y v u _ I2 r1 r2 q2) fun d s3 ⟨z, H3, I3, r3, k, e, q3⟩ => ?_)) hm
  subst e
  cases r3
  refine wpAny_truthy_bool ?_
  cases k with
  | false => exact ite_ff ⟨.bl false, H3, I3, rfl, q3⟩
  | true =>
    refine ite_tt (chain_link (thn (hc.run pins s3 σ H3 _ I3 q3) fun w' s4 ⟨z', H4, I4, r4, q4⟩ => thn (ho' pins s4 σ H4 y z' u w' _ I4 r2 r4 q4) fun d s5 ⟨z5, H5, I5, r5, k5, e5, q5⟩ => ?_))
    subst e5
    cases r5
    refine wpAny_truthy_bool ?_
    cases k5 with
    | false => exact ite_ff ⟨.bl false, H5, I5, rfl, q5⟩
    | true => exact ite_tt (chain_last (thn (hd.run pins s5 σ H5 _ I5 q5) fun w6 s6 ⟨z6, H6, I6, r6, q6⟩ => ho3 pins s6 σ H6 z' z6 w' w6 Q I6 r4 r6 q6))
theorem pt_chain3 {X : Cx} {op op' op3 : CmpOp} {r r' r3 : R2} {a b c d : Expr} {ta tb tc td : TE} {pos : Pos} (ho : OpR X (compareOp op) r) (ho' : OpR X (compareOp op') r') (ho3 : OpR X (compareOp op3) r3) (ha : PE X a ta) (hb : PE X b tb) (hc : PE X c tc) (hd : PE X d td)
    (hm : lastMarks [op, op', op3] [b, c, d] = false) : PT X (.Compare a [op, op', op3] [b, c, d] pos) (tTest fun σ H Q => ta σ H fun x H1 => tb σ H1 fun y H2 => r x y H2 fun z H3 => ∃ k, z = .bl k ∧
      (if k = true then tc σ H3 fun w H4 => r' y w H4 fun z H5 => ∃ k, z = .bl k ∧ (if k = true then td σ H5 fun u H6 => r3 w u H6 Q else Q (.bl false) H5) else Q (.bl false) H3)) := by
  refine ⟨fun pins s σ H Q I h => ?_⟩
  refine isTrue_chain (thn (ha.run pins s σ H _ I h) fun v s1 ⟨x, H1, I1, r1, q1⟩ => test_link (thn (hb.run pins s1 σ H1 _ I1 q1) fun u s2 ⟨y, H2, I2, r2, q2⟩ =>
    thn (ho pins s2 σ H2 x y v u _ I2 r1 r2 q2) fun d s3 ⟨z, H3, I3, r3, k, e, q3⟩ => ?_)) hm
  subst e
  cases r3
  refine wpAny_truthy_bool ?_
  cases k with
  | false =>
    obtain ⟨k', e', q'⟩ := q3
    cases e'
    exact ite_ff ⟨H3, I3, q'⟩
  | true =>
    refine ite_tt (test_link (thn (hc.run pins s3 σ H3 _ I3 q3) fun w' s4 ⟨z', H4, I4, r4, q4⟩ => thn (ho' pins s4 σ H4 y z' u w' _ I4 r2 r4 q4) fun d s5 ⟨z5, H5, I5, r5, k5, e5, q5⟩ => ?_))
    subst e5
    cases r5
    refine wpAny_truthy_bool ?_
    cases k5 with
    | false =>
      obtain ⟨k', e', q'⟩ := q5
      cases e'
      exact ite_ff ⟨H5, I5, q'⟩
    | true =>
      refine ite_tt (test_last (thn (hd.run pins s5 σ H5 _ I5 q5) fun w6 s6 ⟨z6, H6, I6, r6, q6⟩ => thn (ho3 pins s6 σ H6 z' z6 w' w6 _ I6 r4 r6 q6) fun d' s7 ⟨z2, H7, I7, r7, k2, e2, q7⟩ => ?_))
      subst e2
      cases r7
      exact wpAny_truthy_bool ⟨H7, I7, q7⟩
theorem s_chn3 {X : Cx} {a b c d : Expr} {wa wb wc wd : En → Mem → K1 → Prop} {pos : Pos} (hu : X.A.units + 66 < cLine) (o1 o2 o3 : Cm) (hm : lastMarks [o1.op, o2.op, o3.op] [b, c, d] = false) (ha : PE X a (LE X.K wa)) (hb : PE X b (LE X.K wb)) (hc : PE X c (LE X.K wc)) (hd : PE X d (LE X.K wd)) :
    PE X (.Compare a [o1.op, o2.op, o3.op] [b, c, d] pos) (LE X.K fun ρ M q => wa ρ M fun x M1 => wb ρ M1 fun y M2 => cmpW o1 x y M2 fun k =>
      if k = true then wc ρ M2 fun z M3 => cmpW o2 y z M3 fun k =>
        if k = true then wd ρ M3 fun w M4 => cmpW o3 z w M4 fun k => q (.bl k) M4 else q (.bl false) M3
      else q (.bl false) M2) := by
  refine pe_imp (pe_chain3 (op_cmp hu o1) (op_cmp hu o2) (op_cmp hu o3) ha hb hc hd hm) ?_
  rintro σ H Q ⟨ρ, M, q, hE, hM, h, k⟩
  refine ⟨ρ, M, _, hE, hM, h, fun d1 M1 v1 H1 s1 r1 m1 q1 => ⟨ρ, M1, _, hE.keep s1.keep, m1, q1, fun d2 M2 v2 H2 s2 r2 m2 q2 => ?_⟩⟩
  refine LR2.bl (r1.keep s2.keep) r2 m2 q2 fun kb H3 z s3 m3 => ⟨kb, rfl, ?_⟩
  cases kb with
  | false => simp only [Bool.false_eq_true, if_false] at z ⊢; exact k (.bl false) M2 _ H3 ((s1.trans s2).trans s3) rfl m3 z
  | true =>
    simp only [if_true] at z ⊢
    have hE3 := ((hE.keep s1.keep).keep s2.keep).keep s3.keep
    refine ⟨ρ, M2, _, hE3, m3, z, fun d4 M4 v4 H4 s4 r4 m4 q4 => ?_⟩
    refine LR2.bl ((r2.keep s3.keep).keep s4.keep) r4 m4 q4 fun kb H5 z s5 m5 => ⟨kb, rfl, ?_⟩
    have s15 := (((s1.trans s2).trans s3).trans s4).trans s5
    cases kb with
    | false => simp only [Bool.false_eq_true, if_false] at z ⊢; exact k (.bl false) M4 _ H5 s15 rfl m5 z
    | true =>
      simp only [if_true] at z ⊢
      refine ⟨ρ, M4, _, (hE3.keep s4.keep).keep s5.keep, m5, z, fun d6 M6 v6 H6 s6 r6 m6 q6 => ?_⟩
      exact LR2.bl ((r4.keep s5.keep).keep s6.keep) r6 m6 q6 fun kb H7 z s7 m7 => k (.bl kb) M6 _ H7 ((s15.trans s6).trans s7) rfl m7 z
theorem t_chn3 {X : Cx} {a b c d : Expr} {wa wb wc wd : En → Mem → K1 → Prop} {pos : Pos} (hu : X.A.units + 66 < cLine) (o1 o2 o3 : Cm) (hm : lastMarks [o1.op, o2.op, o3.op] [b, c, d] = false) (ha : PE X a (LE X.K wa)) (hb : PE X b (LE X.K wb)) (hc : PE X c (LE X.K wc)) (hd : PE X d (LE X.K wd)) :
    PT X (.Compare a [o1.op, o2.op, o3.op] [b, c, d] pos) (LT X.K fun ρ M q => wa ρ M fun x M1 => wb ρ M1 fun y M2 => cmpW o1 x y M2 fun k =>
      if k = true then wc ρ M2 fun z M3 => cmpW o2 y z M3 fun k =>
        if k = true then wd ρ M3 fun w M4 => cmpW o3 z w M4 fun k => q (.bl k) M4 else q (.bl false) M3
      else q (.bl false) M2) := by
  refine pt_imp (pt_chain3 (op_cmp hu o1) (op_cmp hu o2) (op_cmp hu o3) ha hb hc hd hm) ?_
  rintro σ H Q ⟨ρ, M, q, hE, hM, h, k⟩
  have fin : ∀ (b : Bool) (M' : Mem) (H' : Hp), Step M H M' H' → RepM X.K H' M' → q (.bl b) M' → ∃ k, V.bl b = .bl k ∧ Q k H' := fun b M' H' s m z => by
    obtain ⟨b', e, z⟩ := k (.bl b) M' (.bl b) H' s rfl m z
    have e : some b = some b' := e
    cases e
    exact ⟨b, rfl, z⟩
  refine ⟨ρ, M, _, hE, hM, h, fun d1 M1 v1 H1 s1 r1 m1 q1 => ⟨ρ, M1, _, hE.keep s1.keep, m1, q1, fun d2 M2 v2 H2 s2 r2 m2 q2 => ?_⟩⟩
  refine LR2.bl (r1.keep s2.keep) r2 m2 q2 fun kb H3 z s3 m3 => ⟨kb, rfl, ?_⟩
  cases kb with
  | false => simp only [Bool.false_eq_true, if_false] at z ⊢; exact fin false M2 H3 ((s1.trans s2).trans s3) m3 z
  | true =>
    simp only [if_true] at z ⊢
    have hE3 := ((hE.keep s1.keep).keep s2.keep).keep s3.keep
    refine ⟨ρ, M2, _, hE3, m3, z, fun d4 M4 v4 H4 s4 r4 m4 q4 => ?_⟩
    refine LR2.bl ((r2.keep s3.keep).keep s4.keep) r4 m4 q4 fun kb H5 z s5 m5 => ⟨kb, rfl, ?_⟩
    have s15 := (((s1.trans s2).trans s3).trans s4).trans s5
    cases kb with
    | false => simp only [Bool.false_eq_true, if_false] at z ⊢; exact fin false M4 H5 s15 m5 z
    | true =>
      simp only [if_true] at z ⊢
      refine ⟨ρ, M4, _, (hE3.keep s4.keep).keep s5.keep, m5, z, fun d6 M6 v6 H6 s6 r6 m6 q6 => ?_⟩
      exact LR2.bl ((r4.keep s5.keep).keep s6.keep) r6 m6 q6 fun kb H7 z s7 m7 => fin kb M6 H7 ((s15.trans s6).trans s7) m7 z
theorem t_chn (hu : X.A.units + 66 < cLine) (o1 o2 : Cm) (hm : lastMarks [o1.op, o2.op] [b, c] = false) (ha : PE X a (LE X.K wa)) (hb : PE X b (LE X.K wb)) (hc : PE X c (LE X.K wc)) :
    PT X (.Compare a [o1.op, o2.op] [b, c] pos) (LT X.K fun ρ M q => wa ρ M fun x M1 => wb ρ M1 fun y M2 => cmpW o1 x y M2 fun k =>
      if k = true then wc ρ M2 fun z M3 => cmpW o2 y z M3 fun k => q (.bl k) M3 else q (.bl false) M2) := by
  refine pt_imp (pt_chain (op_cmp hu o1) (op_cmp hu o2) ha hb hc hm) ?_
  rintro σ H Q ⟨ρ, M, q, hE, hM, h, k⟩
  have fin : ∀ (b : Bool) (M' : Mem) (H' : Hp), Step M H M' H' → RepM X.K H' M' → q (.bl b) M' → ∃ k, V.bl b = .bl k ∧ Q k H' := fun b M' H' s m z => by
    obtain ⟨b', e, z⟩ := k (.bl b) M' (.bl b) H' s rfl m z
    have e : some b = some b' := e
    cases e
    exact ⟨b, rfl, z⟩
  refine ⟨ρ, M, _, hE, hM, h, fun d1 M1 v1 H1 s1 r1 m1 q1 => ⟨ρ, M1, _, hE.keep s1.keep, m1, q1, fun d2 M2 v2 H2 s2 r2 m2 q2 => ?_⟩⟩
  refine LR2.bl (r1.keep s2.keep) r2 m2 q2 fun kb H3 z s3 m3 => ⟨kb, rfl, ?_⟩
  cases kb with
  | false => simp only [Bool.false_eq_true, if_false] at z ⊢; exact fin false M2 H3 ((s1.trans s2).trans s3) m3 z
  | true =>
    simp only [if_true] at z ⊢
    refine ⟨ρ, M2, _, ((hE.keep s1.keep).keep s2.keep).keep s3.keep, m3, z, fun d4 M4 v4 H4 s4 r4 m4 q4 => ?_⟩
    exact LR2.bl ((r2.keep s3.keep).keep s4.keep) r4 m4 q4 fun kb H5 z s5 m5 => fin kb M4 H5 ((((s1.trans s2).trans s3).trans s4).trans s5) m5 z
theorem t_any (h : PE X e (LE X.K w)) (he : ∀ whole, isTrue e X.env whole = (do let v ← whole; standAt e.pos; holding [v] (truthy v))) : PT X e (LT X.K w) := by
  refine pt_imp (pt_truth h he) ?_
  rintro σ H Q ⟨ρ, M, q, hE, hM, h, k⟩
  refine ⟨ρ, M, q, hE, hM, h, fun d M' v H' s r m z => ?_⟩
  obtain ⟨b, e, z⟩ := k d M' v H' s r m z
  exact ⟨b, tru_ok' r m e, z⟩
theorem s_not (ha : PE X a (LE X.K wa)) : PE X (.UnaryOp .Not a pos) (LE X.K fun ρ M q => wa ρ M fun x M1 => ∃ k, tru M1 x = some k ∧ q (.bl (!k)) M1) := by
  refine pe_imp (pe_notT ha) ?_
  rintro σ H Q ⟨ρ, M, q, hE, hM, h, k⟩
  refine ⟨ρ, M, _, hE, hM, h, fun d1 M1 v1 H1 s1 r1 m1 ⟨b, e, z⟩ => ⟨b, tru_ok' r1 m1 e, k (.bl _) M1 _ H1 s1 rfl m1 z⟩⟩
theorem t_not (ha : PT X a (LT X.K wa)) : PT X (.UnaryOp .Not a pos) (LT X.K fun ρ M q => wa ρ M fun x M1 => ∃ k, tru M1 x = some k ∧ q (.bl (!k)) M1) := by
  refine pt_imp (pt_not ha) ?_
  rintro σ H Q ⟨ρ, M, q, hE, hM, h, k⟩
  refine ⟨ρ, M, _, hE, hM, h, fun d1 M1 v1 H1 s1 r1 m1 ⟨b, e, z⟩ => ⟨b, e, ?_⟩⟩
  obtain ⟨b', e', z⟩ := k (.bl (!b)) M1 (.bl (!b)) H1 s1 rfl m1 z
  have e' : some (!b) = some b' := e'
  cases e'
  exact z
theorem s_neg (ha : PE X a (LE X.K wa)) : PE X (.UnaryOp .USub a pos) (LE X.K fun ρ M q => wa ρ M fun x M1 => ∃ i, x = .int i ∧ q (.int (-i)) M1) := by
  refine pe_imp (pe_un un_neg ha) ?_
  rintro σ H Q ⟨ρ, M, q, hE, hM, h, k⟩
  refine ⟨ρ, M, _, hE, hM, h, fun d1 M1 v1 H1 s1 r1 m1 ⟨i, e, z⟩ => ?_⟩
  subst e
  cases r1
  exact ⟨i, rfl, k (.int _) M1 _ H1 s1 rfl m1 z⟩
theorem s_ite (hc : PT X c (LT X.K wc)) (ha : PE X a (LE X.K wa)) (hb : PE X b (LE X.K wb)) :
    PE X (.IfExp c a b pos) (LE X.K fun ρ M q => wc ρ M fun x M1 => ∃ k, tru M1 x = some k ∧ if k = true then wa ρ M1 q else wb ρ M1 q) := by
  refine pe_imp (pe_ifExp hc ha hb) ?_
  rintro σ H Q ⟨ρ, M, q, hE, hM, h, k⟩
  refine ⟨ρ, M, _, hE, hM, h, fun d1 M1 v1 H1 s1 r1 m1 ⟨b, e, z⟩ => ⟨b, e, ?_⟩⟩
  cases b with
  | true =>
    simp only [if_true] at z ⊢
    exact ⟨ρ, M1, q, hE.keep s1.keep, m1, z, fun d M' v H' s => k d M' v H' (s1.trans s)⟩
  | false =>
    simp only [Bool.false_eq_true, if_false] at z ⊢
    exact ⟨ρ, M1, q, hE.keep s1.keep, m1, z, fun d M' v H' s => k d M' v H' (s1.trans s)⟩
theorem pt_ifExp {tC tA tB : TT} (hc : PT X c tC) (ha : PT X a tA) (hb : PT X b tB) : PT X (.IfExp c a b pos) (fun σ H Q => tC σ H fun k H1 => if k = true then tA σ H1 Q else tB σ H1 Q) := by
  refine ⟨fun pins s σ H Q I h => ?_⟩
  show wpAny _ _ (isTrue c X.env (eval c X.env) >>= fun k => if k = true then isTrue a X.env (eval a X.env) else isTrue b X.env (eval b X.env)) _ _ s
  refine wpAny_bind (thn (hc.run pins s σ H _ I h) fun k s1 ⟨H1, I1, q1⟩ => ?_)
  cases k with
  | true => exact ha.run pins s1 σ H1 Q I1 q1
  | false => exact hb.run pins s1 σ H1 Q I1 q1
theorem t_ite (hc : PT X c (LT X.K wc)) (ha : PT X a (LT X.K wa)) (hb : PT X b (LT X.K wb)) :
    PT X (.IfExp c a b pos) (LT X.K fun ρ M q => wc ρ M fun x M1 => ∃ k, tru M1 x = some k ∧ if k = true then wa ρ M1 q else wb ρ M1 q) := by
  refine pt_imp (pt_ifExp hc ha hb) ?_
  rintro σ H Q ⟨ρ, M, q, hE, hM, h, k⟩
  refine ⟨ρ, M, _, hE, hM, h, fun d1 M1 v1 H1 s1 r1 m1 ⟨b, e, z⟩ => ⟨b, e, ?_⟩⟩
  cases b with
  | true =>
    simp only [if_true] at z ⊢
    exact ⟨ρ, M1, q, hE.keep s1.keep, m1, z, fun d M' v H' s => k d M' v H' (s1.trans s)⟩
  | false =>
    simp only [Bool.false_eq_true, if_false] at z ⊢
    exact ⟨ρ, M1, q, hE.keep s1.keep, m1, z, fun d M' v H' s => k d M' v H' (s1.trans s)⟩
variable {rest : List Expr}
theorem s_and (ha : PE X a (LE X.K wa)) (hb : PE X (.BoolOp .And (b :: rest) pos) (LE X.K wb)) :
    PE X (.BoolOp .And (a :: b :: rest) pos) (LE X.K fun ρ M q => wa ρ M fun x M1 => ∃ k, tru M1 x = some k ∧ if k = true then wb ρ M1 q else q x M1) := by
  refine pe_imp (pe_andT ha hb) ?_
  rintro σ H Q ⟨ρ, M, q, hE, hM, h, k⟩
  refine ⟨ρ, M, _, hE, hM, h, fun d1 M1 v1 H1 s1 r1 m1 ⟨b, e, z⟩ => ⟨b, tru_ok' r1 m1 e, ?_⟩⟩
  cases b with
  | true =>
    simp only [if_true] at z ⊢
    exact ⟨ρ, M1, q, hE.keep s1.keep, m1, z, fun d M' v H' s => k d M' v H' (s1.trans s)⟩
  | false =>
    simp only [Bool.false_eq_true, if_false] at z ⊢
    exact k d1 M1 v1 H1 s1 r1 m1 z
theorem s_or (ha : PE X a (LE X.K wa)) (hb : PE X (.BoolOp .Or (b :: rest) pos) (LE X.K wb)) :
    PE X (.BoolOp .Or (a :: b :: rest) pos) (LE X.K fun ρ M q => wa ρ M fun x M1 => ∃ k, tru M1 x = some k ∧ if k = true then q x M1 else wb ρ M1 q) := by
  refine pe_imp (pe_orT ha hb) ?_
  rintro σ H Q ⟨ρ, M, q, hE, hM, h, k⟩
  refine ⟨ρ, M, _, hE, hM, h, fun d1 M1 v1 H1 s1 r1 m1 ⟨b, e, z⟩ => ⟨b, tru_ok' r1 m1 e, ?_⟩⟩
  cases b with
  | true =>
    simp only [if_true] at z ⊢
    exact k d1 M1 v1 H1 s1 r1 m1 z
  | false =>
    simp only [Bool.false_eq_true, if_false] at z ⊢
    exact ⟨ρ, M1, q, hE.keep s1.keep, m1, z, fun d M' v H' s => k d M' v H' (s1.trans s)⟩
theorem t_and (ha : PT X a (LT X.K wa)) (hb : PW X (.BoolOp .And (b :: rest) pos) (LT X.K wb)) :
    PW X (.BoolOp .And (a :: b :: rest) pos) (LT X.K fun ρ M q => wa ρ M fun x M1 => ∃ k, tru M1 x = some k ∧ if k = true then wb ρ M1 q else q x M1) := by
  refine pw_imp (pw_and ha hb) ?_
  rintro σ H Q ⟨ρ, M, q, hE, hM, h, k⟩
  refine ⟨ρ, M, _, hE, hM, h, fun d1 M1 v1 H1 s1 r1 m1 ⟨b, e, z⟩ => ⟨b, e, ?_⟩⟩
  cases b with
  | true =>
    simp only [if_true] at z ⊢
    exact ⟨ρ, M1, q, hE.keep s1.keep, m1, z, fun d M' v H' s => k d M' v H' (s1.trans s)⟩
  | false =>
    simp only [Bool.false_eq_true, if_false] at z ⊢
    obtain ⟨b', e', z⟩ := k d1 M1 v1 H1 s1 r1 m1 z
    rw [e] at e'; cases e'
    exact z
theorem t_or (ha : PT X a (LT X.K wa)) (hb : PW X (.BoolOp .Or (b :: rest) pos) (LT X.K wb)) :
    PW X (.BoolOp .Or (a :: b :: rest) pos) (LT X.K fun ρ M q => wa ρ M fun x M1 => ∃ k, tru M1 x = some k ∧ if k = true then q x M1 else wb ρ M1 q) := by
  refine pw_imp (pw_or ha hb) ?_
  rintro σ H Q ⟨ρ, M, q, hE, hM, h, k⟩
  refine ⟨ρ, M, _, hE, hM, h, fun d1 M1 v1 H1 s1 r1 m1 ⟨b, e, z⟩ => ⟨b, e, ?_⟩⟩
  cases b with
  | true =>
    simp only [if_true] at z ⊢
    obtain ⟨b', e', z⟩ := k d1 M1 v1 H1 s1 r1 m1 z
    rw [e] at e'; cases e'
    exact z
  | false =>
    simp only [Bool.false_eq_true, if_false] at z ⊢
    exact ⟨ρ, M1, q, hE.keep s1.keep, m1, z, fun d M' v H' s => k d M' v H' (s1.trans s)⟩
/-! ### argument lists, displays, calls -/
theorem a_nil : PA X [] (LA X.K 0 fun ρ M k => k [] M) := by
  refine pa_imp pa_nil ?_
  rintro σ H Q ⟨ρ, M, q, hE, hM, h, k⟩
  exact k [] M [] H rfl .refl rfl hM h
theorem a_cons {es : List Expr} {n : Nat} {ws : En → Mem → (List D → Mem → Prop) → Prop} (ha : PE X e (LE X.K w)) (hs : PA X es (LA X.K n ws)) (hst : starEach (e :: es) X.env = (false, eval e X.env) :: starEach es X.env) :
    PA X (e :: es) (LA X.K (n + 1) fun ρ M k => w ρ M fun d M1 => ws ρ M1 fun ds M2 => k (d :: ds) M2) := by
  refine pa_imp (pa_cons ha hs hst) ?_
  rintro σ H Q ⟨ρ, M, q, hE, hM, h, k⟩
  refine ⟨ρ, M, _, hE, hM, h, fun d1 M1 v1 H1 s1 r1 m1 q1 => ⟨ρ, M1, _, hE.keep s1.keep, m1, q1, fun ds M2 vs H2 hl s2 r2 m2 q2 => ?_⟩⟩
  exact k (d1 :: ds) M2 (v1 :: vs) H2 (by simp [hl]) (s1.trans s2) ⟨v1, vs, rfl, r1.keep s2.keep, r2⟩ m2 q2
variable {es : List Expr} {n : Nat} {ws : En → Mem → (List D → Mem → Prop) → Prop}
theorem le1000 {n : Nat} (h : n ≤ 1000) : n ≤ sizeLine := Nat.le_of_lt (small1000 h)
theorem s_tup {k0 : Nat} (hs : PA X es (LA X.K n ws)) (hn : n ≤ 1000) : PE X (.Tuple es k0 pos) (LE X.K fun ρ M q => ws ρ M fun ds M1 => q (.tup ds) M1) := by
  refine pe_imp (pe_tup hs) ?_
  rintro σ H Q ⟨ρ, M, q, hE, hM, h, k⟩
  refine ⟨ρ, M, _, hE, hM, h, fun ds M1 vs H1 hl s1 r1 m1 q1 => ⟨by rw [← r1.length, hl]; exact le1000 hn, fun p hp => ?_⟩⟩
  exact k (.tup ds) M1 _ _ (s1.trans (step_new m1 hp)) ⟨_, _, rfl, .inl (.inl upd_same), r1.keep (keep_new hp), by rw [hl]; exact le1000 hn⟩ (m1.new hp) q1
theorem s_lst (hs : PA X es (LA X.K n ws)) (hn : n ≤ 1000) : PE X (.List es pos) (LE X.K fun ρ M q => ws ρ M fun ds M1 => ∀ p, M1 p = none → q (.lst p) (M1.up p ds)) := by
  refine pe_imp (pe_lst hs) ?_
  rintro σ H Q ⟨ρ, M, q, hE, hM, h, k⟩
  refine ⟨ρ, M, _, hE, hM, h, fun ds M1 vs H1 hl s1 r1 m1 q1 => ⟨by rw [← r1.length, hl]; exact le1000 hn, fun p hp => ?_⟩⟩
  exact k (.lst p) _ _ _ (s1.trans (step_newL m1 hp)) rfl (m1.newL hp r1 (by rw [hl]; exact le1000 hn)) (q1 p (m1.free hp))
theorem star_tail {e : Expr} {es : List Expr} {env : Env} (h : starEach (e :: es) env = (e :: es).map fun e => (false, eval e env)) : starEach es env = es.map fun e => (false, eval e env) := by
  have := congrArg List.tail h
  cases e <;> simpa [starEach] using this
theorem star_head {e : Expr} {es : List Expr} {env : Env} (h : starEach (e :: es) env = (e :: es).map fun e => (false, eval e env)) : starEach (e :: es) env = (false, eval e env) :: starEach es env := by
  rw [star_tail h, h]; rfl
theorem star_any {es : List Expr} {env : Env} {pos : Pos} (h : starEach es env = es.map fun e => (false, eval e env)) : (backTo pos (starEach es env)).any (·.1) = false := by
  rw [h]; simp [backTo]
variable {x : Str} {p : Pos} {f : Addr} {fd : FuncData} {ps : List Str} {k : Nat} {pG : List D → Mem → K1 → Prop}
theorem s_call (F : FnOk X.prog X.w X.K X.mg X.base CX0 k f fd ps (LSp X.K n pG)) (hr : Room k X.A) (hg : Gl X x) (hm : X.mg x = some (.ref f))
    (hk : PySem.W.keepIn X.K (.ref f) = true) (hb : Binds X.K fd ps []) (hs : PA X (e :: es) (LA X.K n ws)) (hdb : (x == ("__debug__" : Str)) = false) (hst : starEach (e :: es) X.env = (e :: es).map fun e => (false, eval e X.env)) :
    PE X (.Call (.Name x p) (e :: es) [] pos) (LE X.K fun ρ M q => ws ρ M fun ds M1 => pG ds M1 q) := by
  refine pe_imp (pe_call F hr hg hm hk hb .nil pass0 hs hdb (star_head hst) (star_any (star_tail hst))) ?_
  rintro σ H Q ⟨ρ, M, q, hE, hM, h, k⟩
  refine ⟨ρ, M, _, hE, hM, h, fun ds M1 vs H1 hl s1 r1 m1 q1 => ?_⟩
  show LSp X.K n pG (vs ++ []) H1 Q E0
  rw [List.append_nil]
  exact ⟨by rw [← r1.length, hl], ds, M1, q, r1, m1, q1, fun d M' v H' s => k d M' v H' (s1.trans s)⟩
theorem s_call0 (F : FnOk X.prog X.w X.K X.mg X.base CX0 k f fd ps (LSp X.K 0 pG)) (hr : Room k X.A) (hg : Gl X x) (hm : X.mg x = some (.ref f))
    (hk : PySem.W.keepIn X.K (.ref f) = true) (hb : Binds X.K fd ps []) (hdb : (x == ("__debug__" : Str)) = false) :
    PE X (.Call (.Name x p) [] [] pos) (LE X.K fun ρ M q => pG [] M q) := by
  refine pe_imp (pe_call0 F hr hg hm hk hb .nil pass0 hdb) ?_
  rintro σ H Q ⟨ρ, M, q, hE, hM, h, k⟩
  exact ⟨rfl, [], M, q, rfl, hM, h, k⟩
/-- what a built-in's name gives -/
theorem s_bfn {id : String} {b : Bf} (hc : CallR X (.builtin id) (LC X.K (bfW b))) (hg : Gl X x) (hm : X.mg x = none) (hv : bootBuiltins x = some (.builtin id)) (hn : x ≠ "__name__") (hdb : (x == ("__debug__" : Str)) = false)
    (ha : PE X a (LE X.K wa)) (hst : starEach [a] X.env = [(false, eval a X.env)]) :
    PE X (.Call (.Name x p) [a] [] pos) (LE X.K fun ρ M q => wa ρ M fun d M1 => bfW b [d] M1 q) := by
  refine pe_imp (pe_callB hc hg hm hv (pa_cons ha pa_nil hst) hn hdb hst rfl) ?_
  rintro σ H Q ⟨ρ, M, q, hE, hM, h, k⟩
  refine ⟨ρ, M, _, hE, hM, h, fun d1 M1 v1 H1 s1 r1 m1 q1 => ?_⟩
  exact ⟨[d1], M1, q, RepL.single r1, m1, q1, fun d M' v H' s => k d M' v H' (s1.trans s)⟩
theorem s_bfn2 {X : Cx} {x : Str} {p pos : Pos} {a b : Expr} {wa wb : En → Mem → K1 → Prop} {id : String} {f : Bf} (hc : CallR X (.builtin id) (LC X.K (bfW f))) (hg : Gl X x) (hm : X.mg x = none) (hv : bootBuiltins x = some (.builtin id)) (hn : x ≠ "__name__") (hdb : (x == ("__debug__" : Str)) = false)
    (ha : PE X a (LE X.K wa)) (hb : PE X b (LE X.K wb)) (hst : starEach [a, b] X.env = (false, eval a X.env) :: starEach [b] X.env) (hst2 : starEach [b] X.env = [(false, eval b X.env)]) :
    PE X (.Call (.Name x p) [a, b] [] pos) (LE X.K fun ρ M q => wa ρ M fun d M1 => wb ρ M1 fun e M2 => bfW f [d, e] M2 q) := by
  refine pe_imp (pe_callB hc hg hm hv (pa_cons ha (pa_cons hb pa_nil hst2) hst) hn hdb hst (by rw [hst2]; rfl)) ?_
  rintro σ H Q ⟨ρ, M, q, hE, hM, h, k⟩
  refine ⟨ρ, M, _, hE, hM, h, fun d1 M1 v1 H1 s1 r1 m1 q1 => ⟨ρ, M1, _, hE.keep s1.keep, m1, q1, fun d2 M2 v2 H2 s2 r2 m2 q2 => ?_⟩⟩
  exact ⟨[d1, d2], M2, q, ⟨v1, [v2], rfl, r1.keep s2.keep, RepL.single r2⟩, m2, q2, fun d M' v H' s => k d M' v H' ((s1.trans s2).trans s)⟩
theorem s_bfnT {T : String} {b : Bf} (hc : CallR X (.type T) (LC X.K (bfW b))) (hg : Gl X x) (hm : X.mg x = none) (hv : bootBuiltins x = some (.type T)) (hn : x ≠ "__name__") (hdb : (x == ("__debug__" : Str)) = false)
    (ha : PE X a (LE X.K wa)) (hst : starEach [a] X.env = [(false, eval a X.env)]) :
    PE X (.Call (.Name x p) [a] [] pos) (LE X.K fun ρ M q => wa ρ M fun d M1 => bfW b [d] M1 q) := by
  refine pe_imp (pe_callTy hc hg hm hv (pa_cons ha pa_nil hst) hn hdb hst rfl) ?_
  rintro σ H Q ⟨ρ, M, q, hE, hM, h, k⟩
  refine ⟨ρ, M, _, hE, hM, h, fun d1 M1 v1 H1 s1 r1 m1 q1 => ?_⟩
  exact ⟨[d1], M1, q, RepL.single r1, m1, q1, fun d M' v H' s => k d M' v H' (s1.trans s)⟩
theorem s_isT {y : Str} {py : Pos} {t : Ty} (hg : Gl X x) (hm : X.mg x = none) (hv : bootBuiltins x = some (.builtin "isinstance")) (hn : x ≠ "__name__") (hdb : (x == ("__debug__" : Str)) = false)
    (hg2 : Gl X y) (hm2 : X.mg y = none) (hv2 : bootBuiltins y = some (.type t.nm)) (hn2 : y ≠ "__name__") (hdb2 : (y == ("__debug__" : Str)) = false)
    (ha : PE X a (LE X.K wa)) (hst : starEach [a, .Name y py] X.env = [(false, eval a X.env), (false, eval (.Name y py) X.env)]) :
    PE X (.Call (.Name x p) [a, .Name y py] [] pos) (LE X.K fun ρ M q => wa ρ M fun d M1 => bfW (.isT t) [d] M1 q) := by
  refine pe_imp (pe_callB (bf_isT t) hg hm hv (pa_cons ha (pa_cons (pe_bltn hg2 hm2 hv2 (v := .ty t.nm) rfl hn2 hdb2) pa_nil rfl) (by rw [hst]; rfl)) hn hdb (by rw [hst]; rfl) rfl) ?_
  rintro σ H Q ⟨ρ, M, q, hE, hM, h, k⟩
  refine ⟨ρ, M, _, hE, hM, h, fun d1 M1 v1 H1 s1 r1 m1 q1 => ?_⟩
  exact ⟨v1, rfl, [d1], M1, q, RepL.single r1, m1, q1, fun d M' v H' s => k d M' v H' (s1.trans s)⟩
theorem rep_rev {K : PySem.W.Frag} {H : Hp} : ∀ {ds : List D} {xs : List V}, RepL K H ds xs → RepL K H ds.reverse xs.reverse
  | [], _, h => by cases h; simp [RepL]
  | d :: ds, xs, h => by
    obtain ⟨x, r, rfl, a, t⟩ := h
    rw [List.reverse_cons, List.reverse_cons]
    exact RepL.app (rep_rev t) (RepL.single a)
theorem s_sset {y : Str} {p2 q2 : Pos} (hc : X.calm = true) (hg : Gl X x) (hm : X.mg x = none) (hv : bootBuiltins x = some (.builtin "sorted")) (hn : x ≠ "__name__") (hdb : (x == ("__debug__" : Str)) = false)
    (hg2 : Gl X y) (hm2 : X.mg y = none) (hv2 : bootBuiltins y = some (.type "set")) (hn2 : y ≠ "__name__") (hdb2 : (y == ("__debug__" : Str)) = false)
    (ha : PE X a (LE X.K wa)) (hst : starEach [a] X.env = [(false, eval a X.env)]) :
    PE X (.Call (.Name x p) [.Call (.Name y p2) [a] [] q2] [] pos) (LE X.K fun ρ M q => wa ρ M fun d M1 => bfW .sset [d] M1 q) := by
  refine pe_imp (pe_callB (cr_sortedSet hc) hg hm hv (pa_cons (pe_callTy (cr_setL hc) hg2 hm2 hv2 (pa_cons ha pa_nil hst) hn2 hdb2 hst rfl) pa_nil rfl) hn hdb rfl rfl) ?_
  rintro σ H Q ⟨ρ, M, q, hE, hM, h, k⟩
  refine ⟨ρ, M, _, hE, hM, h, fun d1 M1 v1 H1 s1 r1 m1 q1 => ?_⟩
  have w : ssetW [d1] M1 q := q1
  cases d1 with
  | lst b =>
    obtain ⟨ds, ns, e, ei, h64, w⟩ := w
    cases r1
    obtain ⟨ys, h1, l1, z1⟩ := m1 _ _ e
    rw [intsOf_eq ei] at l1
    rw [l1.ints_eq] at h1
    refine ⟨b, ns, rfl, SqL.of h1, h64, fun a c ha hle => ?_⟩
    refine ⟨a, _, c, rfl, upd_same, by omega, fun ns' p h1 h2 h3 hp => ?_⟩
    exact k (.lst p) (M1.up p (ns'.map D.int)) _ _ (s1.trans ((step_new m1 ha).trans (step_newL (m1.new ha) hp))) rfl
      ((m1.new ha).newL hp RepL.ints (by rw [List.length_map, h3]; exact Nat.le_trans (Nat.le_of_lt (Nat.lt_of_le_of_lt hle h64)) (by decide)))
      (w ns' p h1 (fun j => by rw [h2 j]; simp) ((m1.new ha).free hp))
  | _ => exact w.elim
/-! ### subscripts -/
theorem s_rev {k : Nat} {p1 p2 p3 : Pos} (ha : PE X a (LE X.K wa)) : PE X (.Subscript a (.Slice none none (some (.UnaryOp .USub (.Constant (.int 1) k p1) p2)) p3) pos) (LE X.K fun ρ M q => wa ρ M fun d M1 => bfW .rev [d] M1 q) := by
  refine pe_imp (pe_back ha) ?_
  rintro σ H Q ⟨ρ, M, q, hE, hM, h, k⟩
  refine ⟨ρ, M, _, hE, hM, h, fun d1 M1 v1 H1 s1 r1 m1 q1 => ?_⟩
  have w : revW [d1] M1 q := q1
  cases d1 with
  | tup ds =>
    obtain ⟨b, ys, rfl, h1, l1, z1⟩ := r1
    refine .inl ⟨b, ys, rfl, h1, fun p hp => ?_⟩
    exact k (.tup ds.reverse) M1 _ _ (s1.trans (step_new m1 hp)) ⟨_, _, rfl, .inl (.inl upd_same), (rep_rev l1).keep (keep_new hp), by rw [List.length_reverse]; exact z1⟩ (m1.new hp) w
  | lst b =>
    cases r1
    obtain ⟨ds, e, w⟩ := w
    obtain ⟨ys, h1, l1, z1⟩ := m1 _ _ e
    refine .inr ⟨_, ys, rfl, SqL.of h1, fun p hp => ?_⟩
    exact k (.lst p) (M1.up p ds.reverse) _ _ (s1.trans (step_newL m1 hp)) rfl (m1.newL hp (rep_rev l1) (by rw [List.length_reverse]; exact z1)) (w p (m1.free hp))
  | _ => exact w.elim
theorem s_ix (hs : PlainIx b) (ha : PE X a (LE X.K wa)) (hb : PE X b (LE X.K wb)) : PE X (.Subscript a b pos) (LE X.K fun ρ M q => wa ρ M fun x M1 => wb ρ M1 fun y M2 => ixW x y M2 q) := by
  refine pe_imp (pe_ix ix_ok ha hb hs) ?_
  rintro σ H Q ⟨ρ, M, q, hE, hM, h, k⟩
  refine ⟨ρ, M, _, hE, hM, h, fun d1 M1 v1 H1 s1 r1 m1 q1 => ⟨ρ, M1, _, hE.keep s1.keep, m1, q1, fun d2 M2 v2 H2 s2 r2 m2 q2 => ?_⟩⟩
  exact ⟨d1, d2, M2, q, r1.keep s2.keep, r2, m2, q2, fun d M' v H' s => k d M' v H' ((s1.trans s2).trans s)⟩
def LO (K : PySem.W.Frag) (w : En → Mem → (Option Int → Mem → Prop) → Prop) : TO := fun σ H Q => ∃ ρ M q, RepE K H ρ σ ∧ RepM K H M ∧ w ρ M q ∧ ∀ o M' H', Step M H M' H' → RepM K H' M' → q o M' → Q o H'
theorem po_imp {o : Option Expr} {t t' : TO} (h : PO X o t) (f : ∀ σ H Q, t' σ H Q → t σ H Q) : PO X o t' := ⟨fun pins s σ H Q I hw => h.run pins s σ H Q I (f σ H Q hw)⟩
theorem o_no : PO X none (LO X.K fun ρ M k => k none M) := by
  refine po_imp po_none ?_
  rintro σ H Q ⟨ρ, M, q, hE, hM, h, k⟩
  exact k none M H .refl hM h
theorem o_yes (ha : PE X a (LE X.K wa)) : PO X (some a) (LO X.K fun ρ M k => wa ρ M fun d M1 => ∃ i, d = .int i ∧ k (some i) M1) := by
  refine po_imp (po_some ha) ?_
  rintro σ H Q ⟨ρ, M, q, hE, hM, h, k⟩
  refine ⟨ρ, M, _, hE, hM, h, fun d1 M1 v1 H1 s1 r1 m1 ⟨i, e, q1⟩ => ?_⟩
  subst e
  cases r1
  exact ⟨i, rfl, k _ M1 H1 s1 m1 q1⟩
theorem s_sl {lo hi : Option Expr} {wl wh : En → Mem → (Option Int → Mem → Prop) → Prop} {p2 : Pos} (ha : PE X a (LE X.K wa)) (hl : PO X lo (LO X.K wl)) (hh : PO X hi (LO X.K wh)) :
    PE X (.Subscript a (.Slice lo hi none p2) pos) (LE X.K fun ρ M q => wa ρ M fun x M1 => wl ρ M1 fun l M2 => wh ρ M2 fun h M3 => slW x l h M3 q) := by
  refine pe_imp (pe_slice sl_ok ha hl hh) ?_
  rintro σ H Q ⟨ρ, M, q, hE, hM, h, k⟩
  refine ⟨ρ, M, _, hE, hM, h, fun d1 M1 v1 H1 s1 r1 m1 q1 => ⟨ρ, M1, _, hE.keep s1.keep, m1, q1, fun l M2 H2 s2 m2 q2 => ⟨ρ, M2, _, (hE.keep s1.keep).keep s2.keep, m2, q2, fun u M3 H3 s3 m3 q3 => ?_⟩⟩⟩
  exact ⟨d1, M3, q, (r1.keep s2.keep).keep s3.keep, m3, q3, fun d M' v H' s => k d M' v H' (((s1.trans s2).trans s3).trans s)⟩
/-! ### methods of lists -/
/-- the receiver is a list that is known -/
theorem s_mth {m : Mf} {name : Str} {id : String} {o : Expr} {wo : En → Mem → K1 → Prop} {apos : Pos} (pa : PlainAttrs "list") (slot : Slot "list" name id) (hty : typeOf (.builtin id) = pure (.type "method_descriptor")) (hm : MtR X id (LM X.K (mthW m)))
    (ho : PE X o (LE X.K wo)) (hs : PA X (e :: es) (LA X.K n ws)) (hst : starEach (e :: es) X.env = (e :: es).map fun e => (false, eval e X.env)) (hbase : attributeBase o name X.env (eval o X.env) = eval o X.env)
    (hline : (apos.endLine == pos.line) = true) (hlen : (e :: es).length < 29) :
    PE X (.Call (.Attribute o name apos) (e :: es) [] pos) (LE X.K fun ρ M q => wo ρ M fun x M1 => (∃ a ds, x = .lst a ∧ M1 a = some ds) ∧ ws ρ M1 fun ds M2 => mthW m x ds M2 q) := by
  refine pe_imp (pe_bm pa slot hty hm ho hs hbase ?_ hline (star_head hst) (star_any (star_tail hst))) ?_
  · rw [hst]
    simp only [Bool.and_eq_true, decide_eq_true_eq, List.all_eq_true]
    refine ⟨⟨fun z hz => ?_, fun z hz => ?_⟩, ?_⟩
    · simp only [backTo, List.map_map, List.mem_map] at hz
      obtain ⟨y, _, rfl⟩ := hz
      rfl
    · simp [backToKw, keywordEach] at hz
    · simp only [List.length_nil, List.isEmpty_nil, if_true]
      omega
  · rintro σ H Q ⟨ρ, M, q, hE, hM, h, k⟩
    refine ⟨ρ, M, _, hE, hM, h, fun d1 M1 v1 H1 s1 r1 m1 ⟨⟨a, ds, e1, e2⟩, q1⟩ => ⟨?_, ?_⟩⟩
    · subst e1
      cases r1
      obtain ⟨xs, hx, _⟩ := m1 a ds e2
      exact Or.inl ⟨rfl, xs, SqL.of hx⟩
    · refine ⟨ρ, M1, _, hE.keep s1.keep, m1, q1, fun ds2 M2 vs H2 hl s2 r2 m2 q2 => ?_⟩
      exact ⟨d1, ds2, M2, q, r1.keep s2.keep, r2, m2, q2, fun d M' v H' s => k d M' v H' ((s1.trans s2).trans s)⟩
theorem s_mth0 {m : Mf} {name : Str} {id : String} {o : Expr} {wo : En → Mem → K1 → Prop} {apos : Pos} (pa : PlainAttrs "list") (slot : Slot "list" name id) (hty : typeOf (.builtin id) = pure (.type "method_descriptor")) (hm : MtR X id (LM X.K (mthW m)))
    (ho : PE X o (LE X.K wo)) (hbase : attributeBase o name X.env (eval o X.env) = eval o X.env) (hline : (apos.endLine == pos.line) = true) :
    PE X (.Call (.Attribute o name apos) [] [] pos) (LE X.K fun ρ M q => wo ρ M fun x M1 => (∃ a ds, x = .lst a ∧ M1 a = some ds) ∧ mthW m x [] M1 q) := by
  refine pe_imp (pe_bm0 pa slot hty hm ho hbase hline) ?_
  rintro σ H Q ⟨ρ, M, q, hE, hM, h, k⟩
  refine ⟨ρ, M, _, hE, hM, h, fun d1 M1 v1 H1 s1 r1 m1 ⟨⟨a, ds, e1, e2⟩, q1⟩ => ⟨?_, ?_⟩⟩
  · subst e1
    cases r1
    obtain ⟨xs, hx, _⟩ := m1 a ds e2
    exact Or.inl ⟨rfl, xs, SqL.of hx⟩
  · exact ⟨d1, [], M1, q, r1, rfl, m1, q1, fun d M' v H' s => k d M' v H' (s1.trans s)⟩
/-! ### what is walked -/
variable {tg e2 : Expr} {w2 : En → Mem → K1 → Prop}
theorem i_rng1 (hg : Gl X "range") (hm : X.mg "range" = none) (ha : PE X a (LE X.K wa)) (hst : starEach [a] X.env = [(false, eval a X.env)]) :
    PI X tg (.Call (.Name "range" p) [a] [] pos) (LI X.K fun ρ M R => wa ρ M fun d M1 => rng1W d M1 R) := by
  refine pi_imp (pi_range1 hg hm (pa_cons ha pa_nil hst) hst) ?_
  rintro σ H R ⟨ρ, M, r, hE, hM, h, k⟩
  refine ⟨ρ, M, _, hE, hM, h, fun d1 M1 v1 H1 s1 r1 m1 q1 => ?_⟩
  cases d1 with
  | int j => cases r1; exact ⟨j, rfl, q1.1, q1.2.1, k _ _ M1 _ H1 s1 m1 wk_rng q1.2.2⟩
  | _ => exact q1.elim
theorem i_rng2 (hg : Gl X "range") (hm : X.mg "range" = none) (ha : PE X a (LE X.K wa)) (hb : PE X b (LE X.K wb)) (hst : starEach [a, b] X.env = [(false, eval a X.env), (false, eval b X.env)]) (hst2 : starEach [b] X.env = [(false, eval b X.env)]) :
    PI X tg (.Call (.Name "range" p) [a, b] [] pos) (LI X.K fun ρ M R => wa ρ M fun d M1 => wb ρ M1 fun e M2 => rng2W d e M2 R) := by
  refine pi_imp (pi_range2 hg hm (pa_cons ha (pa_cons hb pa_nil hst2) (by rw [hst, hst2])) hst hst2) ?_
  rintro σ H R ⟨ρ, M, r, hE, hM, h, k⟩
  refine ⟨ρ, M, _, hE, hM, h, fun d1 M1 v1 H1 s1 r1 m1 q1 => ⟨ρ, M1, _, hE.keep s1.keep, m1, q1, fun d2 M2 v2 H2 s2 r2 m2 q2 => ?_⟩⟩
  cases d1 with
  | int i =>
    cases d2 with
    | int j => cases r1; cases r2; exact ⟨i, j, rfl, q2.1, k _ _ M2 _ H2 (s1.trans s2) m2 wk_rng q2.2⟩
    | _ => exact q2.elim
  | _ => exact q2.elim
variable {elts : List Expr} {kk : Nat} {tpos : Pos}
theorem i_enum (hg : Gl X "enumerate") (hm : X.mg "enumerate" = none) (ha : PE X a (LE X.K wa)) (hst : starEach [a] X.env = [(false, eval a X.env)]) :
    PI X (.Tuple elts kk tpos) (.Call (.Name "enumerate" p) [a] [] pos) (LI X.K fun ρ M R => wa ρ M fun d M1 => enumW d M1 R) := by
  refine pi_imp (pi_enumT hg hm (pa_cons ha pa_nil hst) hst) ?_
  rintro σ H R ⟨ρ, M, r, hE, hM, h, k⟩
  refine ⟨ρ, M, _, hE, hM, h, fun d1 M1 v1 H1 s1 r1 m1 q1 => ?_⟩
  cases d1 with
  | lst a =>
    cases r1
    obtain ⟨ds, e, q1⟩ := q1
    obtain ⟨xs, hx, l, z⟩ := m1 _ _ e
    exact ⟨a, xs, rfl, .inl ⟨SqL.of hx, k _ _ M1 _ H1 s1 m1 wk_enum (q1 z)⟩⟩
  | tup ds =>
    obtain ⟨a, xs, rfl, h1, l, z⟩ := r1
    exact ⟨a, xs, rfl, .inr ⟨h1, k _ _ M1 _ H1 s1 m1 (wk_enumT h1 l) (q1 z)⟩⟩
  | _ => exact q1.elim
theorem i_zip (hg : Gl X "zip") (hm : X.mg "zip" = none) (ha : PE X a (LE X.K wa)) (hb : PE X b (LE X.K wb)) (hst : starEach [a, b] X.env = [(false, eval a X.env), (false, eval b X.env)]) (hst2 : starEach [b] X.env = [(false, eval b X.env)]) :
    PI X (.Tuple elts kk tpos) (.Call (.Name "zip" p) [a, b] [] pos) (LI X.K fun ρ M R => wa ρ M fun d M1 => wb ρ M1 fun e M2 => zipW d e M2 R) := by
  refine pi_imp (pi_zipM hg hm (pa_cons ha (pa_cons hb pa_nil hst2) (by rw [hst, hst2])) (by rw [hst, hst2]) (by rw [hst2]; rfl)) ?_
  rintro σ H R ⟨ρ, M, r, hE, hM, h, k⟩
  refine ⟨ρ, M, _, hE, hM, h, fun d1 M1 v1 H1 s1 r1 m1 q1 => ⟨ρ, M1, _, hE.keep s1.keep, m1, q1, fun d2 M2 v2 H2 s2 r2 m2 q2 => ?_⟩⟩
  unfold zipW at q2
  split at q2
  · obtain ⟨a, xs, rfl, h1, l1, z1⟩ := r1
    obtain ⟨b, ys, rfl, h2, l2, z2⟩ := r2
    have h1 := s2.keep.sqT h1
    have l1 := l1.keep s2.keep
    exact ⟨false, false, a, b, xs, ys, rfl, h1, h2, k _ _ M2 _ H2 (s1.trans s2) m2 (wk_zipT h1 l1 h2 l2) (q2 z1 z2)⟩
  · cases r1; cases r2
    obtain ⟨xs, ys, e1, e2, q2⟩ := q2
    obtain ⟨vs, h1, l1, z1⟩ := m2 _ _ e1
    obtain ⟨ws, h2, l2, z2⟩ := m2 _ _ e2
    exact ⟨true, true, _, _, vs, ws, rfl, SqL.of h1, SqL.of h2, k _ _ M2 _ H2 (s1.trans s2) m2 wk_zipL (q2 z1 z2)⟩
  · obtain ⟨a, xs, rfl, h1, l1, z1⟩ := r1
    cases r2
    obtain ⟨ys, e2, q2⟩ := q2
    obtain ⟨ws, h2, l2, z2⟩ := m2 _ _ e2
    have h1 := s2.keep.sqT h1
    have l1 := l1.keep s2.keep
    exact ⟨false, true, a, _, xs, ws, rfl, h1, SqL.of h2, k _ _ M2 _ H2 (s1.trans s2) m2 (wk_zipTL h1 l1) (q2 z1 z2)⟩
  · exact q2.elim
theorem i_ezip {p1 pos1 : Pos} (hg1 : Gl X "enumerate") (hm1 : X.mg "enumerate" = none) (hg : Gl X "zip") (hm : X.mg "zip" = none) (ha : PE X a (LE X.K wa)) (hb : PE X b (LE X.K wb)) (hst : starEach [a, b] X.env = [(false, eval a X.env), (false, eval b X.env)]) (hst2 : starEach [b] X.env = [(false, eval b X.env)])
    (hst0 : starEach [.Call (.Name "zip" p) [a, b] [] pos] X.env = [(false, eval (.Call (.Name "zip" p) [a, b] [] pos) X.env)]) :
    PI X (.Tuple elts kk tpos) (.Call (.Name "enumerate" p1) [.Call (.Name "zip" p) [a, b] [] pos] [] pos1) (LI X.K fun ρ M R => wa ρ M fun d M1 => wb ρ M1 fun e M2 => ezipW d e M2 R) := by
  refine pi_imp (pi_enumZ hg1 hm1 hg hm (pa_cons ha (pa_cons hb pa_nil hst2) (by rw [hst, hst2])) hst0 (by rw [hst, hst2]) (by rw [hst2]; rfl)) ?_
  rintro σ H R ⟨ρ, M, r, hE, hM, h, k⟩
  refine ⟨ρ, M, _, hE, hM, h, fun d1 M1 v1 H1 s1 r1 m1 q1 => ⟨ρ, M1, _, hE.keep s1.keep, m1, q1, fun d2 M2 v2 H2 s2 r2 m2 q2 => ?_⟩⟩
  unfold ezipW at q2
  split at q2
  · obtain ⟨a, xs, rfl, h1, l1, z1⟩ := r1
    obtain ⟨b, ys, rfl, h2, l2, z2⟩ := r2
    have h1 := s2.keep.sqT h1
    have l1 := l1.keep s2.keep
    exact ⟨a, b, xs, ys, rfl, h1, h2, k _ _ M2 _ H2 (s1.trans s2) m2 (wk_ezip h1 l1 h2 l2) (q2 z1 z2)⟩
  · exact q2.elim
/-! ### targets -/
theorem g_nm {i : Nat} (hN : X.N.Nodup) (hi : X.N[i]? = some x) (hx : Loc X.env.scope x) (hf : X.fn x = true ∨ X.env.scope.names.lookup x = some .local) : PG X (.Name x pos) (LG X.K [i] fun d ρ M k => k (put ρ i d) M) := by
  refine pg_imp (pg_name hN hi hx hf) ?_
  rintro v σ H Q ⟨d, ρ, M, k, r, hE, hM, h, P⟩
  exact P (put ρ i d) M _ H (fun vs hv => wipe_set (hv i (by simp))) .refl (hE.put r) hM h
theorem gs_nil : PGs X [] (LGs X.K [] fun ds ρ M k => ds = [] ∧ k ρ M) := by
  refine pgs_imp pgs_nil ?_
  rintro vs σ H Q ⟨ds, ρ, M, k, r, hE, hM, ⟨rfl, h⟩, P⟩
  cases r
  exact ⟨rfl, P ρ M σ H (fun _ _ => rfl) .refl hE hM h⟩
theorem gs_cons {s1 s2 : List Nat} {wt : D → En → Mem → (En → Mem → Prop) → Prop} {wr : List D → En → Mem → (En → Mem → Prop) → Prop} (h1 : PG X e (LG X.K s1 wt)) (h2 : PGs X es (LGs X.K s2 wr))
    (hs : (assignEach (e :: es) X.env).map (·.2) = assign e X.env :: (assignEach es X.env).map (·.2)) :
    PGs X (e :: es) (LGs X.K (s1 ++ s2) fun ds ρ M k => ∃ d r, ds = d :: r ∧ wt d ρ M fun ρ' M' => wr r ρ' M' k) := by
  refine pgs_imp (pgs_cons h1 h2 hs) ?_
  rintro vs σ H Q ⟨ds, ρ, M, k, r, hE, hM, ⟨d, rr, rfl, h⟩, P⟩
  obtain ⟨v, vr, rfl, rd, rs⟩ := r
  refine ⟨v, vr, rfl, d, ρ, M, _, rd, hE, hM, h, fun ρ1 M1 σ1 H1 hw1 st1 e1 m1 q1 => ?_⟩
  refine ⟨rr, ρ1, M1, _, rs.keep st1.keep, e1, m1, q1, fun ρ2 M2 σ2 H2 hw2 st2 e2 m2 q2 => ?_⟩
  exact P ρ2 M2 σ2 H2 (fun vs hv => (hw2 vs fun i hi => hv i (List.mem_append_right _ hi)).trans (hw1 vs fun i hi => hv i (List.mem_append_left _ hi))) (st1.trans st2) e2 m2 q2
theorem g_tup {sl : List Nat} {wr : List D → En → Mem → (En → Mem → Prop) → Prop} {k0 : Nat} {nn : Nat} (hc : X.calm = true) (h0 : PGs X es (LGs X.K sl wr)) (hn : (assignEach es X.env).length = nn) (hst : (assignEach es X.env).findIdx? (·.1) = none) :
    PG X (.Tuple es k0 pos) (LG X.K sl fun d ρ M k => ∃ ds, seqOf d M ds ∧ ds.length = nn ∧ wr ds ρ M k) := by
  have both : PG X (.Tuple es k0 pos) (fun v σ H Q => gTup X.K nn (LGs X.K sl wr) v σ H Q ∨ gLst X.K nn (LGs X.K sl wr) v σ H Q) :=
    ⟨fun pins s σ H v u Q I r h => h.elim (fun h => (pg_tup hc h0 hn hst).run pins s σ H v u Q I r h) fun h => (pg_lst hc h0 hn hst).run pins s σ H v u Q I r h⟩
  refine pg_imp both ?_
  rintro v σ H Q ⟨d, ρ, M, k, r, hE, hM, ⟨ds, hs, hw, h⟩, P⟩
  cases d with
  | tup es =>
    have hs : es = ds := hs
    subst hs
    obtain ⟨a, xs, rfl, hq, l, z⟩ := r
    exact .inl ⟨a, xs, rfl, hq, by rw [← l.length]; exact hw, es, ρ, M, k, l, hE, hM, h, P⟩
  | lst a =>
    have hs : M a = some ds := hs
    cases r
    obtain ⟨xs, hx, l, z⟩ := hM _ _ hs
    exact .inr ⟨a, xs, rfl, SqL.of hx, by rw [← l.length]; exact hw, ds, ρ, M, k, l, hE, hM, h, P⟩
  | _ => exact hs.elim
theorem g_ix {o i : Expr} {wo wi : En → Mem → K1 → Prop} (ho : PE X o (LE X.K wo)) (hi : PE X i (LE X.K wi)) (ha : ∀ v, assign (.Subscript o i pos) X.env v = (do
      let ov ← holding [v] (eval o X.env)
      let iv ← holding [v, ov] (eval i X.env)
      standAt pos
      holding [v, ov, iv] (setItem ov iv v)
      release [v, ov, iv] [])) : PG X (.Subscript o i pos) (LG X.K [] fun d ρ M k => wo ρ M fun x M1 => wi ρ M1 fun y M2 => setW x y d M2 fun M3 => k ρ M3) := by
  refine pg_imp (pg_sub ho hi set_ok ha) ?_
  rintro v σ H Q ⟨d, ρ, M, k, r, hE, hM, h, P⟩
  refine ⟨ρ, M, _, hE, hM, h, fun d1 M1 v1 H1 s1 r1 m1 q1 => ⟨ρ, M1, _, hE.keep s1.keep, m1, q1, fun d2 M2 v2 H2 s2 r2 m2 q2 => ?_⟩⟩
  refine ⟨d1, d2, d, M2, _, r1.keep s2.keep, r2, (r.keep s1.keep).keep s2.keep, m2, q2, fun M3 H3 s3 m3 q3 => ?_⟩
  exact P ρ M3 σ H3 (fun _ _ => rfl) ((s1.trans s2).trans s3) (((hE.keep s1.keep).keep s2.keep).keep s3.keep) m3 q3
end
end TB

namespace TB
open PySem PySem.Spec PyProof.Rows L2

/-! ### what a compiled expression's form is not -/
theorem cE_star {n : Nat} {C : Ct} {e : Expr} {ir : E} (h : cE n C e = some ir) : ∀ (es : List Expr) (env : Env), starEach (e :: es) env = (false, eval e env) :: starEach es env := by
  intro es env
  cases e <;> first | rfl | skip
  cases n <;> simp [cE] at h
theorem cE_plain {n : Nat} {C : Ct} {e : Expr} {ir : E} (h : cE n C e = some ir) : PlainIx e := by
  intro o i
  cases e <;> first | rfl | skip
  cases n <;> simp [cE] at h
theorem fold_of {e : Expr} (h : isSet e = false) (env : Env) : ∀ x, foldedSetIterable e env x = pure x := by
  intro x
  cases e <;> first | rfl | (simp [isSet] at h)
theorem behind_of {e : Expr} (op : CmpOp) (h : isSet e = false) : behindInMarks op e = false := by
  cases e <;> first | rfl | (simp [isSet] at h)
theorem last_of {b e : Expr} (o1 o2 : CmpOp) (h : isSet e = false) : lastMarks [o1, o2] [b, e] = false := by
  show behindInMarks o2 e = false
  exact behind_of o2 h
theorem last_of3 {b c e : Expr} (o1 o2 o3 : CmpOp) (h : isSet e = false) : lastMarks [o1, o2, o3] [b, c, e] = false := by
  show behindInMarks o3 e = false
  exact behind_of o3 h
theorem cE_asg {n : Nat} {C : Ct} {t : Expr} {ir : T} (h : cT n C t = some ir) : ∀ (ts : List Expr) (env : Env), assignEach (t :: ts) env = (false, assign t env) :: assignEach ts env := by
  intro ts env
  cases t <;> first | rfl | skip
  cases n <;> simp [cT] at h
theorem base_of {o : Expr} {m : Str} {env : Env} (h : isCall0 o = false) : attributeBase o m env (eval o env) = eval o env := by
  cases o <;> first | rfl | skip
  rename_i f es kws pos
  cases f <;> first | rfl | skip
  cases es <;> first | rfl | skip
  cases kws <;> first | rfl | skip
  simp [isCall0] at h
theorem bop_eq {op : Operator} {o : Bin} (h : bopOf op = some o) : op = o.op := by cases op <;> simp [bopOf] at h <;> subst h <;> rfl
theorem cop_eq {op : CmpOp} {o : Cm} (h : copOf op = some o) : op = o.op := by cases op <;> simp [copOf] at h <;> subst h <;> rfl
theorem isB_of {C : Ct} {x : Str} (h : C.isB x = true) : C.sc.names.lookup x = some .globalImplicit ∧ C.fns.lookup x = none ∧ C.cs.lookup x = none ∧ x ∈ bnames := by
  unfold Ct.isB Ct.isGl at h
  simp only [Bool.and_eq_true, Option.isNone_iff_eq_none, List.contains_iff_mem] at h
  exact ⟨by simpa using h.1.1.1, h.1.1.2, h.1.2, h.2⟩

section
variable {Γ : Gam} {C : Ct} {X : Cx}
theorem Ok.gl (o : Ok Γ C X) {x : Str} (h : C.sc.names.lookup x = some .globalImplicit) : Gl X x := by
  show X.env.scope.names.lookup x = _
  rw [o.sc]; exact h
theorem Ok.mgB (o : Ok Γ C X) {x : Str} (h : C.isB x = true) : Gl X x ∧ X.mg x = none := by
  obtain ⟨h1, h2, h3, h4⟩ := isB_of h
  exact ⟨o.gl h1, o.bl x h4 h2 h3⟩
end

theorem boot_names : bootBuiltins "len" = some (.builtin "len") ∧ bootBuiltins "abs" = some (.builtin "abs") ∧ bootBuiltins "tuple" = some (.type "tuple") ∧ bootBuiltins "list" = some (.type "list") ∧ bootBuiltins "all" = some (.builtin "all") ∧
    bootBuiltins "any" = some (.builtin "any") ∧ bootBuiltins "int" = some (.type "int") ∧ bootBuiltins "sum" = some (.builtin "sum") ∧ bootBuiltins "isinstance" = some (.builtin "isinstance") ∧ bootBuiltins "bool" = some (.type "bool") ∧ bootBuiltins "str" = some (.type "str") := by
  refine ⟨?_, ?_, ?_, ?_, ?_, ?_, ?_, ?_, ?_, ?_, ?_⟩ <;> decide +kernel

/-! ### the soundness of the translation -/
structure CompOk (X : Cx) (elt : Expr) (tg it : Expr) (ifs : List Expr) (scope : Scope) (wi : En → Mem → KI → Prop) (wt : D → En → Mem → (En → Mem → Prop) → Prop) (wc : En → Mem → (Bool → Mem → Prop) → Prop) (we : En → Mem → K1 → Prop) (own : List (Str × Nat)) (sl : List Nat) : Prop where
  pi : PI X tg it (LI X.K wi)
  blk : BlkOk X.N X.env.scope scope own
  pg : ∀ (s : Shared) (H : Hp) (C : Addr) (cl : List (Str × Addr)) (fp : List Addr), PG (X.blk s H scope (compEnvC scope cl C X.env) fp) tg (LG X.K sl wt)
  pt : ∀ (s : Shared) (H : Hp) (C : Addr) (cl : List (Str × Addr)) (fp : List Addr), PTs (X.blk s H scope (compEnvC scope cl C X.env) fp) ifs (LCd X.K wc)
  pe : ∀ (s : Shared) (H : Hp) (C : Addr) (cl : List (Str × Addr)) (fp : List Addr), PE (X.blk s H scope (compEnvC scope cl C X.env) fp) elt (LE X.K we)
  fold : ∀ x, foldedSetIterable it X.env x = pure x
  sl : ∀ i ∈ sl, i ∈ own.map (·.2)
theorem CompOk.val {X : Cx} {elt tg it : Expr} {ifs : List Expr} {scope : Scope} {wi : En → Mem → KI → Prop} {wt : D → En → Mem → (En → Mem → Prop) → Prop} {wc : En → Mem → (Bool → Mem → Prop) → Prop} {we : En → Mem → K1 → Prop} {own : List (Str × Nat)} {sl : List Nat} {pos : Pos}
    (h : CompOk X elt tg it ifs scope wi wt wc we own sl) (hc : X.calm = true) (hN : X.N.Nodup) : PE X (.ListComp elt [⟨tg, it, ifs, 0⟩] scope pos) (LE X.K (compW wi wt wc we (own.map (·.2)))) :=
  pe_imp (pe_lc hc hN h.pi h.blk h.pg h.pt h.pe h.fold) fun σ H Q hh => tLc_of h.sl hh

structure CompOk2 (X : Cx) (elt tg it : Expr) (ifs : List Expr) (tg1 it1 : Expr) (ifs1 : List Expr) (scope : Scope) (wi : En → Mem → KI → Prop) (wt : D → En → Mem → (En → Mem → Prop) → Prop) (wc : En → Mem → (Bool → Mem → Prop) → Prop) (wi1 : En → Mem → KI → Prop) (wt1 : D → En → Mem → (En → Mem → Prop) → Prop) (wc1 : En → Mem → (Bool → Mem → Prop) → Prop) (we : En → Mem → K1 → Prop) (own : List (Str × Nat)) (own1 sl : List Nat) : Prop where
  pi : PI X tg it (LI X.K wi)
  blk : BlkOk X.N X.env.scope scope own
  hv : ∀ i ∈ own1, i ∈ own.map (·.2)
  pg : ∀ (s : Shared) (H : Hp) (C : Addr) (cl : List (Str × Addr)) (fp : List Addr), PG (X.blk s H scope (compEnvC scope cl C X.env) fp) tg (LG X.K sl wt)
  pt : ∀ (s : Shared) (H : Hp) (C : Addr) (cl : List (Str × Addr)) (fp : List Addr), PTs (X.blk s H scope (compEnvC scope cl C X.env) fp) ifs (LCd X.K wc)
  pi1 : ∀ (s : Shared) (H : Hp) (C : Addr) (cl : List (Str × Addr)) (fp : List Addr), PI (X.blk s H scope (compEnvC scope cl C X.env) fp) tg1 it1 (LI X.K wi1)
  pg1 : ∀ (s : Shared) (H : Hp) (C : Addr) (cl : List (Str × Addr)) (fp : List Addr), PG (X.blk s H scope (compEnvC scope cl C X.env) fp) tg1 (LG X.K own1 wt1)
  pt1 : ∀ (s : Shared) (H : Hp) (C : Addr) (cl : List (Str × Addr)) (fp : List Addr), PTs (X.blk s H scope (compEnvC scope cl C X.env) fp) ifs1 (LCd X.K wc1)
  pe : ∀ (s : Shared) (H : Hp) (C : Addr) (cl : List (Str × Addr)) (fp : List Addr), PE (X.blk s H scope (compEnvC scope cl C X.env) fp) elt (LE X.K we)
  fold : ∀ x, foldedSetIterable it X.env x = pure x
  fold1 : ∀ env x, foldedSetIterable it1 env x = pure x
  sl : ∀ i ∈ sl, i ∈ own.map (·.2)
theorem CompOk2.val {X : Cx} {elt tg it : Expr} {ifs : List Expr} {tg1 it1 : Expr} {ifs1 : List Expr} {scope : Scope} {wi : En → Mem → KI → Prop} {wt : D → En → Mem → (En → Mem → Prop) → Prop} {wc : En → Mem → (Bool → Mem → Prop) → Prop} {wi1 : En → Mem → KI → Prop} {wt1 : D → En → Mem → (En → Mem → Prop) → Prop} {wc1 : En → Mem → (Bool → Mem → Prop) → Prop} {we : En → Mem → K1 → Prop} {own : List (Str × Nat)} {own1 sl : List Nat} {pos : Pos}
    (h : CompOk2 X elt tg it ifs tg1 it1 ifs1 scope wi wt wc wi1 wt1 wc1 we own own1 sl) (hc : X.calm = true) (hN : X.N.Nodup) : PE X (.ListComp elt [⟨tg, it, ifs, 0⟩, ⟨tg1, it1, ifs1, 0⟩] scope pos) (LE X.K (compW2 wi wt wc wi1 wt1 wc1 we (own.map (·.2)) own1)) :=
  pe_imp (pe_lc2 hc hN h.pi h.blk h.hv h.pg h.pt h.pi1 h.pg1 h.pt1 h.pe h.fold h.fold1) fun σ H Q hh => tLc2_of h.sl (fun _ hi => hi) hh

structure Sd (Γ : Gam) (n : Nat) : Prop where
  e : ∀ C e ir, cE n C e = some ir → ∀ X, Ok Γ C X → PE X e (LE X.K (wpE Γ ir)) ∧ PT X e (LT X.K (wpE Γ ir))
  es : ∀ C es ir, cEs n C es = some ir → ∀ X, Ok Γ C X → PA X es (LA X.K ir.len (wpEs Γ ir)) ∧ starEach es X.env = es.map (fun e => (false, eval e X.env)) ∧ ir.len = es.length
  b : ∀ C op es ir, cB n C op es = some ir → ∀ X, Ok Γ C X → ∀ pos, PE X (.BoolOp op es pos) (LE X.K (wpE Γ ir)) ∧ PW X (.BoolOp op es pos) (LT X.K (wpE Γ ir))
  o : ∀ C o ir, cO n C o = some ir → ∀ X, Ok Γ C X → PO X o (LO X.K (wpO Γ ir))
  c : ∀ C ifs ir, cC n C ifs = some ir → ∀ X, Ok Γ C X → PTs X ifs (LCd X.K (wpC Γ ir))
  t : ∀ C t ir, cT n C t = some ir → ∀ X, Ok Γ C X → PG X t (LG X.K ir.slots (wpT Γ ir))
  ts : ∀ C ts ir, cTs n C ts = some ir → ∀ X, Ok Γ C X → PGs X ts (LGs X.K ir.slots (wpTs Γ ir)) ∧ (assignEach ts X.env).findIdx? (·.1) = none ∧ (assignEach ts X.env).length = ts.length ∧ ir.len = ts.length
  i : ∀ C tg it ir, cI n C tg it = some ir → ∀ X, Ok Γ C X → PI X tg it (LI X.K (wpI Γ ir)) ∧ (∀ x, foldedSetIterable it X.env x = pure x)
  cm : ∀ C elt gs scope pos ir, cE n C (.ListComp elt gs scope pos) = some ir → ∀ X, Ok Γ C X → (∃ tg it ifs wi wt wc we own sl, gs = [⟨tg, it, ifs, 0⟩] ∧ CompOk X elt tg it ifs scope wi wt wc we own sl ∧ (wpE Γ ir = compW wi wt wc we (own.map (·.2)))) ∨ (∃ tg it ifs tg1 it1 ifs1 wi wt wc wi1 wt1 wc1 we own own1 sl, gs = [⟨tg, it, ifs, 0⟩, ⟨tg1, it1, ifs1, 0⟩] ∧ CompOk2 X elt tg it ifs tg1 it1 ifs1 scope wi wt wc wi1 wt1 wc1 we own own1 sl ∧ (wpE Γ ir = compW2 wi wt wc wi1 wt1 wc1 we (own.map (·.2)) own1))

theorem sd_zero {Γ : Gam} : Sd Γ 0 where
  e := fun C e ir h => by simp [cE] at h
  es := fun C e ir h => by simp [cEs] at h
  b := fun C op e ir h => by simp [cB] at h
  o := fun C e ir h => by simp [cO] at h
  c := fun C e ir h => by simp [cC] at h
  t := fun C e ir h => by simp [cT] at h
  ts := fun C e ir h => by simp [cTs] at h
  i := fun C t e ir h => by simp [cI] at h
  cm := fun C a b c d ir h => by simp [cE] at h

section
variable {Γ : Gam} {n : Nat}
theorem sd_es (ih : Sd Γ n) : ∀ C es ir, cEs (n + 1) C es = some ir → ∀ X, Ok Γ C X → PA X es (LA X.K ir.len (wpEs Γ ir)) ∧ starEach es X.env = es.map (fun e => (false, eval e X.env)) ∧ ir.len = es.length := by
  intro C es ir h X o
  cases es with
  | nil =>
    simp only [cEs, Option.some.injEq] at h
    subst h
    exact ⟨a_nil, rfl, rfl⟩
  | cons e es =>
    simp only [cEs, Option.bind_eq_bind, Option.bind_eq_some_iff, Option.some.injEq] at h
    obtain ⟨a, ha, r, hr, rfl⟩ := h
    obtain ⟨p1, _⟩ := ih.e C e a ha X o
    obtain ⟨p2, p3, p4⟩ := ih.es C es r hr X o
    have st := cE_star ha es X.env
    exact ⟨a_cons p1 p2 st, by rw [st, p3]; rfl, by simp [Es.len, p4]⟩
theorem sd_b (ih : Sd Γ n) : ∀ C op es ir, cB (n + 1) C op es = some ir → ∀ X, Ok Γ C X → ∀ pos, PE X (.BoolOp op es pos) (LE X.K (wpE Γ ir)) ∧ PW X (.BoolOp op es pos) (LT X.K (wpE Γ ir)) := by
  intro C op es ir h X o pos
  match es with
  | [] => simp [cB] at h
  | [e] =>
    simp only [cB] at h
    obtain ⟨p1, p2⟩ := ih.e C e ir h X o
    refine ⟨pe_one p1, ?_⟩
    cases op with
    | And => exact pw_and1 p2
    | Or => exact pw_or1 p2
  | e :: e2 :: es =>
    simp only [cB, Option.bind_eq_bind, Option.bind_eq_some_iff] at h
    obtain ⟨a, ha, r, hr, h⟩ := h
    obtain ⟨p1, p2⟩ := ih.e C e a ha X o
    obtain ⟨p3, p4⟩ := ih.b C op (e2 :: es) r hr X o pos
    cases op with
    | And =>
      simp only [Option.some.injEq] at h
      subst h
      exact ⟨s_and p1 p3, t_and p2 p4⟩
    | Or =>
      simp only [Option.some.injEq] at h
      subst h
      exact ⟨s_or p1 p3, t_or p2 p4⟩
theorem sd_o (ih : Sd Γ n) : ∀ C o ir, cO (n + 1) C o = some ir → ∀ X, Ok Γ C X → PO X o (LO X.K (wpO Γ ir)) := by
  intro C e ir h X o
  cases e with
  | none =>
    simp only [cO, Option.some.injEq] at h
    subst h
    exact o_no
  | some e =>
    simp only [cO, Option.map_eq_some_iff] at h
    obtain ⟨a, ha, rfl⟩ := h
    exact o_yes (ih.e C e a ha X o).1
theorem pts_imp {X : Cx} {ifs : List Expr} {t t' : TT} (h : PTs X ifs t) (f : ∀ σ H Q, t' σ H Q → t σ H Q) : PTs X ifs t' := ⟨fun pins s σ H Q I hw => h.run pins s σ H Q I (f σ H Q hw)⟩
theorem sd_c (ih : Sd Γ n) : ∀ C ifs ir, cC (n + 1) C ifs = some ir → ∀ X, Ok Γ C X → PTs X ifs (LCd X.K (wpC Γ ir)) := by
  intro C ifs ir h X o
  match ifs with
  | [] =>
    simp only [cC, Option.some.injEq] at h
    subst h
    refine pts_imp pts_nil ?_
    rintro σ H Q ⟨ρ, M, q, hE, hM, h, k⟩
    exact k true M H .refl hM h
  | [e] =>
    simp only [cC, Option.map_eq_some_iff] at h
    obtain ⟨a, ha, rfl⟩ := h
    refine pts_imp (pts_one (ih.e C e a ha X o).2) ?_
    rintro σ H Q ⟨ρ, M, q, hE, hM, h, k⟩
    exact ⟨ρ, M, _, hE, hM, h, fun d M' v H' s r m ⟨b, e, z⟩ => ⟨b, e, k b M' H' s m z⟩⟩
  | _ :: _ :: _ => simp [cC] at h
theorem sd_t (ih : Sd Γ n) : ∀ C t ir, cT (n + 1) C t = some ir → ∀ X, Ok Γ C X → PG X t (LG X.K ir.slots (wpT Γ ir)) := by
  intro C t ir h X o
  have nd : X.N.Nodup := by rw [o.hN]; exact o.nd
  cases t with
  | Name x pos =>
    simp only [cT] at h
    split at h
    · rename_i hl
      simp only [Option.map_eq_some_iff] at h
      obtain ⟨i, hi, rfl⟩ := h
      have hl' : X.env.scope.names.lookup x = some .local := by rw [o.sc]; exact hl
      exact g_nm nd (by rw [o.hN]; exact findIx_get hi) (.inl hl') (.inr hl')
    · rename_i hl
      split at h
      · rename_i hf
        simp only [Option.map_eq_some_iff] at h
        obtain ⟨i, hi, rfl⟩ := h
        have hl' : X.env.scope.names.lookup x = some .cell := by rw [o.sc]; exact hl
        exact g_nm nd (by rw [o.hN]; exact findIx_get hi) (.inr hl') (.inl (o.fn x hf))
      · cases h
    · cases h
  | Tuple ts k pos =>
    simp only [cT, Option.map_eq_some_iff] at h
    obtain ⟨a, ha, rfl⟩ := h
    obtain ⟨p1, p2, p3, p4⟩ := ih.ts C ts a ha X o
    exact g_tup o.calm p1 (p3.trans p4.symm) p2
  | Subscript a i pos =>
    simp only [cT] at h
    split at h
    · cases h
    · rename_i hs
      simp only [Option.bind_eq_bind, Option.bind_eq_some_iff, Option.some.injEq] at h
      obtain ⟨a', ha, i', hi, rfl⟩ := h
      exact g_ix (ih.e C a a' ha X o).1 (ih.e C i i' hi X o).1 (by intro _; cases i <;> first | rfl | (simp [isSlice] at hs))
  | _ => simp [cT] at h
theorem sd_ts (ih : Sd Γ n) : ∀ C ts ir, cTs (n + 1) C ts = some ir → ∀ X, Ok Γ C X → PGs X ts (LGs X.K ir.slots (wpTs Γ ir)) ∧ (assignEach ts X.env).findIdx? (·.1) = none ∧ (assignEach ts X.env).length = ts.length ∧ ir.len = ts.length := by
  intro C ts ir h X o
  cases ts with
  | nil =>
    simp only [cTs, Option.some.injEq] at h
    subst h
    exact ⟨gs_nil, rfl, rfl, rfl⟩
  | cons t ts =>
    simp only [cTs, Option.bind_eq_bind, Option.bind_eq_some_iff, Option.some.injEq] at h
    obtain ⟨a, ha, r, hr, rfl⟩ := h
    have p1 := ih.t C t a ha X o
    obtain ⟨p2, p3, p4, p5⟩ := ih.ts C ts r hr X o
    have st := cE_asg ha ts X.env
    exact ⟨gs_cons p1 p2 (by rw [st]; rfl), by rw [st, List.findIdx?_cons, p3]; rfl, by rw [st]; simp [p4], by simp [Ts.len, p5]⟩
theorem zipArgs_some {C : Ct} {a : Expr} {uv : Expr × Expr} (h : zipArgs C a = some uv) : ∃ p q, C.isB "zip" = true ∧ a = .Call (.Name "zip" p) [uv.1, uv.2] [] q := by
  unfold zipArgs at h
  split at h
  · split at h
    · rename_i hh
      obtain ⟨rfl, hB⟩ := hh
      cases h
      exact ⟨_, _, hB, rfl⟩
    · cases h
  · cases h
theorem sd_i (ih : Sd Γ n) : ∀ C tg it ir, cI (n + 1) C tg it = some ir → ∀ X, Ok Γ C X → PI X tg it (LI X.K (wpI Γ ir)) ∧ (∀ x, foldedSetIterable it X.env x = pure x) := by
  intro C tg it ir h X o
  have plain : ∀ {e : Expr} {ir : I}, isSet e = false → (cE n C e).map I.seq = some ir → PI X tg e (LI X.K (wpI Γ ir)) ∧ (∀ x, foldedSetIterable e X.env x = pure x) := fun {e ir} hs h => by
    simp only [Option.map_eq_some_iff] at h
    obtain ⟨a, ha, rfl⟩ := h
    exact ⟨pi_seqE (ih.e C e a ha X o).1, fold_of hs X.env⟩
  unfold cI at h
  split at h
  · rename_i x p es q
    split at h
    · rename_i hB
      obtain ⟨hg, hm⟩ := o.mgB hB
      refine ⟨?_, fold_of rfl X.env⟩
      split at h
      · rename_i ex
        subst ex
        split at h
        · simp only [Option.map_eq_some_iff] at h
          obtain ⟨a, ha, rfl⟩ := h
          exact i_rng1 hg hm (ih.e C _ a ha X o).1 (cE_star ha [] X.env)
        · simp only [Option.bind_eq_bind, Option.bind_eq_some_iff, Option.some.injEq] at h
          obtain ⟨a, ha, b, hb, rfl⟩ := h
          exact i_rng2 hg hm (ih.e C _ a ha X o).1 (ih.e C _ b hb X o).1 (by rw [cE_star ha, cE_star hb]; rfl) (cE_star hb [] X.env)
        · cases h
      · split at h
        · rename_i _ ex
          subst ex
          split at h
          · rename_i ht
            cases tg <;> first | (simp [isTupE] at ht; done) | skip
            split at h
            · split at h
              · rename_i uv hz
                obtain ⟨pz, qz, hBz, rfl⟩ := zipArgs_some hz
                obtain ⟨hg2, hm2⟩ := o.mgB hBz
                simp only [Option.bind_eq_bind, Option.bind_eq_some_iff, Option.some.injEq] at h
                obtain ⟨a, ha, b, hb, rfl⟩ := h
                exact i_ezip hg hm hg2 hm2 (ih.e C _ a ha X o).1 (ih.e C _ b hb X o).1 (by rw [cE_star ha, cE_star hb]; rfl) (cE_star hb [] X.env) rfl
              · simp only [Option.map_eq_some_iff] at h
                obtain ⟨a, ha, rfl⟩ := h
                exact i_enum hg hm (ih.e C _ a ha X o).1 (cE_star ha [] X.env)
            · cases h
          · cases h
        · split at h
          · rename_i _ _ ex
            subst ex
            split at h
            · rename_i ht
              cases tg <;> first | (simp [isTupE] at ht; done) | skip
              split at h
              · simp only [Option.bind_eq_bind, Option.bind_eq_some_iff, Option.some.injEq] at h
                obtain ⟨a, ha, b, hb, rfl⟩ := h
                exact i_zip hg hm (ih.e C _ a ha X o).1 (ih.e C _ b hb X o).1 (by rw [cE_star ha, cE_star hb]; rfl) (cE_star hb [] X.env)
              · cases h
            · cases h
          · exact (plain rfl h).1
    · exact plain rfl h
  · split at h
    · cases h
    · rename_i hs
      exact plain (by simpa using hs) h
theorem sd_cm (ih : Sd Γ n) : ∀ C elt gs scope pos ir, cE (n + 1) C (.ListComp elt gs scope pos) = some ir → ∀ X, Ok Γ C X → (∃ tg it ifs wi wt wc we own sl, gs = [⟨tg, it, ifs, 0⟩] ∧ CompOk X elt tg it ifs scope wi wt wc we own sl ∧ (wpE Γ ir = compW wi wt wc we (own.map (·.2)))) ∨ (∃ tg it ifs tg1 it1 ifs1 wi wt wc wi1 wt1 wc1 we own own1 sl, gs = [⟨tg, it, ifs, 0⟩, ⟨tg1, it1, ifs1, 0⟩] ∧ CompOk2 X elt tg it ifs tg1 it1 ifs1 scope wi wt wc wi1 wt1 wc1 we own own1 sl ∧ (wpE Γ ir = compW2 wi wt wc wi1 wt1 wc1 we (own.map (·.2)) own1)) := by
  intro C elt gs scope pos ir h X o
  simp only [cE] at h
  split at h
  · rename_i tg it ifs asy
    split at h
    · rename_i hc
      obtain ⟨rfl, hb⟩ := hc
      simp only [Option.bind_eq_bind, Option.bind_eq_some_iff] at h
      obtain ⟨i, hi, t, ht, c, hcc, e, he, h⟩ := h
      split at h
      · rename_i hsl
        simp only [Option.some.injEq] at h
        subst h
        obtain ⟨p1, p2⟩ := ih.i C tg it i hi X o
        refine .inl ⟨tg, it, ifs, wpI Γ i, wpT Γ t, wpC Γ c, wpE Γ e, ownOf C.N scope.names, t.slots, rfl, ⟨p1, ?_, ?_, ?_, ?_, p2, ?_⟩, rfl⟩
        · rw [o.hN, o.sc]; exact blkOk_by hb
        · intro s H A cl fp
          exact ih.t _ tg t ht _ (o.blk scope s H cl A fp)
        · intro s H A cl fp
          exact ih.c _ ifs c hcc _ (o.blk scope s H cl A fp)
        · intro s H A cl fp
          exact (ih.e _ elt e he _ (o.blk scope s H cl A fp)).1
        · intro j hj
          have := List.all_eq_true.mp hsl j hj
          simpa [List.contains_iff_mem] using this
      · cases h
    · cases h
  · rename_i tg it ifs asy tg1 it1 ifs1 asy1
    split at h
    · rename_i hc
      obtain ⟨rfl, rfl, hset, hb⟩ := hc
      simp only [Option.bind_eq_bind, Option.bind_eq_some_iff] at h
      obtain ⟨i, hi, t, ht, c, hcc, i1, hi1, t1, ht1, c1, hc1, e, he, h⟩ := h
      split at h
      · rename_i hsl
        simp only [Option.some.injEq] at h
        subst h
        rw [Bool.and_eq_true] at hsl
        obtain ⟨hsl, hsl1⟩ := hsl
        obtain ⟨p1, p2⟩ := ih.i C tg it i hi X o
        refine .inr ⟨tg, it, ifs, tg1, it1, ifs1, wpI Γ i, wpT Γ t, wpC Γ c, wpI Γ i1, wpT Γ t1, wpC Γ c1, wpE Γ e, ownOf C.N scope.names, t1.slots, t.slots, rfl, ⟨p1, ?_, ?_, ?_, ?_, ?_, ?_, ?_, ?_, p2, fold_of hset, ?_⟩, rfl⟩
        · rw [o.hN, o.sc]; exact blkOk_by hb
        · intro j hj
          have := List.all_eq_true.mp hsl1 j hj
          simpa [List.contains_iff_mem] using this
        · intro s H A cl fp
          exact ih.t _ tg t ht _ (o.blk scope s H cl A fp)
        · intro s H A cl fp
          exact ih.c _ ifs c hcc _ (o.blk scope s H cl A fp)
        · intro s H A cl fp
          exact (ih.i _ tg1 it1 i1 hi1 _ (o.blk scope s H cl A fp)).1
        · intro s H A cl fp
          exact ih.t _ tg1 t1 ht1 _ (o.blk scope s H cl A fp)
        · intro s H A cl fp
          exact ih.c _ ifs1 c1 hc1 _ (o.blk scope s H cl A fp)
        · intro s H A cl fp
          exact (ih.e _ elt e he _ (o.blk scope s H cl A fp)).1
        · intro j hj
          have := List.all_eq_true.mp hsl j hj
          simpa [List.contains_iff_mem] using this
      · cases h
    · cases h
  · cases h
end
end TB

namespace TB
open PySem PySem.Spec PyProof.Rows L2

section
variable {Γ : Gam} {n : Nat}
theorem both {X : Cx} {e : Expr} {w : En → Mem → K1 → Prop} (h : PE X e (LE X.K w)) (he : ∀ whole, isTrue e X.env whole = (do let v ← whole; standAt e.pos; holding [v] (truthy v))) : PE X e (LE X.K w) ∧ PT X e (LT X.K w) := ⟨h, t_any h he⟩
theorem s_cst {X : Cx} {e : Expr} {d : D} {v : V} (h : PE X e (tC v)) (r : ∀ H, Rep X.K H d v) : PE X e (LE X.K fun ρ M q => q d M) := by
  refine pe_imp h ?_
  rintro σ H Q ⟨ρ, M, q, hE, hM, h, k⟩
  exact k d M v H .refl (r H) hM h
theorem s_var {X : Cx} {e : Expr} {i : Nat} (h : PE X e (tVar i)) : PE X e (LE X.K fun ρ M q => ∃ d, get ρ i = some d ∧ q d M) := by
  refine pe_imp h ?_
  rintro σ H Q ⟨ρ, M, q, hE, hM, ⟨d, e, h⟩, k⟩
  obtain ⟨v, h1, r⟩ := hE.2 i d e
  exact ⟨v, h1, k d M v H .refl r hM h⟩
theorem e_name (ih : Sd Γ n) : ∀ C x pos ir, cE (n + 1) C (.Name x pos) = some ir → ∀ X, Ok Γ C X → PE X (.Name x pos) (LE X.K (wpE Γ ir)) := by
  intro C x pos ir h X o
  simp only [cE] at h
  split at h
  · cases h
  · rename_i hd
    simp only [Bool.or_eq_true, not_or, Bool.not_eq_true] at hd
    have var : ∀ {k : NameKind}, C.sc.names.lookup x = some k → (k = .local ∨ k = .cell ∨ k = .free) → Option.map E.var (findIx C.N x) = some ir → PE X (.Name x pos) (LE X.K (wpE Γ ir)) := fun {k} hl hk h => by
      simp only [Option.map_eq_some_iff] at h
      obtain ⟨i, hi, rfl⟩ := h
      have hl' : X.env.scope.names.lookup x = some k := by rw [o.sc]; exact hl
      refine s_var (pe_var (by rw [o.hN]; exact findIx_get hi) ?_ hd.1 hd.2)
      rcases hk with rfl | rfl | rfl
      · exact .inl hl'
      · exact .inr (.inl hl')
      · exact .inr (.inr hl')
    split at h
    · rename_i hl; exact var hl (.inl rfl) h
    · rename_i hl; exact var hl (.inr (.inl rfl)) h
    · rename_i hl; exact var hl (.inr (.inr rfl)) h
    · rename_i hl
      simp only [Option.map_eq_some_iff] at h
      obtain ⟨d, hdd, rfl⟩ := h
      obtain ⟨u, v, h1, h2, h3⟩ := o.cs x d hdd
      exact s_cst (pe_glob (o.gl hl) h1 h2 hd.1) h3
    · cases h
theorem mf_spec {X : Cx} (hu : X.A.units + 65 < cLine) {m : Str} {k : Nat} {m' : Mf} (h : mfOf m k = some m') : ∃ id, Slot "list" m id ∧ typeOf (.builtin id) = pure (.type "method_descriptor") ∧ MtR X id (LM X.K (mthW m')) := by
  unfold mfOf at h
  split at h
  · rename_i e; subst e; cases h; exact ⟨_, PySem.F.slot_list_append, PySem.F.type_list_append, m_append⟩
  · split at h
    · rename_i e; subst e; cases h; exact ⟨_, PySem.F.slot_list_insert, PySem.F.type_list_insert, m_insert⟩
    · split at h
      · rename_i e
        subst e
        split at h
        · cases h; exact ⟨_, PySem.F.slot_list_pop, PySem.F.type_list_pop, m_pop⟩
        · cases h; exact ⟨_, PySem.F.slot_list_pop, PySem.F.type_list_pop, m_popAt⟩
      · split at h
        · rename_i e; subst e; cases h; exact ⟨_, PySem.F.slot_list_extend, PySem.F.type_list_extend, m_extend⟩
        · split at h
          · rename_i e; subst e; cases h; exact ⟨_, PySem.F.slot_list_index, PySem.F.type_list_index, m_index hu⟩
          · cases h
theorem boot_sorted : bootBuiltins "sorted" = some (.builtin "sorted") := by decide +kernel
theorem boot_min : bootBuiltins "min" = some (.builtin "min") := by decide +kernel
theorem boot_max : bootBuiltins "max" = some (.builtin "max") := by decide +kernel
theorem boot_set2 : bootBuiltins "set" = some (.type "set") := by decide +kernel
theorem isBack_eq {lo hi st : Option Expr} (h : isBack lo hi st = true) : lo = none ∧ hi = none ∧ ∃ k p1 p2, st = some (.UnaryOp .USub (.Constant (.int 1) k p1) p2) := by
  unfold isBack at h
  split at h
  · exact ⟨rfl, rfl, _, _, _, rfl⟩
  · cases h
theorem e_call (ih : Sd Γ n) : ∀ C f es kws pos ir, cE (n + 1) C (.Call f es kws pos) = some ir → ∀ X, Ok Γ C X → PE X (.Call f es kws pos) (LE X.K (wpE Γ ir)) := by
  intro C f es kws pos ir h X o
  simp only [cE] at h
  split at h
  · cases h
  · split at h
    · rename_i x p
      split at h
      · cases h
      · rename_i hd
        simp only [Bool.or_eq_true, not_or, Bool.not_eq_true] at hd
        split at h
        · rename_i hgl
          have hgl' : C.sc.names.lookup x = some .globalImplicit := by simpa [Ct.isGl] using hgl
          split at h
          · rename_i g ar hf
            split at h
            · rename_i hlen
              have hlen : es.length = ar := by simpa using hlen
              simp only [Option.map_eq_some_iff] at h
              obtain ⟨irs, hr, rfl⟩ := h
              obtain ⟨f, fd, ps, k, a1, a2, a3, a4, a5, a6⟩ := o.fns x g ar hf
              obtain ⟨p1, p2, p3⟩ := ih.es C es irs hr X o
              cases es with
              | nil =>
                have e0 : irs = .nil := by cases irs with | nil => rfl | cons _ _ => simp [Es.len] at p3
                subst e0
                have e1 : ar = 0 := hlen.symm
                subst e1
                exact s_call0 a3 a5 (o.gl hgl') a1 a2 a4 hd.1
              | cons e0 es0 =>
                rw [p3, hlen] at p1
                exact s_call a3 a5 (o.gl hgl') a1 a2 a4 p1 hd.1 p2
            · cases h
          · split at h
            · rename_i hB
              obtain ⟨hg, hm⟩ := o.mgB hB
              have hn : x ≠ "__name__" := by
                have := hd.2
                intro e; subst e; simp at this
              have bn := boot_names
              split at h
              · rename_i ex
                subst ex
                split at h
                · rename_i a t pt
                  split at h
                  · rename_i hBt
                    simp only [Option.bind_eq_bind, Option.bind_eq_some_iff, Option.some.injEq] at h
                    obtain ⟨a', ha, t', ht, rfl⟩ := h
                    obtain ⟨hg2, hm2⟩ := o.mgB hBt
                    have key : bootBuiltins t = some (.type t'.nm) ∧ t ≠ "__name__" ∧ (t == ("__debug__" : Str)) = false := by
                      unfold tyOf at ht
                      repeat' split at ht
                      all_goals first | (cases ht; done) | skip
                      all_goals (rename_i et; subst et; cases ht)
                      · exact ⟨bn.2.2.2.2.2.2.1, by decide, by decide⟩
                      · exact ⟨bn.2.2.2.2.2.2.2.2.2.1, by decide, by decide⟩
                      · exact ⟨bn.2.2.2.2.2.2.2.2.2.2, by decide, by decide⟩
                      · exact ⟨bn.2.2.1, by decide, by decide⟩
                      · exact ⟨bn.2.2.2.1, by decide, by decide⟩
                    exact s_isT hg hm bn.2.2.2.2.2.2.2.2.1 hn hd.1 hg2 hm2 key.1 key.2.1 key.2.2 (ih.e C a a' ha X o).1 (by rw [cE_star ha]; rfl)
                  · cases h
                · cases h
              · split at h
                · rename_i ex
                  subst ex
                  split at h
                  · rename_i y py es2 pq
                    split at h
                    · rename_i hBy
                      simp only [Bool.and_eq_true, beq_iff_eq] at hBy
                      obtain ⟨hBy, ey⟩ := hBy
                      subst ey
                      split at h
                      · rename_i a
                        simp only [Option.bind_eq_bind, Option.bind_eq_some_iff, Option.some.injEq] at h
                        obtain ⟨a', ha, rfl⟩ := h
                        obtain ⟨hg2, hm2⟩ := o.mgB hBy
                        exact s_sset o.calm hg hm boot_sorted hn hd.1 hg2 hm2 boot_set2 (by decide) (by decide) (ih.e C a a' ha X o).1 (cE_star ha [] X.env)
                      · cases h
                    · cases h
                  · rename_i a _
                    simp only [Option.bind_eq_bind, Option.bind_eq_some_iff, Option.some.injEq] at h
                    obtain ⟨a', ha, rfl⟩ := h
                    exact s_bfn bf_srt hg hm boot_sorted hn hd.1 (ih.e C a a' ha X o).1 (cE_star ha [] X.env)
                  · cases h
                · split at h
                  · rename_i a
                    simp only [Option.bind_eq_bind, Option.bind_eq_some_iff, Option.some.injEq] at h
                    obtain ⟨a', ha, b, hb, rfl⟩ := h
                    have pa := (ih.e C a a' ha X o).1
                    have st := cE_star ha [] X.env
                    unfold bfOf at hb
                    repeat' split at hb
                    all_goals first | (cases hb; done) | skip
                    all_goals (rename_i ex; subst ex; cases hb)
                    · exact s_bfn bf_len hg hm bn.1 hn hd.1 pa st
                    · exact s_bfn bf_abs hg hm bn.2.1 hn hd.1 pa st
                    · exact s_bfnT bf_tuple hg hm bn.2.2.1 hn hd.1 pa st
                    · exact s_bfnT bf_list hg hm bn.2.2.2.1 hn hd.1 pa st
                    · exact s_bfn (bf_all o.calm) hg hm bn.2.2.2.2.1 hn hd.1 pa st
                    · exact s_bfn (bf_any o.calm) hg hm bn.2.2.2.2.2.1 hn hd.1 pa st
                    · exact s_bfnT bf_int hg hm bn.2.2.2.2.2.2.1 hn hd.1 pa st
                    · exact s_bfn (bf_sum o.calm) hg hm bn.2.2.2.2.2.2.2.1 hn hd.1 pa st
                    · exact s_bfnT bf_str hg hm bn.2.2.2.2.2.2.2.2.2.2 hn hd.1 pa st
                    · exact s_bfn (bf_min o.calm) hg hm boot_min hn hd.1 pa st
                    · exact s_bfn (bf_max o.calm) hg hm boot_max hn hd.1 pa st
                  · rename_i a b
                    split at h
                    · rename_i ex
                      subst ex
                      simp only [Option.bind_eq_bind, Option.bind_eq_some_iff, Option.some.injEq] at h
                      obtain ⟨a', ha, b', hb, rfl⟩ := h
                      exact s_bfn2 (bf_min o.calm) hg hm boot_min hn hd.1 (ih.e C a a' ha X o).1 (ih.e C b b' hb X o).1 (by rw [cE_star ha, cE_star hb]) (cE_star hb [] X.env)
                    · split at h
                      · rename_i ex
                        subst ex
                        simp only [Option.bind_eq_bind, Option.bind_eq_some_iff, Option.some.injEq] at h
                        obtain ⟨a', ha, b', hb, rfl⟩ := h
                        exact s_bfn2 (bf_max o.calm) hg hm boot_max hn hd.1 (ih.e C a a' ha X o).1 (ih.e C b b' hb X o).1 (by rw [cE_star ha, cE_star hb]) (cE_star hb [] X.env)
                      · cases h
                  · cases h
            · cases h
        · cases h
    · rename_i ob m ap
      split at h
      · simp only [Option.some.injEq] at h
        subst h
        refine ⟨fun pins s σ H Q I hh => ?_⟩
        obtain ⟨ρ, M, q, hE, hM, hw, k⟩ := hh
        simp only [wpE] at hw
      split at h
      · cases h
      · rename_i hc
        simp only [Bool.or_eq_true, not_or, Bool.not_eq_true, Bool.not_eq_true', Bool.not_eq_false, Bool.not_eq_eq_eq_not, Bool.not_true, decide_eq_false_iff_not, Decidable.not_not] at hc
        obtain ⟨⟨hc0, hline⟩, hlen⟩ := hc
        simp only [Option.bind_eq_bind, Option.bind_eq_some_iff, Option.some.injEq] at h
        obtain ⟨o', ho, m', hm, irs, hr, rfl⟩ := h
        obtain ⟨p1, p2, p3⟩ := ih.es C es irs hr X o
        have po := (ih.e C ob o' ho X o).1
        have hb := base_of (m := m) (env := X.env) hc0
        have hline' : (ap.endLine == pos.line) = true := by simpa using hline
        obtain ⟨id, sl, ty, mr⟩ := mf_spec (X := X) (by have := o.un; omega) hm
        cases es with
        | nil =>
          have e0 : irs = .nil := by cases irs with | nil => rfl | cons _ _ => simp [Es.len] at p3
          subst e0
          exact s_mth0 PySem.F.plainAttrs_list sl ty mr po hb hline'
        | cons e1 es1 =>
          exact s_mth PySem.F.plainAttrs_list sl ty mr po p1 p2 hb hline' hlen
    · cases h
theorem sd_e (ih : Sd Γ n) : ∀ C e ir, cE (n + 1) C e = some ir → ∀ X, Ok Γ C X → PE X e (LE X.K (wpE Γ ir)) ∧ PT X e (LT X.K (wpE Γ ir)) := by
  intro C e ir h X o
  cases e with
  | Constant c k pos =>
    cases c with
    | int i => simp only [cE, Option.some.injEq] at h; subst h; exact both (s_cst (d := .int i) pe_int fun _ => rfl) fun _ => rfl
    | bool b => simp only [cE, Option.some.injEq] at h; subst h; exact both (s_cst (d := .bl b) pe_bl fun _ => rfl) fun _ => rfl
    | none => simp only [cE, Option.some.injEq] at h; subst h; exact both (s_cst (d := .non) pe_non fun _ => rfl) fun _ => rfl
    | str x => simp only [cE, Option.some.injEq] at h; subst h; exact both (s_cst (d := .str x) pe_str fun _ => rfl) fun _ => rfl
    | _ => simp [cE] at h
  | Name x pos => exact both (e_name ih C x pos ir h X o) fun _ => rfl
  | BinOp a op b pos =>
    simp only [cE, Option.bind_eq_bind, Option.bind_eq_some_iff, Option.some.injEq] at h
    obtain ⟨a', ha, b', hb, o', ho, rfl⟩ := h
    rw [bop_eq ho]
    exact both (s_bin o' (ih.e C a a' ha X o).1 (ih.e C b b' hb X o).1) fun _ => rfl
  | UnaryOp op a pos =>
    cases op with
    | USub =>
      simp only [cE, Option.map_eq_some_iff] at h
      obtain ⟨a', ha, rfl⟩ := h
      exact both (s_neg (ih.e C a a' ha X o).1) fun _ => rfl
    | Not =>
      simp only [cE, Option.map_eq_some_iff] at h
      obtain ⟨a', ha, rfl⟩ := h
      exact ⟨s_not (ih.e C a a' ha X o).1, t_not (ih.e C a a' ha X o).2⟩
    | _ => simp [cE] at h
  | BoolOp op es pos =>
    simp only [cE] at h
    obtain ⟨p1, p2⟩ := ih.b C op es ir h X o pos
    exact ⟨p1, p2.pt⟩
  | Compare a ops bs pos =>
    simp only [cE] at h
    split at h
    · split at h
      · cases h
      · rename_i hs
        simp only [Option.bind_eq_bind, Option.bind_eq_some_iff, Option.some.injEq] at h
        obtain ⟨a', ha, b', hb, o', ho, rfl⟩ := h
        rw [cop_eq ho]
        have hm := behind_of o'.op (by simpa using hs)
        exact ⟨s_cmp o.un o' hm (ih.e C _ a' ha X o).1 (ih.e C _ b' hb X o).1, t_cmp o.un o' hm (ih.e C _ a' ha X o).1 (ih.e C _ b' hb X o).1⟩
    · split at h
      · cases h
      · rename_i hs
        simp only [Option.bind_eq_bind, Option.bind_eq_some_iff, Option.some.injEq] at h
        obtain ⟨a', ha, b', hb, c', hc, o', ho, o2, ho2, rfl⟩ := h
        rw [cop_eq ho, cop_eq ho2]
        rw [Bool.not_eq_true] at hs
        exact ⟨s_chn o.un o' o2 (last_of _ _ hs) (ih.e C _ a' ha X o).1 (ih.e C _ b' hb X o).1 (ih.e C _ c' hc X o).1, t_chn o.un o' o2 (last_of _ _ hs) (ih.e C _ a' ha X o).1 (ih.e C _ b' hb X o).1 (ih.e C _ c' hc X o).1⟩
    · split at h
      · cases h
      · rename_i hs
        simp only [Option.bind_eq_bind, Option.bind_eq_some_iff, Option.some.injEq] at h
        obtain ⟨a', ha, b', hb, c', hc, d', hd, o', ho, o2, ho2, o3, ho3, rfl⟩ := h
        rw [cop_eq ho, cop_eq ho2, cop_eq ho3]
        rw [Bool.not_eq_true] at hs
        exact ⟨s_chn3 o.un o' o2 o3 (last_of3 _ _ _ hs) (ih.e C _ a' ha X o).1 (ih.e C _ b' hb X o).1 (ih.e C _ c' hc X o).1 (ih.e C _ d' hd X o).1, t_chn3 o.un o' o2 o3 (last_of3 _ _ _ hs) (ih.e C _ a' ha X o).1 (ih.e C _ b' hb X o).1 (ih.e C _ c' hc X o).1 (ih.e C _ d' hd X o).1⟩
    · cases h
  | IfExp c a b pos =>
    simp only [cE, Option.bind_eq_bind, Option.bind_eq_some_iff, Option.some.injEq] at h
    obtain ⟨c', hc, a', ha, b', hb, rfl⟩ := h
    exact ⟨s_ite (ih.e C c c' hc X o).2 (ih.e C a a' ha X o).1 (ih.e C b b' hb X o).1, t_ite (ih.e C c c' hc X o).2 (ih.e C a a' ha X o).2 (ih.e C b b' hb X o).2⟩
  | Tuple es k pos =>
    simp only [cE] at h
    split at h
    · rename_i hl
      simp only [Option.map_eq_some_iff] at h
      obtain ⟨a', ha, rfl⟩ := h
      obtain ⟨p1, p2, p3⟩ := ih.es C es a' ha X o
      exact both (s_tup p1 (by rw [p3]; exact hl)) fun _ => rfl
    · cases h
  | List es pos =>
    simp only [cE] at h
    split at h
    · rename_i hl
      simp only [Option.map_eq_some_iff] at h
      obtain ⟨a', ha, rfl⟩ := h
      obtain ⟨p1, p2, p3⟩ := ih.es C es a' ha X o
      exact both (s_lst p1 (by rw [p3]; exact hl)) fun _ => rfl
    · cases h
  | Subscript a i pos =>
    simp only [cE] at h
    split at h
    · split at h
      · simp only [Option.bind_eq_bind, Option.bind_eq_some_iff, Option.some.injEq] at h
        obtain ⟨a', ha, l', hl, h', hh, rfl⟩ := h
        exact both (s_sl (ih.e C a a' ha X o).1 (ih.o C _ l' hl X o) (ih.o C _ h' hh X o)) fun _ => rfl
      · split at h
        · rename_i hb
          obtain ⟨rfl, rfl, k, p1, p2, es⟩ := isBack_eq hb
          injection es with es
          subst es
          simp only [Option.bind_eq_bind, Option.bind_eq_some_iff, Option.some.injEq] at h
          obtain ⟨a', ha, rfl⟩ := h
          exact both (s_rev (ih.e C a a' ha X o).1) fun _ => rfl
        · cases h
    · simp only [Option.bind_eq_bind, Option.bind_eq_some_iff, Option.some.injEq] at h
      obtain ⟨a', ha, i', hi, rfl⟩ := h
      exact both (s_ix (cE_plain hi) (ih.e C a a' ha X o).1 (ih.e C i i' hi X o).1) fun _ => rfl
  | Call f es kws pos => exact both (e_call ih C f es kws pos ir h X o) fun _ => rfl
  | ListComp elt gs scope pos =>
    rcases sd_cm ih C elt gs scope pos ir h X o with ⟨tg, it, ifs, wi, wt, wc, we, own, sl, rfl, hc, e⟩ | ⟨tg, it, ifs, tg1, it1, ifs1, wi, wt, wc, wi1, wt1, wc1, we, own, own1, sl, rfl, hc, e⟩
    · rw [e]
      exact both (hc.val o.calm (by rw [o.hN]; exact o.nd)) fun _ => rfl
    · rw [e]
      exact both (hc.val o.calm (by rw [o.hN]; exact o.nd)) fun _ => rfl
  | _ => simp [cE] at h
theorem sd : ∀ n, Sd Γ n
  | 0 => sd_zero
  | n + 1 => ⟨sd_e (sd n), sd_es (sd n), sd_b (sd n), sd_o (sd n), sd_c (sd n), sd_t (sd n), sd_ts (sd n), sd_i (sd n), sd_cm (sd n)⟩
end
end TB

namespace TB
open PySem PySem.Spec PyProof.Rows L2

/-! ### statements -/
section
variable {Γ : Gam} {X : Cx} {e : Expr} {pos : Pos} {w : En → Mem → K1 → Prop}
theorem swaps_no {e : Expr} (h : isComp e = false) (t : Option Expr) (l : Nat) (env : Env) : swapsWith e t l env = pure false := by
  cases e <;> first | rfl | (simp [isComp] at h)
theorem stores_no {tg e : Expr} {env : Env} (h : isTupE tg = false ∨ isTupE e = false) (h2 : ∀ ts p, tg ≠ .List ts p) : swappedStores [tg] e env = pure none := by
  rcases h with h | h
  · cases tg <;> first | rfl | (simp [isTupE] at h; done) | exact absurd rfl (h2 _ _)
  · cases tg <;> first | rfl | exact absurd rfl (h2 _ _) | skip
    cases e <;> first | rfl | (simp [isTupE] at h)
theorem st_asg {tg : Expr} {sl : List Nat} {wt : D → En → Mem → (En → Mem → Prop) → Prop} (he : PE X e (LE X.K w)) (hg : PG X tg (LG X.K sl wt)) (hs : swapsWithSole [tg] e pos.line X.env = pure false) (hw : swappedStores [tg] e X.env = pure none)
    (h1 : (assignEach [tg] X.env).map (·.2) = [assign tg X.env]) : PS X (.Assign [tg] e pos) (LS X.K fun ρ M F => w ρ M fun d M1 => wt d ρ M1 F.nx) := by
  refine ps_imp (ps_asg he hg hs hw h1) ?_
  rintro E σ H ⟨ρ, M, F, hE, hM, h, P⟩
  refine ⟨ρ, M, _, hE, hM, h, fun d1 M1 v1 H1 s1 r1 m1 q1 => ?_⟩
  exact ⟨d1, ρ, M1, _, r1, hE.keep s1.keep, m1, q1, fun ρ2 M2 σ2 H2 _ s2 e2 m2 q2 => P.nx ρ2 M2 σ2 H2 (s1.trans s2) e2 m2 q2⟩
theorem swaps_comp (elt : Expr) (gs : List Comprehension) (scope : Scope) (p py : Pos) (y : Str) (l : Nat) (env : Env) :
    swapsWith (.ListComp elt gs scope p) (some (.Name y py)) l env = pure (env.blockKind == .function && env.kindOf y == some .local && py.line == p.line && !(scope.names.any fun (n, k) => n == y && (k == .local || k == .cell))) := by
  rfl
theorem st_asgC {x : Str} {px : Pos} {i : Nat} {elt tg it : Expr} {ifs : List Expr} {scope : Scope} {wi : En → Mem → KI → Prop} {wt : D → En → Mem → (En → Mem → Prop) → Prop} {wc : En → Mem → (Bool → Mem → Prop) → Prop} {we : En → Mem → K1 → Prop} {own : List (Str × Nat)} {sl : List Nat} {p : Pos}
    (h : CompOk X elt tg it ifs scope wi wt wc we own sl) (hc : X.calm = true) (hN : X.N.Nodup) (hi : X.N[i]? = some x) (hg : PG X (.Name x px) (LG X.K [i] fun d ρ M k => k (put ρ i d) M)) :
    PS X (.Assign [.Name x px] (.ListComp elt [⟨tg, it, ifs, 0⟩] scope p) pos) (LS X.K fun ρ M F => compW wi wt wc we (own.map (·.2)) ρ M fun d M1 => F.nx (put ρ i d) M1) := by
  cases hb : (X.env.blockKind == .function && X.env.kindOf x == some .local && px.line == p.line && !(scope.names.any fun (n, k) => n == x && (k == .local || k == .cell))) with
  | false => exact st_asg (h.val hc hN) hg (by rw [← hb]; exact swaps_comp elt _ scope p px x pos.line X.env) rfl rfl
  | true =>
    have hyl : X.env.scope.names.lookup x = some .local := by
      simp only [Bool.and_eq_true] at hb
      exact beq_iff_eq.mp hb.1.1.2
    refine ps_imp (ps_setLc hc hN hi hyl (by rw [← hb]; exact swaps_comp elt _ scope p px x pos.line X.env) h.pi h.blk h.pg h.pt h.pe h.fold) ?_
    rintro E σ H ⟨ρ, M, F, hE, hM, hh, P⟩
    refine tLc_of h.sl ⟨ρ, M, _, hE, hM, hh, fun d1 M1 v1 H1 s1 r1 m1 q1 => ?_⟩
    exact P.nx _ M1 _ H1 s1 ((hE.keep s1.keep).put r1) m1 q1
theorem st_asgC2 {x : Str} {px : Pos} {i : Nat} {elt tg it : Expr} {ifs : List Expr} {tg1 it1 : Expr} {ifs1 : List Expr} {scope : Scope} {wi : En → Mem → KI → Prop} {wt : D → En → Mem → (En → Mem → Prop) → Prop} {wc : En → Mem → (Bool → Mem → Prop) → Prop} {wi1 : En → Mem → KI → Prop} {wt1 : D → En → Mem → (En → Mem → Prop) → Prop} {wc1 : En → Mem → (Bool → Mem → Prop) → Prop} {we : En → Mem → K1 → Prop} {own : List (Str × Nat)} {own1 sl : List Nat} {p : Pos}
    (h : CompOk2 X elt tg it ifs tg1 it1 ifs1 scope wi wt wc wi1 wt1 wc1 we own own1 sl) (hc : X.calm = true) (hN : X.N.Nodup) (hi : X.N[i]? = some x) (hg : PG X (.Name x px) (LG X.K [i] fun d ρ M k => k (put ρ i d) M)) :
    PS X (.Assign [.Name x px] (.ListComp elt [⟨tg, it, ifs, 0⟩, ⟨tg1, it1, ifs1, 0⟩] scope p) pos) (LS X.K fun ρ M F => compW2 wi wt wc wi1 wt1 wc1 we (own.map (·.2)) own1 ρ M fun d M1 => F.nx (put ρ i d) M1) := by
  cases hb : (X.env.blockKind == .function && X.env.kindOf x == some .local && px.line == p.line && !(scope.names.any fun (n, k) => n == x && (k == .local || k == .cell))) with
  | false => exact st_asg (h.val hc hN) hg (by rw [← hb]; exact swaps_comp elt _ scope p px x pos.line X.env) rfl rfl
  | true =>
    have hyl : X.env.scope.names.lookup x = some .local := by
      simp only [Bool.and_eq_true] at hb
      exact beq_iff_eq.mp hb.1.1.2
    refine ps_imp (ps_setLc2 hc hN hi hyl (by rw [← hb]; exact swaps_comp elt _ scope p px x pos.line X.env) h.pi h.blk h.hv h.pg h.pt h.pi1 h.pg1 h.pt1 h.pe h.fold h.fold1) ?_
    rintro E σ H ⟨ρ, M, F, hE, hM, hh, P⟩
    refine tLc2_of h.sl (fun _ hi => hi) ⟨ρ, M, _, hE, hM, hh, fun d1 M1 v1 H1 s1 r1 m1 q1 => ?_⟩
    exact P.nx _ M1 _ H1 s1 ((hE.keep s1.keep).put r1) m1 q1
theorem stores_two {x y : Str} {a b : Expr} {px py pt pt2 : Pos} {kt k2 : Nat} {env : Env} (hij : x ≠ y) (hx : env.scope.names.lookup x = some .local) (hy : env.scope.names.lookup y = some .local) (hk : env.scope.kind = .function)
    (hl : px.line = py.line) (sa : isStar a = false) (sb : isStar b = false) (hf : ([a, b].all (foldedForSure 8)) = false) (hcn : ([a, b].all (constantsAlone 8)) = false) :
    swappedStores [.Tuple [.Name x px, .Name y py] kt pt] (.Tuple [a, b] k2 pt2) env = pure (some [x, y]) := by
  have kx : env.kindOf x = some .local := hx
  have ky : env.kindOf y = some .local := hy
  have bk : env.blockKind = .function := by unfold Env.blockKind; rw [hk]; rfl
  have hyx : y ≠ x := fun e => hij e.symm
  have ed : [x, y].eraseDups.length = 2 := by
    simp [List.eraseDups_cons, hyx]
  unfold swappedStores
  refine (if_neg ?_).trans ?_
  · simp [bk]
  refine (if_neg ?_).trans ?_
  · rw [Bool.not_eq_true, List.any_eq_false]
    intro z hz
    have hs : isStar z = false := by
      rcases List.mem_cons.mp hz with rfl | hz
      · exact sa
      · rcases List.mem_cons.mp hz with rfl | hz
        · exact sb
        · cases hz
    cases z <;> first | (simp [isStar] at hs; done) | exact Bool.false_ne_true
  have e1 : (Option.map (fun x => x.pos.line) [Expr.Name x px, Expr.Name y py].head?).getD 0 = py.line := hl
  have e2 : ([x, y].length != [Expr.Name x px, Expr.Name y py].length || [x, y].eraseDups.length != [x, y].length) = false := by rw [ed]; rfl
  simp only [e1, List.filterMap_cons, List.filterMap_nil, kx, ky, hl, beq_self_eq_true, Bool.and_self, if_true]
  refine (if_neg ?_).trans ?_
  · rw [e2]; exact Bool.false_ne_true
  refine (if_neg ?_).trans ?_
  · rw [hf]; exact Bool.false_ne_true
  exact if_neg (by rw [hcn]; exact Bool.false_ne_true)
theorem st_par {i j : Nat} {x y : Str} {a b : Expr} {px py pt pt2 : Pos} {kt k2 : Nat} {wa wb : En → Mem → K1 → Prop} (hc : X.calm = true) (hN : X.N.Nodup) (hi : X.N[i]? = some x) (hj : X.N[j]? = some y) (hij : x ≠ y)
    (hx : X.env.scope.names.lookup x = some .local) (hy : X.env.scope.names.lookup y = some .local) (hk : X.env.scope.kind = .function) (hl : px.line = py.line) (sa : isStar a = false) (sb : isStar b = false)
    (hf : ([a, b].all (foldedForSure 8)) = false) (hcn : ([a, b].all (constantsAlone 8)) = false) (ha : PE X a (LE X.K wa)) (hb : PE X b (LE X.K wb)) (hst : starEach [a, b] X.env = [(false, eval a X.env), (false, eval b X.env)]) (hst2 : starEach [b] X.env = [(false, eval b X.env)]) :
    PS X (.Assign [.Tuple [.Name x px, .Name y py] kt pt] (.Tuple [a, b] k2 pt2) pos) (LS X.K fun ρ M F => wa ρ M fun d M1 => wb ρ M1 fun e M2 => F.nx (put (put ρ i d) j e) M2) := by
  have hw := stores_two (kt := kt) (k2 := k2) (pt := pt) (pt2 := pt2) (px := px) (py := py) (env := X.env) hij hx hy hk hl sa sb hf hcn
  have hne : i ≠ j := fun e => by
    subst e
    rw [hi] at hj
    exact hij (Option.some.inj hj)
  refine ps_imp (ps_par hc hN hi hj hne hx hy (pa_cons ha (pa_cons hb pa_nil hst2) (by rw [hst, hst2])) hw) ?_
  rintro E σ H ⟨ρ, M, F, hE, hM, h, P⟩
  refine ⟨ρ, M, _, hE, hM, h, fun d1 M1 v1 H1 s1 r1 m1 q1 => ⟨ρ, M1, _, hE.keep s1.keep, m1, q1, fun d2 M2 v2 H2 s2 r2 m2 q2 => ⟨v1, v2, rfl, ?_⟩⟩⟩
  exact P.nx _ M2 _ H2 (s1.trans s2) ((((hE.keep s1.keep).keep s2.keep).put (r1.keep s2.keep)).put r2) m2 q2
theorem stores_ns {C : Ct} {ts vs : List Expr} {kt k2 : Nat} {pt pt2 : Pos} {env : Env} (hsc : env.scope = C.sc) (h : noSwap C ts vs = true) : swappedStores [.Tuple ts kt pt] (.Tuple vs k2 pt2) env = pure none := by
  have kx : ∀ x, env.kindOf x = C.sc.names.lookup x := fun x => by rw [← hsc]; rfl
  unfold swappedStores
  show (if (!(ts.length == 2 || ts.length == 3) || vs.length != ts.length || env.blockKind != .function) = true then (pure none : Sem (Option (List Str))) else _) = pure none
  by_cases h1 : (!(ts.length == 2 || ts.length == 3) || vs.length != ts.length || env.blockKind != .function) = true
  · exact if_pos h1
  refine (if_neg h1).trans ?_
  by_cases h2 : (vs.any fun | .Starred .. => true | _ => false) = true
  · exact if_pos h2
  refine (if_neg h2).trans ?_
  simp only [kx]
  unfold noSwap at h
  simp only [Bool.or_eq_true] at h
  rcases h with (h | h) | h
  · exact absurd (by simp only [Bool.or_eq_true]; exact .inl h) h1
  · exact if_pos (by rw [Bool.or_eq_true]; exact .inl h)
  · split
    · rfl
    · first | rfl | exact if_pos h | (split <;> first | rfl | exact absurd h ‹_›)
theorem stores_three {x y z : Str} {a b c : Expr} {px py pz pt pt2 : Pos} {kt k2 : Nat} {env : Env} (hxy : x ≠ y) (hxz : x ≠ z) (hyz : y ≠ z) (hx : env.scope.names.lookup x = some .local) (hy : env.scope.names.lookup y = some .local) (hz : env.scope.names.lookup z = some .local) (hk : env.scope.kind = .function)
    (hl : px.line = py.line) (hl2 : px.line = pz.line) (sa : isStar a = false) (sb : isStar b = false) (sc : isStar c = false) (hf : ([a, b, c].all (foldedForSure 8)) = false) (hcn : ([a, b, c].all (constantsAlone 8)) = false) :
    swappedStores [.Tuple [.Name x px, .Name y py, .Name z pz] kt pt] (.Tuple [a, b, c] k2 pt2) env = pure (some [x, y, z]) := by
  have kx : env.kindOf x = some .local := hx
  have ky : env.kindOf y = some .local := hy
  have kz : env.kindOf z = some .local := hz
  have bk : env.blockKind = .function := by unfold Env.blockKind; rw [hk]; rfl
  have ed : [x, y, z].eraseDups.length = 3 := by
    simp [List.eraseDups_cons, Ne.symm hxy, Ne.symm hxz, Ne.symm hyz]
  unfold swappedStores
  refine (if_neg ?_).trans ?_
  · simp [bk]
  refine (if_neg ?_).trans ?_
  · rw [Bool.not_eq_true, List.any_eq_false]
    intro z hz
    have hs : isStar z = false := by
      simp only [List.mem_cons, List.not_mem_nil, or_false] at hz
      rcases hz with rfl | rfl | rfl <;> assumption
    cases z <;> first | (simp [isStar] at hs; done) | exact Bool.false_ne_true
  have e1 : (Option.map (fun x => x.pos.line) [Expr.Name x px, Expr.Name y py, Expr.Name z pz].head?).getD 0 = px.line := rfl
  have e2 : ([x, y, z].length != [Expr.Name x px, Expr.Name y py, Expr.Name z pz].length || [x, y, z].eraseDups.length != [x, y, z].length) = false := by rw [ed]; rfl
  simp only [e1, List.filterMap_cons, List.filterMap_nil, kx, ky, kz, ← hl, ← hl2, beq_self_eq_true, Bool.and_self, if_true]
  refine (if_neg ?_).trans ?_
  · rw [e2]; exact Bool.false_ne_true
  refine (if_neg ?_).trans ?_
  · rw [hf]; exact Bool.false_ne_true
  exact if_neg (by rw [hcn]; exact Bool.false_ne_true)
theorem st_par3 {i j l : Nat} {x y z : Str} {a b c : Expr} {px py pz pt pt2 : Pos} {kt k2 : Nat} {a' b' c' : E} (hc : X.calm = true) (hN : X.N.Nodup) (hi : X.N[i]? = some x) (hj : X.N[j]? = some y) (hl : X.N[l]? = some z) (hxy : x ≠ y) (hxz : x ≠ z) (hyz : y ≠ z)
    (hx : X.env.scope.names.lookup x = some .local) (hy : X.env.scope.names.lookup y = some .local) (hz : X.env.scope.names.lookup z = some .local)
    (hw : swappedStores [.Tuple [.Name x px, .Name y py, .Name z pz] kt pt] (.Tuple [a, b, c] k2 pt2) X.env = pure (some [x, y, z])) (ha : PE X a (LE X.K (wpE Γ a'))) (hb : PE X b (LE X.K (wpE Γ b'))) (hcc : PE X c (LE X.K (wpE Γ c'))) (sta : isStar a = false) (stb : isStar b = false) (stc : isStar c = false)
    (hst : starEach [a, b, c] X.env = [(false, eval a X.env), (false, eval b X.env), (false, eval c X.env)]) (hst2 : starEach [b, c] X.env = [(false, eval b X.env), (false, eval c X.env)]) (hst3 : starEach [c] X.env = [(false, eval c X.env)]) :
    PS X (.Assign [.Tuple [.Name x px, .Name y py, .Name z pz] kt pt] (.Tuple [a, b, c] k2 pt2) pos) (LS X.K (wpS Γ (.asg (.tp (.cons (.nm i) (.cons (.nm j) (.cons (.nm l) .nil)))) (.tup (.cons a' (.cons b' (.cons c' .nil))))))) := by
  have ne : ∀ {i j : Nat} {x y : Str}, X.N[i]? = some x → X.N[j]? = some y → x ≠ y → i ≠ j := fun hi hj hne e => by
    subst e
    rw [hi] at hj
    exact hne (Option.some.inj hj)
  refine ps_imp (ps_par3 hc hN hi hj hl (ne hi hj hxy) (ne hi hl hxz) (ne hj hl hyz) hx hy hz (pa_cons ha (pa_cons hb (pa_cons hcc pa_nil hst3) (by rw [hst2, hst3])) (by rw [hst, hst2])) hw) ?_
  rintro E σ H ⟨ρ, M, F, hE, hM, h, P⟩
  refine ⟨ρ, M, _, hE, hM, h, fun d1 M1 v1 H1 s1 r1 m1 q1 => ⟨ρ, M1, _, hE.keep s1.keep, m1, q1, fun d2 M2 v2 H2 s2 r2 m2 q2 => ⟨ρ, M2, _, (hE.keep s1.keep).keep s2.keep, m2, q2, fun d3 M3 v3 H3 s3 r3 m3 q3 => ⟨v1, v2, v3, rfl, ?_⟩⟩⟩⟩
  have q4 : F.nx (put (put (put ρ i d1) j d2) l d3) M3 := by
    have q3 : ∃ ds, seqOf (D.tup [d1, d2, d3]) M3 ds ∧ ds.length = (Ts.cons (.nm i) (.cons (.nm j) (.cons (.nm l) .nil))).len ∧ wpTs Γ (Ts.cons (.nm i) (.cons (.nm j) (.cons (.nm l) .nil))) ds ρ M3 F.nx := q3
    obtain ⟨ds, e, _, q3⟩ := q3
    have e : [d1, d2, d3] = ds := e
    cases e
    obtain ⟨d, r, e, q3⟩ := q3
    cases e
    obtain ⟨d, r, e, q3⟩ := q3
    cases e
    obtain ⟨d, r, e, q3⟩ := q3
    cases e
    exact q3.2
  refine P.nx _ M3 _ H3 ((s1.trans s2).trans s3) ?_ m3 q4
  exact (((((hE.keep s1.keep).keep s2.keep).keep s3.keep).put ((r1.keep s2.keep).keep s3.keep)).put (r2.keep s3.keep)).put r3
theorem st_aug {i : Nat} {x : Str} {px : Pos} (op : Bin) (hN : X.N.Nodup) (hi : X.N[i]? = some x) (hx : X.env.scope.names.lookup x = some .local) (he : PE X e (LE X.K w)) :
    PS X (.AugAssign (.Name x px) op.op e pos) (LS X.K fun ρ M F => ∃ d, get ρ i = some d ∧ w ρ M fun y M1 => augW op d y M1 fun z M2 => F.nx (put ρ i z) M2) := by
  refine ps_imp (ps_aug hN hi (.inl hx) he (op_aug op) (.inr hx)) ?_
  rintro E σ H ⟨ρ, M, F, hE, hM, ⟨d, hd, h⟩, P⟩
  obtain ⟨v, hv, r⟩ := hE.2 i d hd
  refine ⟨v, hv, ρ, M, _, hE, hM, h, fun d1 M1 v1 H1 s1 r1 m1 q1 => ?_⟩
  refine ⟨d, d1, M1, _, r.keep s1.keep, r1, m1, q1, fun d2 M2 v2 H2 s2 r2 m2 q2 => ?_⟩
  exact P.nx _ M2 _ H2 (s1.trans s2) (((hE.keep s1.keep).keep s2.keep).put r2) m2 q2
theorem st_expr (he : PE X e (LE X.K w)) (hs : swapsWith e none pos.line X.env = pure false) : PS X (.Expr e pos) (LS X.K fun ρ M F => w ρ M fun _ M1 => F.nx ρ M1) := by
  refine ps_imp (ps_expr he hs) ?_
  rintro E σ H ⟨ρ, M, F, hE, hM, h, P⟩
  exact ⟨ρ, M, _, hE, hM, h, fun d1 M1 v1 H1 s1 r1 m1 q1 => P.nx ρ M1 σ H1 s1 (hE.keep s1.keep) m1 q1⟩
theorem st_ret (he : PE X e (LE X.K w)) : PS X (.Return (some e) pos) (LS X.K fun ρ M F => w ρ M F.rt) := by
  refine ps_imp (ps_ret he) ?_
  rintro E σ H ⟨ρ, M, F, hE, hM, h, P⟩
  exact ⟨ρ, M, _, hE, hM, h, fun d1 M1 v1 H1 s1 r1 m1 q1 => P.rt d1 M1 v1 H1 s1 r1 m1 q1⟩
theorem st_retN : PS X (.Return none pos) (LS X.K fun _ M F => F.rt .non M) := by
  refine ps_imp ps_retN ?_
  rintro E σ H ⟨ρ, M, F, hE, hM, h, P⟩
  exact P.rt .non M .non H .refl rfl hM h
variable {c : Expr} {as bs : List Stmt} {wc : En → Mem → K1 → Prop} {wa wb : En → Mem → Ed → Prop}
theorem st_if (hc : PT X c (LT X.K wc)) (ha : PSs X as (LS X.K wa)) (hb : PSs X bs (LS X.K wb)) :
    PS X (.If c as bs pos) (LS X.K fun ρ M F => wc ρ M fun x M1 => ∃ k, tru M1 x = some k ∧ if k = true then wa ρ M1 F else wb ρ M1 F) := by
  refine ps_imp (ps_if hc ha hb) ?_
  rintro E σ H ⟨ρ, M, F, hE, hM, h, P⟩
  refine ⟨ρ, M, _, hE, hM, h, fun d1 M1 v1 H1 s1 r1 m1 ⟨b, e, z⟩ => ⟨b, e, ?_⟩⟩
  cases b with
  | true =>
    simp only [if_true] at z ⊢
    exact ⟨ρ, M1, F, hE.keep s1.keep, m1, z, P.step s1⟩
  | false =>
    simp only [Bool.false_eq_true, if_false] at z ⊢
    exact ⟨ρ, M1, F, hE.keep s1.keep, m1, z, P.step s1⟩
theorem st_while (hp : PassesOwn (model X.prog X.w) X.A X.env X.xe) (hc : PT X c (LT X.K wc)) (hb : PSs X bs (LS X.K wb)) :
    PS X (.While c bs [] pos) (LS X.K fun ρ M F => ∃ W : Nat → En → Mem → Prop, (∃ m, W m ρ M) ∧ ∀ m ρ M, W m ρ M → wc ρ M fun d M1 => ∃ k, tru M1 d = some k ∧
      if k = true then ∃ N : En → Mem → Prop, (∀ ρ' M', N ρ' M' → ∃ m', m' < m ∧ W m' ρ' M') ∧ wb ρ M1 ⟨N, F.rt, F.nx, N⟩ else F.nx ρ M1) := by
  refine ps_imp (ps_while hp hc hb) ?_
  rintro E σ H ⟨ρ, M, F, hE, hM, ⟨W, ⟨m0, w0⟩, h⟩, P⟩
  refine ⟨fun m σ' H' => ∃ ρ' M', RepE X.K H' ρ' σ' ∧ RepM X.K H' M' ∧ Step M H M' H' ∧ W m ρ' M', ⟨m0, ρ, M, hE, hM, .refl, w0⟩, ?_⟩
  rintro m σ' H' ⟨ρ', M', e', m', s', w'⟩
  refine ⟨ρ', M', _, e', m', h m ρ' M' w', fun d1 M1 v1 H1 s1 r1 m1 ⟨b, e, z⟩ => ⟨b, e, ?_⟩⟩
  cases b with
  | true =>
    simp only [if_true] at z ⊢
    obtain ⟨N, hN, z⟩ := z
    refine ⟨fun σ2 H2 => ∃ ρ2 M2, RepE X.K H2 ρ2 σ2 ∧ RepM X.K H2 M2 ∧ Step M H M2 H2 ∧ N ρ2 M2, fun σ2 H2 ⟨ρ2, M2, a1, a2, a3, a4⟩ => let ⟨m2, h1, h2⟩ := hN ρ2 M2 a4; ⟨m2, h1, ρ2, M2, a1, a2, a3, h2⟩, ?_⟩
    have s01 := s'.trans s1
    exact ⟨ρ', M1, _, e'.keep s1.keep, m1, z, ⟨fun ρ4 M4 σ4 H4 s4 e4 m4 q4 => ⟨ρ4, M4, e4, m4, s01.trans s4, q4⟩, fun d4 M4 v4 H4 s4 => P.rt d4 M4 v4 H4 (s01.trans s4),
      fun ρ4 M4 σ4 H4 s4 => P.nx ρ4 M4 σ4 H4 (s01.trans s4), fun ρ4 M4 σ4 H4 s4 e4 m4 q4 => ⟨ρ4, M4, e4, m4, s01.trans s4, q4⟩⟩⟩
  | false =>
    simp only [Bool.false_eq_true, if_false] at z ⊢
    exact P.nx ρ' M1 σ' H1 (s'.trans s1) (e'.keep s1.keep) m1 z
theorem sts_nil : PSs X [] (LS X.K fun ρ M F => F.nx ρ M) := by
  refine pss_imp pss_nil ?_
  rintro E σ H ⟨ρ, M, F, hE, hM, h, P⟩
  exact P.nx ρ M σ H .refl hE hM h
theorem sts_cons {st : Stmt} {rest : List Stmt} (h1 : PS X st (LS X.K wa)) (h2 : PSs X rest (LS X.K wb)) : PSs X (st :: rest) (LS X.K fun ρ M F => wa ρ M ⟨fun ρ' M' => wb ρ' M' F, F.rt, F.bk, F.ct⟩) := by
  refine pss_imp (pss_cons h1 h2) ?_
  rintro E σ H ⟨ρ, M, F, hE, hM, h, P⟩
  exact ⟨ρ, M, _, hE, hM, h, ⟨fun ρ' M' σ' H' s e m q => ⟨ρ', M', F, e, m, q, P.step s⟩, P.rt, P.bk, P.ct⟩⟩
end

structure Ss' (Γ : Gam) (n : Nat) : Prop where
  s : ∀ C st ir, cS n C st = some ir → ∀ X, Ok Γ C X → X.env.scope.kind = .function → PS X st (LS X.K (wpS Γ ir))
  ss : ∀ C st ir, cSs n C st = some ir → ∀ X, Ok Γ C X → X.env.scope.kind = .function → PSs X st (LS X.K (wpSs Γ ir))
theorem st_asgN {Γ : Gam} {n : Nat} {C : Ct} {x : Str} {px : Pos} {e : Expr} {pos : Pos} {ir : S} (X : Cx) (o : Ok Γ C X)
    (h : ((cT n C (.Name x px)).bind fun t => (cE n C e).bind fun e => some (S.asg t e)) = some ir) (hcmp : isComp e = false ∨ ∃ elt gs sc p, e = .ListComp elt gs sc p) : PS X (.Assign [.Name x px] e pos) (LS X.K (wpS Γ ir)) := by
  simp only [Option.bind_eq_some_iff, Option.some.injEq] at h
  obtain ⟨t, ht, e', he, rfl⟩ := h
  have nd : X.N.Nodup := by rw [o.hN]; exact o.nd
  have g := (sd (Γ := Γ) n).t C _ t ht X o
  have pe := ((sd (Γ := Γ) n).e C e e' he X o).1
  have st := cE_asg ht [] X.env
  rcases hcmp with hc | ⟨elt, gs, sc, p, rfl⟩
  · exact st_asg pe g (show swapsWith e (some (.Name x px)) pos.line X.env = _ from swaps_no hc _ _ _) (stores_no (.inl rfl) nofun) (by rw [st]; rfl)
  · have cm := (sd (Γ := Γ) n).cm C elt gs sc p e' he X o
    have key : ∃ i, t = .nm i ∧ X.N[i]? = some x := by
      cases n with
      | zero => simp [cT] at ht
      | succ n =>
        simp only [cT] at ht
        split at ht
        · simp only [Option.map_eq_some_iff] at ht
          obtain ⟨i, hi, rfl⟩ := ht
          exact ⟨i, rfl, by rw [o.hN]; exact findIx_get hi⟩
        · split at ht
          · simp only [Option.map_eq_some_iff] at ht
            obtain ⟨i, hi, rfl⟩ := ht
            exact ⟨i, rfl, by rw [o.hN]; exact findIx_get hi⟩
          · cases ht
        · cases ht
    obtain ⟨i, rfl, hi⟩ := key
    rcases cm with ⟨tg, it, ifs, wi, wt, wc, we, own, sl, rfl, hc, ee⟩ | ⟨tg, it, ifs, tg1, it1, ifs1, wi, wt, wc, wi1, wt1, wc1, we, own, own1, sl, rfl, hc, ee⟩
    · refine ps_imp (st_asgC (pos := pos) (p := p) hc o.calm nd hi g) ?_
      rintro E σ H ⟨ρ, M, F, hE, hM, h, P⟩
      refine ⟨ρ, M, F, hE, hM, ?_, P⟩
      have h : wpE Γ e' ρ M fun d M1 => F.nx (put ρ i d) M1 := h
      rw [ee] at h
      exact h
    · refine ps_imp (st_asgC2 (pos := pos) (p := p) hc o.calm nd hi g) ?_
      rintro E σ H ⟨ρ, M, F, hE, hM, h, P⟩
      refine ⟨ρ, M, F, hE, hM, ?_, P⟩
      have h : wpE Γ e' ρ M fun d M1 => F.nx (put ρ i d) M1 := h
      rw [ee] at h
      exact h
end TB

namespace TB
open PySem PySem.Spec PyProof.Rows L2

section
variable {Γ : Gam} {n : Nat}
theorem asg_any {C : Ct} {tg e : Expr} {pos : Pos} {ir : S} (X : Cx) (o : Ok Γ C X)
    (h : ((cT n C tg).bind fun t => (cE n C e).bind fun e => some (S.asg t e)) = some ir) (hc : isComp e = false) (hw : swappedStores [tg] e X.env = pure none) : PS X (.Assign [tg] e pos) (LS X.K (wpS Γ ir)) := by
  simp only [Option.bind_eq_some_iff, Option.some.injEq] at h
  obtain ⟨t, ht, e', he, rfl⟩ := h
  have g := (sd (Γ := Γ) n).t C _ t ht X o
  have pe := ((sd (Γ := Γ) n).e C e e' he X o).1
  exact st_asg pe g (show swapsWith e (some tg) pos.line X.env = _ from swaps_no hc _ _ _) hw (by rw [cE_asg ht [] X.env]; rfl)
theorem asg_tup {C : Ct} {tg e : Expr} {pos : Pos} {ir : S} (X : Cx) (o : Ok Γ C X)
    (h : ((cT n C tg).bind fun t => (cE n C e).bind fun e => some (S.asg t e)) = some ir) (hc : swapsWith e (some tg) pos.line X.env = pure false) (hw : swappedStores [tg] e X.env = pure none) : PS X (.Assign [tg] e pos) (LS X.K (wpS Γ ir)) := by
  simp only [Option.bind_eq_some_iff, Option.some.injEq] at h
  obtain ⟨t, ht, e', he, rfl⟩ := h
  have g := (sd (Γ := Γ) n).t C _ t ht X o
  have pe := ((sd (Γ := Γ) n).e C e e' he X o).1
  exact st_asg pe g hc hw (by rw [cE_asg ht [] X.env]; rfl)
theorem ss_s (ih : Ss' Γ n) : ∀ C st ir, cS (n + 1) C st = some ir → ∀ X, Ok Γ C X → X.env.scope.kind = .function → PS X st (LS X.K (wpS Γ ir)) := by
  intro C st ir h X o hk
  have nd : X.N.Nodup := by rw [o.hN]; exact o.nd
  have S0 := sd (Γ := Γ) n
  cases st with
  | Assign ts e pos =>
    simp only [cS] at h
    split at h
    · split at h
      · split at h
        · exact st_asgN X o h (.inr ⟨_, _, _, _, rfl⟩)
        · cases h
      · rename_i hc
        exact st_asgN X o h (.inl (by simpa using hc))
    · split at h
      · split at h
        · rename_i hns
          exact asg_any X o h rfl (stores_ns o.sc hns)
        split at h
        · rename_i hcond
          obtain ⟨c1, c2, c3, c4, c5, c6, c7, c8⟩ := hcond
          simp only [Option.bind_eq_bind, Option.bind_eq_some_iff, Option.some.injEq] at h
          obtain ⟨i, hi, j, hj, a', ha, b', hb, rfl⟩ := h
          exact st_par o.calm nd (by rw [o.hN]; exact findIx_get hi) (by rw [o.hN]; exact findIx_get hj) c1 (by rw [o.sc]; exact c3) (by rw [o.sc]; exact c4) hk c2 c5 c6 c7 c8
            (S0.e C _ a' ha X o).1 (S0.e C _ b' hb X o).1 (by rw [cE_star ha, cE_star hb]; rfl) (cE_star hb [] X.env)
        · cases h
      · split at h
        · rename_i hns
          exact asg_any X o h rfl (stores_ns o.sc hns)
        split at h
        · rename_i hcond
          obtain ⟨⟨c1, c2, c3⟩, ⟨c4, c5⟩, c6, c7, c8, ⟨c9, c10, c11⟩, c12, c13⟩ := hcond
          simp only [Option.bind_eq_bind, Option.bind_eq_some_iff, Option.some.injEq] at h
          obtain ⟨i, hi, j, hj, l, hl, a', ha, b', hb, c', hc', rfl⟩ := h
          refine st_par3 o.calm nd (by rw [o.hN]; exact findIx_get hi) (by rw [o.hN]; exact findIx_get hj) (by rw [o.hN]; exact findIx_get hl) c1 c2 c3 (by rw [o.sc]; exact c6) (by rw [o.sc]; exact c7) (by rw [o.sc]; exact c8) ?_
            (S0.e C _ a' ha X o).1 (S0.e C _ b' hb X o).1 (S0.e C _ c' hc' X o).1 c9 c10 c11 (by rw [cE_star ha, cE_star hb, cE_star hc']; rfl) (by rw [cE_star hb, cE_star hc']; rfl) (cE_star hc' [] X.env)
          exact stores_three c1 c2 c3 (by rw [o.sc]; exact c6) (by rw [o.sc]; exact c7) (by rw [o.sc]; exact c8) hk c4 c5 c9 c10 c11 c12 c13
        · cases h
      · split at h
        · rename_i hns
          exact asg_any X o h rfl (stores_ns o.sc hns)
        · cases h
      · split at h
        · cases h
        · rename_i hc
          exact asg_tup X o h (by cases e <;> rfl) (stores_no (.inr (by simpa using hc)) nofun)
    · split at h
      · cases h
      · rename_i hc
        exact asg_any X o h (by simpa using hc) (stores_no (.inl rfl) nofun)
    · cases h
  | AugAssign t op e pos =>
    cases t with
    | Name x px =>
      simp only [cS] at h
      split at h
      · rename_i hl
        simp only [Option.bind_eq_bind, Option.bind_eq_some_iff, Option.some.injEq] at h
        obtain ⟨i, hi, o', ho, e', he, rfl⟩ := h
        rw [bop_eq ho]
        exact st_aug o' nd (by rw [o.hN]; exact findIx_get hi) (by rw [o.sc]; exact hl) (S0.e C e e' he X o).1
      · cases h
    | _ => simp [cS] at h
  | Expr e pos =>
    simp only [cS] at h
    split at h
    · cases h
    · rename_i hc
      simp only [Option.map_eq_some_iff] at h
      obtain ⟨a, ha, rfl⟩ := h
      exact st_expr (S0.e C e a ha X o).1 (swaps_no (by simpa using hc) _ _ _)
  | Return e pos =>
    cases e with
    | none => simp only [cS, Option.some.injEq] at h; subst h; exact st_retN
    | some e =>
      simp only [cS, Option.map_eq_some_iff] at h
      obtain ⟨a, ha, rfl⟩ := h
      exact st_ret (S0.e C e a ha X o).1
  | If c a b pos =>
    simp only [cS, Option.bind_eq_bind, Option.bind_eq_some_iff, Option.some.injEq] at h
    obtain ⟨c', hc, a', ha, b', hb, rfl⟩ := h
    exact st_if (S0.e C c c' hc X o).2 (ih.ss C a a' ha X o hk) (ih.ss C b b' hb X o hk)
  | While c b orr pos =>
    cases orr with
    | nil =>
      simp only [cS, Option.bind_eq_bind, Option.bind_eq_some_iff, Option.some.injEq] at h
      obtain ⟨c', hc, b', hb, rfl⟩ := h
      exact st_while o.pas (S0.e C c c' hc X o).2 (ih.ss C b b' hb X o hk)
    | cons _ _ => simp [cS] at h
  | For t it b orr pos =>
    cases orr with
    | nil =>
      simp only [cS, Option.bind_eq_bind, Option.bind_eq_some_iff, Option.some.injEq] at h
      obtain ⟨i', hi, t', ht, b', hb, rfl⟩ := h
      obtain ⟨p1, p2⟩ := S0.i C t it i' hi X o
      exact ps_forE o.pas o.calm p1 (S0.t C t t' ht X o) (ih.ss C b b' hb X o hk) p2
    | cons _ _ => simp [cS] at h
  | Break pos =>
    simp only [cS, Option.some.injEq] at h
    subst h
    refine ps_imp ps_break ?_
    rintro E σ H ⟨ρ, M, F, hE, hM, h, P⟩
    exact P.bk ρ M σ H .refl hE hM h
  | Continue pos =>
    simp only [cS, Option.some.injEq] at h
    subst h
    refine ps_imp ps_continue ?_
    rintro E σ H ⟨ρ, M, F, hE, hM, h, P⟩
    exact P.ct ρ M σ H .refl hE hM h
  | Pass pos =>
    simp only [cS, Option.some.injEq] at h
    subst h
    refine ps_imp ps_pass ?_
    rintro E σ H ⟨ρ, M, F, hE, hM, h, P⟩
    exact P.nx ρ M σ H .refl hE hM h
  | Raise a b pos =>
    simp only [cS, Option.some.injEq] at h
    subst h
    refine ps_imp ps_never ?_
    rintro E σ H ⟨ρ, M, F, hE, hM, h, P⟩
    exact h
  | _ => simp [cS] at h
theorem ss_ss (ih : Ss' Γ n) : ∀ C st ir, cSs (n + 1) C st = some ir → ∀ X, Ok Γ C X → X.env.scope.kind = .function → PSs X st (LS X.K (wpSs Γ ir)) := by
  intro C st ir h X o hk
  cases st with
  | nil => simp only [cSs, Option.some.injEq] at h; subst h; exact sts_nil
  | cons s ss =>
    simp only [cSs, Option.bind_eq_bind, Option.bind_eq_some_iff, Option.some.injEq] at h
    obtain ⟨a, ha, r, hr, rfl⟩ := h
    exact sts_cons (wa := wpS Γ a) (wb := wpSs Γ r) (ih.s C s a ha X o hk) (ih.ss C ss r hr X o hk)
theorem ss : ∀ n, Ss' Γ n
  | 0 => ⟨fun C e ir h => by simp [cS] at h, fun C e ir h => by simp [cSs] at h⟩
  | n + 1 => ⟨ss_s (ss n), ss_ss (ss n)⟩
end

/-! ### a def keeps its promise -/
/-- the function g of the table stands at the name x, with ar parameters -/
def Good (P : Program) (w : World) (K : PySem.W.Frag) (mg : Str → Option Value) (base : Heap) (Γ : Gam) (lev : Nat) (x : Str) (g ar : Nat) : Prop :=
  ∃ f fd ps, mg x = some (.ref f) ∧ PySem.W.keepIn K (.ref f) = true ∧ FnOk P w K mg base CX0 lev f fd ps (LSp K ar (Γ g)) ∧ Binds K fd ps [] ∧ ps.length = ar
theorem Good.mono {P : Program} {w : World} {K : PySem.W.Frag} {mg : Str → Option Value} {base : Heap} {Γ : Gam} {l l' : Nat} {x : Str} {g ar : Nat} (h : Good P w K mg base Γ l x g ar) (hl : l ≤ l') : Good P w K mg base Γ l' x g ar :=
  let ⟨f, fd, ps, a, b, c, d, e⟩ := h
  ⟨f, fd, ps, a, b, c.mono hl, d, e⟩
def Sub (M M' : Mem) : Prop := ∀ a ds, M a = some ds → M' a = some ds
theorem Sub.refl {M : Mem} : Sub M M := fun _ _ h => h
theorem Sub.trans {M M1 M2 : Mem} (a : Sub M M1) (b : Sub M1 M2) : Sub M M2 := fun x y h => b x y (a x y h)
theorem Sub.up {M : Mem} {p : Addr} {ds : List D} (h : M p = none) : Sub M (M.up p ds) := fun a es e => by
  rw [up_ne (fun z => by subst z; rw [h] at e; cases e)]; exact e
theorem Sub.none {M M' : Mem} (s : Sub M M') {p : Addr} (h : M' p = Option.none) : M p = Option.none := by
  cases e : M p with
  | none => rfl
  | some ds => rw [s p ds e] at h; cases h

def entry (n : Nat) (ds : List D) : En := ds.map some ++ List.replicate (n - ds.length) Option.none
theorem get_entry : ∀ (ds : List D) (k i : Nat) (d : D), get (ds.map some ++ List.replicate k Option.none) i = some d → ds[i]? = some d
  | [], k, i, d, h => by
    exfalso
    induction k generalizing i with
    | zero => simp [get] at h
    | succ k ih =>
      cases i with
      | zero => simp [get, List.replicate_succ] at h
      | succ i => exact ih i (by simpa [get, List.replicate_succ] using h)
  | e :: ds, k, 0, d, h => by simpa [get] using h
  | e :: ds, k, i + 1, d, h => by simpa using get_entry ds k i d (by simpa [get] using h)
theorem repE_start {K : PySem.W.Frag} {H : Hp} {ds : List D} {vs : List V} {N : List Str} (r : RepL K H ds vs) : RepE K H (entry N.length ds) (L2.start N vs) := by
  refine ⟨?_, fun i d h => ?_⟩
  · unfold entry L2.start
    simp [r.length]
  · have hd := get_entry ds _ i d h
    obtain ⟨v, hv, rv⟩ := r.get hd
    refine ⟨v, ?_, rv⟩
    unfold L2.start
    rw [List.getElem?_append_left (by rw [List.length_map]; exact (List.getElem?_eq_some_iff.mp hv).1), List.getElem?_map, hv]
    rfl
/-- what comes out: memory may be forgotten -/
def Out (q : K1) : K1 := fun d M' => ∃ M'', Sub M'' M' ∧ q d M''
theorem Out.mk {q : K1} {d : D} {M : Mem} (h : q d M) : Out q d M := ⟨M, Sub.refl, h⟩
theorem Out.sub {q : K1} {d : D} {M M' : Mem} (s : Sub M M') (h : q d M) : Out q d M' := ⟨M, s, h⟩
/-- what a body must show -/
def Body (Γ : Gam) (ir : Ss) (N ar : Nat) (p : List D → Mem → K1 → Prop) : Prop := ∀ ds M q, ds.length = ar → p ds M q →
  wpSs Γ ir (entry N ds) M ⟨fun _ M' => Out q .non M', Out q, fun _ _ => False, fun _ _ => False⟩
theorem def_ok {P : Program} {w : World} {K : PySem.W.Frag} {mg : Str → Option Value} {base : Heap} {Γ : Gam} {lev n g : Nat} {x : Str} {st : Stmt} {f : Addr} {fd : FuncData} {ps : List Str} {C : Ct} {ir : Ss}
    (hm : mg x = some (.ref f)) (F : Fun K x x st f fd) (S : FnScope C.N ps (defScope st)) (b : Binds K fd ps []) (hsc : C.sc = defScope st) (hfn : C.fn = fun _ => true)
    (hc : cSs n C (defBody st) = some ir) (hw : Body Γ ir C.N.length ps.length (Γ g))
    (hfns : ∀ y h ar, C.fns.lookup y = some (h, ar) → Good P w K mg base Γ lev y h ar)
    (hcs : ∀ y d, C.cs.lookup y = some d → ∃ u v, mg y = some u ∧ RelV v u ∧ ∀ H, Rep K H d v)
    (hbl : ∀ y, y ∈ bnames → C.fns.lookup y = none → C.cs.lookup y = none → mg y = none) : Good P w K mg base Γ (lev + 1) x g ps.length := by
  refine ⟨f, fd, ps, hm, F.kp, F.ok S (fun vs H Q E h => h.1) (fun cdv A outer s H vs Q E hr h => ?_), b, rfl⟩
  obtain ⟨hl, ds, M, q, r, m, hp, k⟩ := h
  have hdl : ds.length = ps.length := by rw [r.length]; exact hl
  have o : Ok Γ C (cxOf CX0 P w K mg base C.N x (defScope st) f cdv A outer s H E).nox :=
    ⟨rfl, S.nd, hsc.symm, rfl, fun _ _ => rfl, roomU hr, rfl, fun y h ar e => by
      obtain ⟨f', fd', ps', a1, a2, a3, a4, a5⟩ := hfns y h ar e
      exact ⟨f', fd', ps', lev, a1, a2, a3, a4, hr, a5⟩, hcs, hbl⟩
  refine ⟨_, (ss (Γ := Γ) n).ss C _ ir hc _ o S.kind, ?_⟩
  refine ⟨entry C.N.length ds, M, _, repE_start r, m, hw ds M q hdl hp, ?_⟩
  have fin : ∀ d M' v H', Step M H M' H' → Rep K H' d v → RepM K H' M' → (∃ M'', Sub M'' M' ∧ q d M'') → Q v H' := fun d M' v H' s rd m' ⟨M'', sb, z⟩ => by
    refine k d M'' v H' ⟨s.tup, s.frz, s.lst, fun a o hn ho => sb.none (s.dom a o hn ho), s.live⟩ rd (fun a es e => m' a es (sb a es e)) z
  exact ⟨fun ρ' M' σ' H' s _ m' z => fin .non M' .non H' s rfl m' z, fin, fun _ _ _ _ _ _ _ z => z.elim, fun _ _ _ _ _ _ _ z => z.elim⟩
end TB

namespace TB
open PySem PySem.Spec PyProof.Rows L2

/-! ### what the top has left -/
def DefAt (K : PySem.W.Frag) (x : Str) (st : Stmt) : Prop := ∃ (f : Addr) (oc : Value) (od an : Option Addr) (sl : Array (Option Value)) (kV dc pm cd ct : Value),
  PySem.W.nsIn K mainGlobals x = some (some (.ref f)) ∧ K.lookup f = some ⟨oc, od, .func (PySem.W.fnOf x x (defArgs st) (defBody st) (defScope st) .none kV dc pm an cd ct), sl⟩ ∧ PySem.W.codeIn K cd x = true ∧ PySem.W.keepIn K (.ref f) = true
theorem DefAt.mk {K : PySem.W.Frag} {x : Str} {st : Stmt} {f : Addr} {oc : Value} {od an : Option Addr} {sl : Array (Option Value)} {kV dc pm cd ct : Value}
    (a : PySem.W.nsIn K mainGlobals x = some (some (.ref f))) (l : K.lookup f = some ⟨oc, od, .func (PySem.W.fnOf x x (defArgs st) (defBody st) (defScope st) .none kV dc pm an cd ct), sl⟩) (c : PySem.W.codeIn K cd x = true) (k : PySem.W.keepIn K (.ref f) = true) : DefAt K x st :=
  ⟨f, oc, od, an, sl, kV, dc, pm, cd, ct, a, l, c, k⟩
/-- a constant of the module: a pair of ints -/
def ConAt (K : PySem.W.Frag) (x : Str) (d : D) : Prop := ∃ u v, PySem.W.nsIn K mainGlobals x = some (some u) ∧ RelV v u ∧ ∀ H, Rep K H d v
theorem ConAt.int {K : PySem.W.Frag} {x : Str} {i : Int} {t : Tok} (a : PySem.W.nsIn K mainGlobals x = some (some (.int i t))) : ConAt K x (.int i) := ⟨_, .int i, a, ⟨t, rfl⟩, fun _ => rfl⟩
theorem ConAt.str {K : PySem.W.Frag} {x : Str} {i : Str} {t : Tok} (a : PySem.W.nsIn K mainGlobals x = some (some (.str i t))) : ConAt K x (.str i) := ⟨_, .str i, a, ⟨t, rfl⟩, fun _ => rfl⟩
theorem ConAt.pair {K : PySem.W.Frag} {x : Str} {i j : Int} {t u : Tok} {f : Addr} {dd : Option Addr} {n : Nat} {sl : Array (Option Value)} (a : PySem.W.nsIn K mainGlobals x = some (some (.ref f)))
    (l : K.lookup f = some ⟨.type "tuple", dd, .seq #[.int i t, .int j u] n, sl⟩) : ConAt K x (.tup [.int i, .int j]) :=
  ⟨_, .ref f, a, rfl, fun H => ⟨f, [.int i, .int j], rfl, .inr ⟨_, _, n, l, rfl, rfl, line2, .cons ⟨t, rfl⟩ (.cons ⟨u, rfl⟩ .nil)⟩, ⟨_, _, rfl, rfl, _, _, rfl, rfl, rfl⟩, line2⟩⟩

theorem fns_nil {Q : Str → Nat → Nat → Prop} : ∀ y h ar, ([] : List (Str × Nat × Nat)).lookup y = some (h, ar) → Q y h ar := by
  intro y h ar e; simp at e
theorem fns_cons {Q : Str → Nat → Nat → Prop} {x : Str} {h0 a0 : Nat} {l : List (Str × Nat × Nat)} (g : Q x h0 a0) (r : ∀ y h ar, l.lookup y = some (h, ar) → Q y h ar) : ∀ y h ar, ((x, h0, a0) :: l).lookup y = some (h, ar) → Q y h ar := by
  intro y h ar e
  rw [List.lookup_cons] at e
  split at e
  · rename_i hb
    cases e
    have : y = x := by simpa using hb
    subst this
    exact g
  · exact r y h ar e
theorem cs_nil {Q : Str → D → Prop} : ∀ y d, ([] : List (Str × D)).lookup y = some d → Q y d := by
  intro y d e; simp at e
theorem cs_cons {Q : Str → D → Prop} {x : Str} {d0 : D} {l : List (Str × D)} (g : Q x d0) (r : ∀ y d, l.lookup y = some d → Q y d) : ∀ y d, ((x, d0) :: l).lookup y = some d → Q y d := by
  intro y d e
  rw [List.lookup_cons] at e
  split at e
  · rename_i hb
    cases e
    have : y = x := by simpa using hb
    subst this
    exact g
  · exact r y d e
theorem noB_mk {K : PySem.W.Frag} (h1 : PySem.W.nsIn K mainGlobals "len" = some none) (h2 : PySem.W.nsIn K mainGlobals "abs" = some none) (h3 : PySem.W.nsIn K mainGlobals "tuple" = some none) (h4 : PySem.W.nsIn K mainGlobals "list" = some none)
    (h5 : PySem.W.nsIn K mainGlobals "all" = some none) (h6 : PySem.W.nsIn K mainGlobals "any" = some none) (h7 : PySem.W.nsIn K mainGlobals "int" = some none) (h8 : PySem.W.nsIn K mainGlobals "isinstance" = some none) (h9 : PySem.W.nsIn K mainGlobals "bool" = some none)
    (h10 : PySem.W.nsIn K mainGlobals "str" = some none) (h11 : PySem.W.nsIn K mainGlobals "range" = some none) (h12 : PySem.W.nsIn K mainGlobals "enumerate" = some none) (h13 : PySem.W.nsIn K mainGlobals "zip" = some none) (h14 : PySem.W.nsIn K mainGlobals "sum" = some none) (h15 : PySem.W.nsIn K mainGlobals "sorted" = some none) (h16 : PySem.W.nsIn K mainGlobals "set" = some none) (h17 : PySem.W.nsIn K mainGlobals "min" = some none) (h18 : PySem.W.nsIn K mainGlobals "max" = some none) :
    ∀ y, y ∈ bnames → PySem.W.nsIn K mainGlobals y = some none := by
  intro y hy
  simp only [bnames, List.mem_cons, List.not_mem_nil, or_false] at hy
  rcases hy with rfl | rfl | rfl | rfl | rfl | rfl | rfl | rfl | rfl | rfl | rfl | rfl | rfl | rfl | rfl | rfl | rfl | rfl <;> assumption
def NoB (K : PySem.W.Frag) : Prop := ∀ y, y ∈ bnames → PySem.W.nsIn K mainGlobals y = some none

section
variable {P : Program} {w : World} {K : PySem.W.Frag} {mg : Str → Option Value} {base h : Heap} {Γ : Gam} {lev n g : Nat} {x : Str} {st : Stmt} {ps : List Str} {C : Ct} {ir : Ss}
def BindsOk (x : Str) (st : Stmt) (ps : List Str) : Prop := ∀ (kV doc pm : Value) (an : Option Addr) (cdv ct : Value) (us : List Value), us.length = ps.length → bindArgs (PySem.W.fnOf x x (defArgs st) (defBody st) (defScope st) .none kV doc pm an cdv ct) ⟨us, []⟩ = pure (ps.zip us)
theorem good_of (X : K.In h) (G : h.Ns mainGlobals mg) (nb : NoB K) (d : DefAt K x st) (bb : BindsOk x st ps)
    (S : FnScope C.N ps (defScope st)) (hc : cSs n C (defBody st) = some ir) (hw : Body Γ ir C.N.length ps.length (Γ g)) (hsc : C.sc = defScope st) (hfn : C.fn = fun _ => true)
    (hfns : ∀ y h ar, C.fns.lookup y = some (h, ar) → Good P w K mg base Γ lev y h ar)
    (hcs : ∀ y d, C.cs.lookup y = some d → ConAt K y d) : Good P w K mg base Γ (lev + 1) x g ps.length := by
  obtain ⟨f, oc, od, an, sl, kV, dc, pm, cd, ct, a, l, c, k⟩ := d
  have F := fun_mk (st := st) l c k
  refine def_ok (PySem.W.mg_of X G a) F S (F.binds bb) hsc hfn hc hw hfns (fun y d e => ?_) fun y hy _ _ => PySem.W.mg_none_of X G (nb y hy)
  obtain ⟨u, v, h1, h2, h3⟩ := hcs y d e
  exact ⟨u, v, PySem.W.mg_of X G h1, h2, h3⟩
/-- a promise that is never asked -/
theorem good_zero (X : K.In h) (G : h.Ns mainGlobals mg) (d : DefAt K x st) (bb : BindsOk x st ps) (hz : ∀ ds M q, ¬ Γ g ds M q) : Good P w K mg base Γ lev x g ps.length := by
  obtain ⟨f, oc, od, an, sl, kV, dc, pm, cd, ct, a, l, c, k⟩ := d
  have F := fun_mk (st := st) l c k
  exact ⟨f, _, ps, PySem.W.mg_of X G a, k, ⟨fun vs H Q E hh => hh.1, fun A outer s H args us vs Q E hr e0 hb r hs => by
    obtain ⟨_, ds, M, q, _, _, hp, _⟩ := hs
    exact (hz ds M q hp).elim⟩, F.binds bb, rfl⟩
/-- the law's own def -/
theorem law_of {l : PySem.W.OpenLaw} {fa : Addr} (X : K.In h) (G : h.Ns mainGlobals mg) (hfa : mg x = some (.ref fa)) (nb : NoB K) (d : DefAt K x st) (bb : BindsOk x st ps)
    (S : FnScope C.N ps (defScope st)) (hc : cSs n C (defBody st) = some ir) (hw : Body Γ ir C.N.length ps.length (Γ g)) (hsc : C.sc = defScope st) (hfn : C.fn = fun _ => true)
    (hfns : ∀ base, K.In base → base.Ns mainGlobals mg → ∀ y h ar, C.fns.lookup y = some (h, ar) → Good l.prog w K mg base Γ lev y h ar)
    (hcs : ∀ y d, C.cs.lookup y = some d → ConAt K y d) (hps : ps = (["script"] : List Str)) :
    ∃ fd : FuncData, (∀ (s : Shared) (v : Value), BindsTo s fd ⟨[v], []⟩ [("script", v)]) ∧ ∀ base : Heap, K.In base → base.Ns mainGlobals mg → FnOk l.prog w K mg base CX0 (lev + 1) fa fd ["script"] (LSp K 1 (Γ g)) := by
  obtain ⟨f, oc, od, an, sl, kV, dc, pm, cd, ct, a, lk, c, k⟩ := d
  have F := fun_mk (st := st) lk c k
  have e := hfa.symm.trans (PySem.W.mg_of X G a)
  cases e
  subst hps
  refine ⟨_, fun s v => .of_eq (bb kV dc pm an cd ct [v] rfl), fun base hk hg => ?_⟩
  refine F.ok S (fun vs H Q E h => h.1) (fun cdv A outer s H vs Q E hr h => ?_)
  obtain ⟨hl, ds, M, q, r, m, hp, k⟩ := h
  have hdl : ds.length = 1 := by rw [r.length]; exact hl
  have o : Ok Γ C (cxOf CX0 l.prog w K mg base C.N x (defScope st) fa cdv A outer s H E).nox :=
    ⟨rfl, S.nd, hsc.symm, rfl, fun _ _ => rfl, roomU hr, rfl, fun y h ar e => by
      obtain ⟨f', fd', ps', a1, a2, a3, a4, a5⟩ := hfns base hk hg y h ar e
      exact ⟨f', fd', ps', lev, a1, a2, a3, a4, hr, a5⟩, fun y d e => by
      obtain ⟨u, v, h1, h2, h3⟩ := hcs y d e
      exact ⟨u, v, PySem.W.mg_of X G h1, h2, h3⟩, fun y hy _ _ => PySem.W.mg_none_of X G (nb y hy)⟩
  refine ⟨_, (ss (Γ := Γ) n).ss C _ ir hc _ o S.kind, ?_⟩
  refine ⟨entry C.N.length ds, M, _, repE_start r, m, hw ds M q hdl hp, ?_⟩
  have fin : ∀ d M' v H', Step M H M' H' → Rep K H' d v → RepM K H' M' → (∃ M'', Sub M'' M' ∧ q d M'') → Q v H' := fun d M' v H' s rd m' ⟨M'', sb, z⟩ => by
    refine k d M'' v H' ⟨s.tup, s.frz, s.lst, fun a o hn ho => sb.none (s.dom a o hn ho), s.live⟩ rd (fun a es e => m' a es (sb a es e)) z
  exact ⟨fun ρ' M' σ' H' s _ m' z => fin .non M' .non H' s rfl m' z, fin, fun _ _ _ _ _ _ _ z => z.elim, fun _ _ _ _ _ _ _ z => z.elim⟩
end
/-- the promise of a law: the script comes in, True goes out -/
def spLaw : List D → Mem → K1 → Prop := fun ds M q => ∃ a ns, ds = [.scr a ns] ∧ ns.length ≤ 63 ∧ ∀ M', q (.bl true) M'
theorem law_start {K : PySem.W.Frag} {H : Hp} {a : Addr} {ns : List Int} (hl : ns.length ≤ 63) (hO : Only H) (hS : SqL K H a (ns.map V.int)) : LSp K 1 spLaw [.ref a] H (fun v _ => v = .bl true) fun _ _ _ => False := by
  have hF : SqF K H a (ns.map V.int) := by
    rcases hS with (h | ⟨o, h⟩) | h
    · rcases hO a with z | ⟨o, xs, z⟩
      · rw [h] at z; cases z
      · rw [h] at z; cases z
    · exact .inl ⟨o, h⟩
    · exact .inr h
  have hM : RepM K H (fun _ => none) := by
    intro b ds e
    cases e
  have hR : RepL K H [.scr a ns] [.ref a] := RepL.single ⟨rfl, hF⟩
  have hP : spLaw [.scr a ns] (fun _ => none) (fun d _ => d = .bl true) := ⟨a, ns, rfl, hl, fun _ => rfl⟩
  refine ⟨rfl, [.scr a ns], fun _ => none, fun d _ => d = .bl true, hR, hM, hP, ?_⟩
  intro d M' v H' s r m e
  have e : d = .bl true := e
  subst e
  exact r
end TB

namespace TB
open PySem PySem.Spec PyProof.Rows L2

/-! ### defs that raise: a raise is the return of a value that nothing is -/
@[irreducible] def excD (c : Nat) : D := .tup (List.replicate (sizeLine + 1 + c) .non)
theorem excD_rep {K : PySem.W.Frag} {H : Hp} {c : Nat} {v : V} : ¬ Rep K H (excD c) v := by
  unfold excD
  rintro ⟨a, xs, _, _, _, h⟩
  rw [List.length_replicate] at h
  omega
theorem excD_inj {c c' : Nat} (h : excD c = excD c') : c = c' := by
  unfold excD at h
  injection h with h
  have := congrArg List.length h
  rw [List.length_replicate, List.length_replicate] at this
  omega
theorem excD_non {c : Nat} : excD c ≠ .non := by
  unfold excD
  intro h
  cases h
mutual
def cSX (ex : List (Str × Nat)) : Nat → Ct → Stmt → Option S
  | 0, _, _ => none
  | n + 1, C, st => match st with
    | .If c a b _ => (cE n C c).bind fun c' => (cSsX ex n C a).bind fun a' => (cSsX ex n C b).bind fun b' => some (.ite c' a' b')
    | .Raise (some (.Call (.Name x _) [.Constant (.str _) _ _] [] _)) none _ => match ex.lookup x with
      | some c => if C.isGl x && !(x == "__debug__") then some (.ret (.cst (excD c))) else none
      | none => some .stuck
    | st => cS (n + 1) C st
def cSsX (ex : List (Str × Nat)) : Nat → Ct → List Stmt → Option Ss
  | 0, _, _ => none
  | n + 1, C, st => match st with
    | [] => some .nil
    | s :: ss => (cSX ex n C s).bind fun a => (cSsX ex n C ss).bind fun r => some (.cons a r)
end
def LSX (K : PySem.W.Frag) (cls : Nat → Value) (W : WX) (w : En → Mem → Ed → Prop) : TS := fun E σ H => ∃ ρ M F, RepE K H ρ σ ∧ RepM K H M ∧ w ρ M F ∧ Post K M H F E ∧
  ∀ c M' σ' H', Step M H M' H' → RepM K H' M' → F.rt (excD c) M' → W (cls c) none σ' H'
/-- a class of exceptions -/
def ExAt (K : PySem.W.Frag) (mg : Str → Option Value) (x : Str) (v : Value) : Prop := ∃ (C : Addr) (bmB : List Value) (B newId initId : String), v = .ref C ∧ ExcBaseFacts B newId initId bmB ∧ PySem.W.excIn K C bmB newId = true ∧ mg x = some (.ref C) ∧ PySem.W.keepIn K (.ref C) = true ∧
  PySem.W.subIn K (.ref C) (.type "BaseException") = some true ∧ PySem.W.typeIn K (.ref C) = some (.type "type")
section
variable {X : Cx} {cls : Nat → Value} {W : WX} {st : Stmt} {pos : Pos} {w wa wb : En → Mem → Ed → Prop} {wc : En → Mem → K1 → Prop}
theorem PS.nox {t : TS} (h : PS X.nox st t) : PS X st t := ⟨fun pins s σ H D I hw =>
  wpAny_mono (h.run pins s σ H D (I.wish _) hw) (fun _ _ q => q.unwish) fun _ _ z => False.elim z⟩
theorem sx_of (h : PS X.nox st (LS X.K w)) : PS X st (LSX X.K cls W w) := ps_imp (PS.nox h) fun E σ H ⟨ρ, M, F, a, b, c, d, _⟩ => ⟨ρ, M, F, a, b, c, d⟩
theorem sx_if {c : Expr} {as bs : List Stmt} (hc : PT X c (LT X.K wc)) (ha : PSs X as (LSX X.K cls W wa)) (hb : PSs X bs (LSX X.K cls W wb)) :
    PS X (.If c as bs pos) (LSX X.K cls W fun ρ M F => wc ρ M fun x M1 => ∃ k, tru M1 x = some k ∧ if k = true then wa ρ M1 F else wb ρ M1 F) := by
  refine ps_imp (ps_if hc ha hb) ?_
  rintro E σ H ⟨ρ, M, F, hE, hM, h, P, Z⟩
  refine ⟨ρ, M, _, hE, hM, h, fun d1 M1 v1 H1 s1 r1 m1 ⟨b, e, z⟩ => ⟨b, e, ?_⟩⟩
  cases b with
  | true =>
    simp only [if_true] at z ⊢
    exact ⟨ρ, M1, F, hE.keep s1.keep, m1, z, P.step s1, fun c M' σ' H' s => Z c M' σ' H' (s1.trans s)⟩
  | false =>
    simp only [Bool.false_eq_true, if_false] at z ⊢
    exact ⟨ρ, M1, F, hE.keep s1.keep, m1, z, P.step s1, fun c M' σ' H' s => Z c M' σ' H' (s1.trans s)⟩
theorem sxs_nil : PSs X [] (LSX X.K cls W fun ρ M F => F.nx ρ M) := by
  refine pss_imp pss_nil ?_
  rintro E σ H ⟨ρ, M, F, hE, hM, h, P, _⟩
  exact P.nx ρ M σ H .refl hE hM h
theorem sxs_cons {rest : List Stmt} (h1 : PS X st (LSX X.K cls W wa)) (h2 : PSs X rest (LSX X.K cls W wb)) : PSs X (st :: rest) (LSX X.K cls W fun ρ M F => wa ρ M ⟨fun ρ' M' => wb ρ' M' F, F.rt, F.bk, F.ct⟩) := by
  refine pss_imp (pss_cons h1 h2) ?_
  rintro E σ H ⟨ρ, M, F, hE, hM, h, P, Z⟩
  exact ⟨ρ, M, _, hE, hM, h, ⟨fun ρ' M' σ' H' s e m q => ⟨ρ', M', F, e, m, q, P.step s, fun c M2 σ2 H2 s2 => Z c M2 σ2 H2 (s.trans s2)⟩, P.rt, P.bk, P.ct⟩, Z⟩
theorem sx_raise {x m : Str} {j c : Nat} {p p2 pos2 : Pos} {Γ : Gam} (hc : X.calm = true) (tk : Takes X W) (hx : ExAt X.K X.mg x (cls c)) (hg : Gl X x) (hd : (x == ("__debug__" : Str)) = false) :
    PS X (.Raise (some (.Call (.Name x p) [.Constant (.str m) j p2] [] pos)) none pos2) (LSX X.K cls W (wpS Γ (.ret (.cst (excD c))))) := by
  obtain ⟨C, bmB, B, newId, initId, e, F, q, gC, kC, e1, e2⟩ := hx
  refine ps_imp (ps_raise hc tk (pmk_own F q gC kC (raises_own e1 e2) hg hd)) ?_
  rintro E σ H ⟨ρ, M, G, hE, hM, h, P, Z⟩
  have := Z c M σ H .refl hM h
  rw [e] at this
  exact this
end
structure OkX (Γ : Gam) (C : Ct) (ex : List (Str × Nat)) (cls : Nat → Value) (W : WX) (X : Cx) : Prop where
  o : Ok Γ C X.nox
  tk : Takes X W
  ex : ∀ x c, ex.lookup x = some c → ExAt X.K X.mg x (cls c)
  kd : X.env.scope.kind = .function
theorem sx (Γ : Gam) (ex : List (Str × Nat)) (cls : Nat → Value) (W : WX) : ∀ n, (∀ C st ir, cSX ex n C st = some ir → ∀ X, OkX Γ C ex cls W X → PS X st (LSX X.K cls W (wpS Γ ir))) ∧
    (∀ C st ir, cSsX ex n C st = some ir → ∀ X, OkX Γ C ex cls W X → PSs X st (LSX X.K cls W (wpSs Γ ir)))
  | 0 => ⟨fun C st ir h => by simp [cSX] at h, fun C st ir h => by simp [cSsX] at h⟩
  | n + 1 => by
    have ih := sx Γ ex cls W n
    refine ⟨fun C st ir h X o => ?_, fun C st ir h X o => ?_⟩
    · unfold cSX at h
      split at h
      · simp only [Option.bind_eq_some_iff, Option.some.injEq] at h
        obtain ⟨c', hc, a', ha, b', hb, rfl⟩ := h
        exact sx_if (PT.nox (((sd (Γ := Γ) n).e C _ c' hc X.nox o.o).2)) (ih.2 C _ a' ha X o) (ih.2 C _ b' hb X o)
      · split at h
        · rename_i c hl
          split at h
          · rename_i hg
            simp only [Bool.and_eq_true, Bool.not_eq_true'] at hg
            cases h
            refine sx_raise (o.o.calm) o.tk (o.ex _ _ hl) ?_ hg.2
            have h1 := hg.1
            unfold Ct.isGl at h1
            have h2 : X.env.scope = C.sc := o.o.sc
            rw [← h2] at h1
            exact beq_iff_eq.mp h1
          · cases h
        · cases h
          refine sx_of (ps_imp ps_never ?_)
          rintro E σ H ⟨ρ, M, F, hE, hM, h, P⟩
          exact h
      · exact sx_of ((ss (Γ := Γ) (n + 1)).s C _ ir h X.nox o.o o.kd)
    · unfold cSsX at h
      split at h
      · cases h
        exact sxs_nil
      · simp only [Option.bind_eq_some_iff, Option.some.injEq] at h
        obtain ⟨a, ha, r, hr, rfl⟩ := h
        exact sxs_cons (wa := wpS Γ a) (wb := wpSs Γ r) (ih.1 C _ a ha X o) (ih.2 C _ r hr X o)
/-! ### a def that raises keeps its promise -/
def LSpX (K : PySem.W.Frag) (cls : Nat → Value) (n : Nat) (p : List D → Mem → K1 → Prop) : Sp := fun vs H Q E => vs.length = n ∧ ∃ ds M q, RepL K H ds vs ∧ RepM K H M ∧ p ds M q ∧
  (∀ d M' v H', Step M H M' H' → Rep K H' d v → RepM K H' M' → q d M' → Q v H') ∧ ∀ c M' H', Step M H M' H' → RepM K H' M' → q (excD c) M' → E (cls c) none H'
def GoodX (P : Program) (w : World) (K : PySem.W.Frag) (mg : Str → Option Value) (base : Heap) (Γ : Gam) (cls : Nat → Value) (lev : Nat) (x : Str) (g ar : Nat) : Prop :=
  ∃ f fd ps, mg x = some (.ref f) ∧ PySem.W.keepIn K (.ref f) = true ∧ FnOk P w K mg base (L2.CX P w) lev f fd ps (LSpX K cls ar (Γ g)) ∧ Binds K fd ps [] ∧ ps.length = ar
section
variable {P : Program} {w : World} {K : PySem.W.Frag} {mg : Str → Option Value} {base h : Heap} {Γ : Gam} {lev n g : Nat} {x : Str} {st : Stmt} {ps : List Str} {C : Ct} {ir : Ss} {ex : List (Str × Nat)} {cls : Nat → Value}
theorem good_ofX (X : K.In h) (G : h.Ns mainGlobals mg) (nb : NoB K) (d : DefAt K x st) (bb : BindsOk x st ps)
    (S : FnScope C.N ps (defScope st)) (hc : cSsX ex n C (defBody st) = some ir) (hw : Body Γ ir C.N.length ps.length (Γ g)) (hsc : C.sc = defScope st) (hfn : C.fn = fun _ => true)
    (hfns : ∀ y h ar, C.fns.lookup y = some (h, ar) → Good P w K mg base Γ lev y h ar)
    (hcs : ∀ y d, C.cs.lookup y = some d → ConAt K y d) (hex : ∀ y c, ex.lookup y = some c → ExAt K mg y (cls c)) : GoodX P w K mg base Γ cls (lev + 1) x g ps.length := by
  obtain ⟨f, oc, od, an, sl, kV, dc, pm, cd, ct, a, l, c, k⟩ := d
  have F := fun_mk (st := st) l c k
  refine ⟨f, _, ps, PySem.W.mg_of X G a, F.kp, F.okX S (fun vs H Q E h => h.1) (fun cdv A outer s H vs Q E hr h => ?_), F.binds bb, rfl⟩
  obtain ⟨hl, ds, M, q, r, m, hp, kq, ke⟩ := h
  have hdl : ds.length = ps.length := by rw [r.length]; exact hl
  have o : Ok Γ C (cxOf (L2.CX P w) P w K mg base C.N x (defScope st) f cdv A outer s H E).nox :=
    ⟨rfl, S.nd, hsc.symm, rfl, fun _ _ => rfl, roomU hr, rfl, fun y h ar e => by
      obtain ⟨f', fd', ps', a1, a2, a3, a4, a5⟩ := hfns y h ar e
      exact ⟨f', fd', ps', lev, a1, a2, a3, a4, hr, a5⟩, fun y d e => by
      obtain ⟨u, v, h1, h2, h3⟩ := hcs y d e
      exact ⟨u, v, PySem.W.mg_of X G h1, h2, h3⟩, fun y hy _ _ => PySem.W.mg_none_of X G (nb y hy)⟩
  refine ⟨_, (sx Γ ex cls (fun cl d _ H => E cl d H) n).2 C _ ir hc _ ⟨o, takes_of rfl rfl rfl rfl, hex, S.kind⟩, ?_⟩
  have fin : ∀ d M' v H', Step M H M' H' → Rep K H' d v → RepM K H' M' → (∃ M'', Sub M'' M' ∧ q d M'') → Q v H' := fun d M' v H' s rd m' ⟨M'', sb, z⟩ => by
    refine kq d M'' v H' ⟨s.tup, s.frz, s.lst, fun a o hn ho => sb.none (s.dom a o hn ho), s.live⟩ rd (fun a es e => m' a es (sb a es e)) z
  refine ⟨entry C.N.length ds, M, _, repE_start r, m, hw ds M q hdl hp, ⟨fun ρ' M' σ' H' s _ m' z => fin .non M' .non H' s rfl m' z, fin, fun _ _ _ _ _ _ _ z => z.elim, fun _ _ _ _ _ _ _ z => z.elim⟩, fun c M' σ' H' s m' ⟨M'', sb, z⟩ => ?_⟩
  exact ke c M'' H' ⟨s.tup, s.frz, s.lst, fun a o hn ho => sb.none (s.dom a o hn ho), s.live⟩ (fun a es e => m' a es (sb a es e)) z
/-! ### a def that asks one that raises, and gives None where it raised -/
/-- one class of exceptions is caught, the rest is never raised -/
def toldQ (q : K1) : K1 := fun d M' => (∀ c, d = excD c → c = 0 ∧ q .non M') ∧ ((∀ c, d ≠ excD c) → q d M')
/-- the slots themselves as arguments -/
def tPs (n : Nat) : TA := fun σ H Q => ∃ vs : List V, σ = vs.map some ∧ vs.length = n ∧ Q vs H
theorem told_ok {f xe : Str} {gf : Nat} {es : List Expr} {e0 : Expr} {p q rp np rp2 pos' pos cp : Pos} {j : Nat} {c0 : Value} (X : K.In h) (G : h.Ns mainGlobals mg) (d : DefAt K x st) (bb : BindsOk x st ps) (S : FnScope ps ps (defScope st))
    (hb : defBody st = [.Try [.Return (some (.Call (.Name f p) (e0 :: es) [] q)) rp] [.ExceptHandler (some (.Name xe np)) none [.Return (some (.Constant .none j cp)) rp2] pos'] [] [] pos])
    (hf : GoodX P w K mg base Γ cls lev f gf ps.length) (hgf : (defScope st).names.lookup f = some .globalImplicit) (hgx : (defScope st).names.lookup xe = some .globalImplicit)
    (hmx : mg xe = some c0) (hd1 : (f == ("__debug__" : Str)) = false) (hd2 : (xe == ("__debug__" : Str)) = false) (hexm : PySem.W.exmOne K (cls 0) c0 = some true)
    (hpa : ∀ X : Cx, X.N = ps → X.env.scope = defScope st → PA X (e0 :: es) (tPs ps.length)) (hst : ∀ X : Cx, starEach (e0 :: es) X.env = (false, eval e0 X.env) :: starEach es X.env) (hpl : ∀ X : Cx, (backTo q (starEach es X.env)).any (·.1) = false)
    (hg : ∀ ds M q, Γ g ds M q → Γ gf ds M (toldQ q)) : Good P w K mg base Γ (lev + 1) x g ps.length := by
  obtain ⟨f', fd', ps', a1, a2, a3, a4, a5⟩ := hf
  obtain ⟨fA, oc, od, an, sl, kV, dc, pm, cd, ct, a, l, c, k⟩ := d
  have F := fun_mk (st := st) l c k
  refine ⟨fA, _, ps, PySem.W.mg_of X G a, F.kp, F.ok S (fun vs H Q E h => h.1) (fun cdv A outer s H vs Q E hr h => ?_), F.binds bb, rfl⟩
  obtain ⟨hl, ds, M, q, r, m, hp, kq⟩ := h
  refine ⟨fun D σ H => tRet (tCallS (LSpX K cls ps.length (Γ gf)) (WE (wOnly K c0 (fun _ _ _ => tRet (tC .non)) (fun _ _ _ _ => False) D)) (tPs ps.length)) D σ H, ?_, ?_⟩
  · rw [hb]
    exact pss_one (ps_try_only (c := c0) (Wout := fun _ _ _ _ => False) rfl rfl ⟨hgx, hd2, .inl hmx⟩ takes0 (tb := fun W => tRet (tCallS (LSpX K cls ps.length (Γ gf)) (WE W) (tPs ps.length))) (ts := fun _ _ _ => tRet (tC .non))
      (fun W pn xe tk _ => pss_one (ps_ret (pe_callS a3 hr hgf a1 a2 a4 (fun σ => passAt tk σ) (hpa _ rfl rfl) hd1 (hst _) (hpl _)))) (fun a oe cls d pn hz hf => pss_one (ps_ret pe_non)))
  · refine ⟨vs, by unfold L2.start; rw [hl]; simp, hl, hl, ds, M, toldQ q, r, m, hg ds M q hp, fun d M' v H' s rd m' z => ?_, fun c M' H' s m' z => ?_⟩
    · exact kq d M' v H' s rd m' (z.2 fun c e => excD_rep (e ▸ rd))
    · obtain ⟨e, z2⟩ := z.1 c rfl
      subst e
      exact ⟨true, hexm, fun _ a _ => kq .non M' .non H' s rfl m' z2, nofun⟩
theorem star_name {x : Str} {p : Pos} {es : List Expr} (env : Env) : starEach (.Name x p :: es) env = (false, eval (.Name x p) env) :: starEach es env := rfl
theorem pa_1 {X : Cx} {x : Str} {p : Pos} (hN : X.N = [x]) (hx : X.env.scope.names.lookup x = some .local) (hd : (x == ("__debug__" : Str)) = false) (hcd : (x == ("__classdict__" : Str)) = false) : PA X [.Name x p] (tPs 1) := by
  refine pa_imp (pa_cons (pe_var (i := 0) (by rw [hN]; rfl) (.inl hx) hd hcd) pa_nil) ?_
  rintro σ H Q ⟨vs, rfl, h1, hq⟩
  match vs, h1 with
  | [a], _ => exact ⟨a, rfl, hq⟩
theorem pa_2 {X : Cx} {x y : Str} {p p' : Pos} (hN : X.N = [x, y]) (hx : X.env.scope.names.lookup x = some .local) (hy : X.env.scope.names.lookup y = some .local) (hd : (x == ("__debug__" : Str)) = false) (hcd : (x == ("__classdict__" : Str)) = false) (hd' : (y == ("__debug__" : Str)) = false) (hcd' : (y == ("__classdict__" : Str)) = false) : PA X [.Name x p, .Name y p'] (tPs 2) := by
  refine pa_imp (pa_cons (pe_var (i := 0) (by rw [hN]; rfl) (.inl hx) hd hcd) (pa_cons (pe_var (i := 1) (by rw [hN]; rfl) (.inl hy) hd' hcd') pa_nil)) ?_
  rintro σ H Q ⟨vs, rfl, h1, hq⟩
  match vs, h1 with
  | [a, b], _ => exact ⟨a, rfl, b, rfl, hq⟩
theorem GoodX.mono {l l' : Nat} {ar : Nat} (h : GoodX P w K mg base Γ cls l x g ar) (hl : l ≤ l') : GoodX P w K mg base Γ cls l' x g ar :=
  let ⟨f, fd, ps, a, b, c, d, e⟩ := h
  ⟨f, fd, ps, a, b, c.mono hl, d, e⟩
end
/-- what the top has left of a class of exceptions over ValueError -/
def ExIn (K : PySem.W.Frag) (x : Str) : Prop := ∃ C : Addr, PySem.W.nsIn K mainGlobals x = some (some (.ref C)) ∧ PySem.W.excIn K C [.type "ValueError", .type "Exception", .type "BaseException", .type "object"] "ValueError.__new__" = true ∧ PySem.W.keepIn K (.ref C) = true ∧
  PySem.W.subIn K (.ref C) (.type "BaseException") = some true ∧ PySem.W.typeIn K (.ref C) = some (.type "type") ∧ PySem.W.isClsIn K C = true ∧ PySem.W.subIn K (.ref C) (.ref C) = some true
theorem ExIn.mk {K : PySem.W.Frag} {x : Str} {C : Addr} (a : PySem.W.nsIn K mainGlobals x = some (some (.ref C))) (q : PySem.W.excIn K C [.type "ValueError", .type "Exception", .type "BaseException", .type "object"] "ValueError.__new__" = true) (k : PySem.W.keepIn K (.ref C) = true)
    (s : PySem.W.subIn K (.ref C) (.type "BaseException") = some true) (t : PySem.W.typeIn K (.ref C) = some (.type "type")) (i : PySem.W.isClsIn K C = true) (z : PySem.W.subIn K (.ref C) (.ref C) = some true) : ExIn K x := ⟨C, a, q, k, s, t, i, z⟩
theorem ExIn.get {K : PySem.W.Frag} {mg : Str → Option Value} {h : Heap} {x : Str} (e : ExIn K x) (X : K.In h) (G : h.Ns mainGlobals mg) : ∃ C : Addr, mg x = some (.ref C) ∧ ExAt K mg x (.ref C) ∧ PySem.W.exmOne K (.ref C) (.ref C) = some true := by
  obtain ⟨C, a, q, k, s, t, i, z⟩ := e
  have m := PySem.W.mg_of X G a
  refine ⟨C, m, ⟨C, _, _, _, _, rfl, PySem.F.excBase_ValueError, q, m, k, s, t⟩, ?_⟩
  have e1 : (PySem.W.subIn K (.ref C) (.type "BaseException") == some true) = true := by rw [s]; rfl
  have e2 : ((PySem.W.clsIn K C).isSome && PySem.W.typeIn K (.ref C) == some (.type "type")) = true := by
    have i' : (PySem.W.clsIn K C).isSome = true := i
    rw [i', t]; rfl
  show (if (PySem.W.subIn K (.ref C) (.type "BaseException") == some true) = true then (if ((PySem.W.clsIn K C).isSome && PySem.W.typeIn K (.ref C) == some (.type "type")) = true then PySem.W.subIn K (.ref C) (.ref C) else none) else none) = some true
  rw [if_pos e1, if_pos e2]
  exact z
theorem exn_nil {Q : Str → Nat → Prop} : ∀ y c, ([] : List (Str × Nat)).lookup y = some c → Q y c := by
  intro y c e; simp at e
theorem exn_cons {Q : Str → Nat → Prop} {x : Str} {c0 : Nat} {l : List (Str × Nat)} (g : Q x c0) (r : ∀ y c, l.lookup y = some c → Q y c) : ∀ y c, ((x, c0) :: l).lookup y = some c → Q y c := by
  intro y c e
  rw [List.lookup_cons] at e
  split at e
  · rename_i hb
    cases e
    have : y = x := by simpa using hb
    subst this
    exact g
  · exact r y c e
end TB

namespace TB
open PySem PySem.Spec PyProof.Rows L2
/-! Engf: exceptions that are caught by a name and asked for other classes -/
/-- isinstance(e, (c1, ..)), e the exception that the suite holds -/
def rIsET (K : PySem.W.Frag) (D a : Addr) : List V → Hp → VK → Prop := fun xs H Q => ∃ (tp : Addr) (cs : List V) (us : List Value) (b : Bool), xs = [.ref a, .ref tp] ∧ H tp = some (.tup cs) ∧ Paired ClsV cs us ∧ PySem.W.kitAny K (.ref D) us = some b ∧ Q (.bl b) H
theorem call_isET {X : Cx} {a D : Addr} {oe : Obj} {pn : List (Addr × Obj)} (C : ExcC X.K D) (hz : Zc (.ref D) none oe) (hf : ∃ vs, oe.data = .fields vs) : CallR (X.suite a ((a, oe) :: pn)) (.builtin "isinstance") (rIsET X.K D a) := by
  intro pins s σ H xs us Q I r h
  obtain ⟨tp, cs, ws, b, rfl, hT, k, e, q⟩ := h
  obtain ⟨u1, u2, rfl, r1, r2⟩ := vals2 r
  cases (show u1 = Value.ref a from r1)
  cases (show u2 = Value.ref tp from r2)
  obtain ⟨_, its, rv, o, h1, h2, n, h3⟩ := (show ObjOk X.prog X.w H s.heap tp (.tup cs) from I.hok tp _ hT)
  have e3 := ClsV.all k rv
  subst e3
  obtain ⟨oc, od, dt, sl⟩ := o
  simp only at h2 h3
  subst h2 h3
  obtain ⟨hget, _⟩ := I.pin (a, oe) (List.mem_append.mpr (.inl List.mem_cons_self))
  obtain ⟨vs, hv⟩ := hf
  have J : PySem.W.InstAt s.heap a oe D none := by
    obtain ⟨oc, od, oda, osl⟩ := oe
    obtain ⟨h1, h2⟩ := hz
    dsimp only at h1 h2 hv
    subst h1 h2 hv
    exact ⟨hget, rfl, rfl, trivial⟩
  exact PySem.W.kia_tup (PySem.W.handS_kitx_exc C.hg C.hk C.hs C.hd C.ha C.hn C.ht C.hm) I.kIn J h1 e (fun z => nomatch z) fun tk => ⟨.bl b, H, I.kept (t' := tk) fun _ _ z => z, rfl, q⟩
/-- the class of the raised exceptions, and four others of which none of its instances is one -/
structure Not4 (K : PySem.W.Frag) (mg : Str → Option Value) (D : Addr) (y1 y2 y3 y4 : Str) (C1 C2 C3 C4 : Addr) : Prop where
  c : ExcC K D
  m1 : mg y1 = some (.ref C1)
  m2 : mg y2 = some (.ref C2)
  m3 : mg y3 = some (.ref C3)
  m4 : mg y4 = some (.ref C4)
  k : PySem.W.kitAny K (.ref D) [.ref C1, .ref C2, .ref C3, .ref C4] = some false
theorem sui_isE {X : Cx} {a D C1 C2 C3 C4 : Addr} {oe : Obj} {pn : List (Addr × Obj)} {i i7 : Nat} {n y1 y2 y3 y4 : Str} {p1 p2 p3 p4 p5 p6 p8 p9 : Pos} (C : Not4 X.K X.mg D y1 y2 y3 y4 C1 C2 C3 C4) (hz : Zc (.ref D) none oe) (hf : ∃ vs, oe.data = .fields vs)
    (hi : X.N[i]? = some n) (hv : Vis X.env.scope n) (hd : (n == ("__debug__" : Str)) = false) (hcd : (n == ("__classdict__" : Str)) = false)
    (hg : Gl X "isinstance") (hm : X.mg "isinstance" = none) (g1 : Gl X y1) (g2 : Gl X y2) (g3 : Gl X y3) (g4 : Gl X y4) (d1 : (y1 == ("__debug__" : Str)) = false) (d2 : (y2 == ("__debug__" : Str)) = false) (d3 : (y3 == ("__debug__" : Str)) = false) (d4 : (y4 == ("__debug__" : Str)) = false) :
    PE (X.suite a ((a, oe) :: pn)) (.Call (.Name "isinstance" p1) [.Name n p2, .Tuple [.Name y1 p3, .Name y2 p4, .Name y3 p5, .Name y4 p6] i7 p8] [] p9) (fun σ H Q => σ[i]? = some (some (.ref a)) ∧ ∀ T, H T = none → Q (.bl false) (upd H T (.tup [.ref C1, .ref C2, .ref C3, .ref C4]))) := by
  have G : ∀ {y : Str} {Ca : Addr} {p : Pos}, Gl X y → X.mg y = some (.ref Ca) → (y == ("__debug__" : Str)) = false → PE (X.suite a ((a, oe) :: pn)) (.Name y p) (tC (.ref Ca)) := fun hg hm hd => pe_glob (X := X.suite a ((a, oe) :: pn)) hg hm (rfl : RelV (.ref _) (.ref _)) hd
  refine pe_imp (pe_callB (X := X.suite a ((a, oe) :: pn)) (call_isET C.c hz hf) hg hm (by rfl) (pa_cons (pe_var (X := X.suite a ((a, oe) :: pn)) (i := i) hi hv hd hcd) (pa_cons (pe_tup (pa_cons (G g1 C.m1 d1) (pa_cons (G g2 C.m2 d2) (pa_cons (G g3 C.m3 d3) (pa_cons (G g4 C.m4 d4) pa_nil))))) pa_nil))) ?_
  rintro σ H Q ⟨hs, h⟩
  refine ⟨.ref a, hs, ?_⟩
  refine ⟨Nat.le_trans (show 4 ≤ 1000 by decide) (le1000 (Nat.le_refl 1000)), fun T hT => ?_⟩
  exact ⟨T, _, [.ref C1, .ref C2, .ref C3, .ref C4], false, rfl, upd_same, .cons (.own _) (.cons (.own _) (.cons (.own _) (.cons (.own _) .nil))), C.k, h T hT⟩
/-! ### names as arguments -/
def nmE (l : List (Str × Pos)) : List Expr := l.map fun p => .Name p.1 p.2
def tNm (k n : Nat) : TA := fun σ H Q => ∃ vs : List V, vs.length = n ∧ (∀ j v, vs[j]? = some v → σ[k + j]? = some (some v)) ∧ Q vs H
theorem pa_nm {X : Cx} : ∀ (l : List (Str × Pos)) (k : Nat), (∀ j p, l[j]? = some p → X.N[k + j]? = some p.1 ∧ X.env.scope.names.lookup p.1 = some .local ∧ (p.1 == ("__debug__" : Str)) = false ∧ (p.1 == ("__classdict__" : Str)) = false) → PA X (nmE l) (tNm k l.length)
  | [], k, _ => pa_imp pa_nil (by
      rintro σ H Q ⟨vs, h1, _, hq⟩
      cases List.length_eq_zero_iff.mp h1
      exact hq)
  | p :: l, k, h => by
    obtain ⟨a, b, c, d⟩ := h 0 p rfl
    refine pa_imp (pa_cons (es := nmE l) (pe_var (pos := p.2) (i := k) (by simpa using a) (.inl b) c d) (pa_nm l (k + 1) fun j q e => by
      have := h (j + 1) q e
      rwa [Nat.add_assoc, Nat.add_comm 1 j])) ?_
    rintro σ H Q ⟨vs, h1, h2, hq⟩
    match vs, h1 with
    | v :: vs, h1 =>
      refine ⟨v, by simpa using h2 0 v rfl, vs, by simpa using h1, fun j w e => ?_, hq⟩
      have := h2 (j + 1) w e
      rwa [Nat.add_assoc, Nat.add_comm 1 j]
theorem star_nm (env : Env) : ∀ (l : List (Str × Pos)), starEach (nmE l) env = (nmE l).map fun e => (false, eval e env)
  | [] => rfl
  | p :: l => by
    show starEach (.Name p.1 p.2 :: nmE l) env = _
    rw [star_name, star_nm env l]; rfl
theorem pss_when {X : Cx} {ss : List Stmt} {t : TS} {P : Prop} (h : P → PSs X ss t) : PSs X ss (fun D σ H => P ∧ t D σ H) := ⟨fun pins s σ H D I hw => (h hw.1).run pins s σ H D I hw.2⟩
theorem get_put_ne : ∀ (ρ : En) {i j : Nat} (d : D), j ≠ i → get (put ρ i d) j = get ρ j
  | [], _, _, _, _ => rfl
  | _ :: _, 0, 0, _, h => (h rfl).elim
  | _ :: _, 0, _ + 1, _, _ => rfl
  | _ :: _, _ + 1, 0, _, _ => rfl
  | _ :: r, i + 1, j + 1, d, h => get_put_ne r d (by omega)
theorem get_put_eq : ∀ (ρ : En) {i : Nat} (d : D), i < ρ.length → get (put ρ i d) i = some d
  | [], _, _, h => by simp at h
  | _ :: _, 0, _, _ => rfl
  | _ :: r, i + 1, d, h => get_put_eq r d (by simpa using h)
theorem get_clr_ne : ∀ (ρ : En) {i j : Nat}, j ≠ i → get (clr ρ i) j = get ρ j
  | [], _, _, _ => rfl
  | _ :: _, 0, 0, h => (h rfl).elim
  | _ :: _, 0, _ + 1, _ => rfl
  | _ :: _, _ + 1, 0, _ => rfl
  | _ :: r, i + 1, j + 1, h => get_clr_ne r (by omega)
theorem get_ent : ∀ (ds : List D) (k j : Nat) (d : D), ds[j]? = some d → get (ds.map some ++ List.replicate k Option.none) j = some d
  | [], _, _, _, h => by simp at h
  | e :: ds, k, 0, d, h => by simpa [get] using h
  | e :: ds, k, j + 1, d, h => get_ent ds k j d (by simpa using h)
theorem ent_length {n : Nat} {ds : List D} (h : ds.length ≤ n) : (entry n ds).length = n := by unfold entry; simp; omega
theorem RepE.clrO {K : PySem.W.Frag} {H : Hp} {ρ : En} {σ : St} (h : RepE K H ρ σ) (i : Nat) (o : Option V) : RepE K H (TB.clr ρ i) (σ.set i o) := by
  refine ⟨by rw [clr_length, List.length_set]; exact h.1, fun j e q => ?_⟩
  obtain ⟨hne, q⟩ := get_clr ρ i j e q
  obtain ⟨w, a, b⟩ := h.2 j e q
  exact ⟨w, by rw [List.getElem?_set_ne (Ne.symm hne)]; exact a, b⟩
theorem RepE.args {K : PySem.W.Frag} {H : Hp} {ρ : En} {σ : St} (h : RepE K H ρ σ) : ∀ (ds : List D) (k : Nat), (∀ j d, ds[j]? = some d → get ρ (k + j) = some d) → ∃ vs : List V, vs.length = ds.length ∧ (∀ j v, vs[j]? = some v → σ[k + j]? = some (some v)) ∧ RepL K H ds vs
  | [], k, _ => ⟨[], rfl, fun j v e => by simp at e, rfl⟩
  | d :: ds, k, hg => by
    obtain ⟨v, hv, rv⟩ := h.2 k d (by simpa using hg 0 d rfl)
    obtain ⟨vs, h1, h2, h3⟩ := RepE.args h ds (k + 1) fun j e he => by
      have := hg (j + 1) e he
      rwa [Nat.add_assoc, Nat.add_comm 1 j]
    refine ⟨v :: vs, by simp [h1], fun j w e => ?_, v, vs, rfl, rv, h3⟩
    cases j with
    | zero =>
      have : v = w := by simpa using e
      subst this; simpa using hv
    | succ j =>
      have := h2 j w (by simpa using e)
      rwa [Nat.add_assoc, Nat.add_comm 1 j] at this
section
variable {P : Program} {w : World} {K : PySem.W.Frag} {mg : Str → Option Value} {base h : Heap} {Γ : Gam} {lev n g : Nat} {x : Str} {st : Stmt} {ps : List Str} {C : Ct} {ir : Ss} {ex : List (Str × Nat)} {cls : Nat → Value}
/-- what a def of these shapes must say of its names -/
structure ToldS (st : Stmt) (N ps : List Str) (f xe n y1 y2 y3 y4 : Str) : Prop where
  gf : (defScope st).names.lookup f = some .globalImplicit
  gx : (defScope st).names.lookup xe = some .globalImplicit
  gi : (defScope st).names.lookup ("isinstance" : Str) = some .globalImplicit
  g1 : (defScope st).names.lookup y1 = some .globalImplicit
  g2 : (defScope st).names.lookup y2 = some .globalImplicit
  g3 : (defScope st).names.lookup y3 = some .globalImplicit
  g4 : (defScope st).names.lookup y4 = some .globalImplicit
  ln : (defScope st).names.lookup n = some .local
  ps : ∀ y ∈ ps, (defScope st).names.lookup y = some .local ∧ (y == ("__debug__" : Str)) = false ∧ (y == ("__classdict__" : Str)) = false
  db : ∀ y ∈ [f, xe, n, y1, y2, y3, y4], (y == ("__debug__" : Str)) = false
  dc : (n == ("__classdict__" : Str)) = false
theorem told_okE {f xe n y1 y2 y3 y4 mx x0 : Str} {gf i7 j1 j2 : Nat} {l : List (Str × Pos)} {N : List Str} {Dc C1 C2 C3 C4 : Addr} {p p0 q rp np rp2 pos' pos i1 i2 i3 i4 i5 i6 i8 i9 i10 q1 q2 q3 : Pos} (X : K.In h) (G : h.Ns mainGlobals mg) (nb : NoB K) (d : DefAt K x st) (bb : BindsOk x st ps) (S : FnScope N ps (defScope st))
    (hN : N = ps ++ [n]) (hl : ((x0, p0) :: l).map (·.1) = ps)
    (hb : defBody st = [.Try [.Return (some (.Call (.Name f p) (nmE ((x0, p0) :: l)) [] q)) rp] [.ExceptHandler (some (.Name xe np)) (some n) [.Return (some (.IfExp (.UnaryOp .Not (.Call (.Name "isinstance" i1) [.Name n i2, .Tuple [.Name y1 i3, .Name y2 i4, .Name y3 i5, .Name y4 i6] i7 i8] [] i9) i10) (.Constant .none j1 q1) (.Constant (.str mx) j2 q2) q3)) rp2] pos'] [] [] pos])
    (T : ToldS st N ps f xe n y1 y2 y3 y4) (hf : GoodX P w K mg base Γ cls lev f gf ps.length) (hmx : mg xe = some (.ref Dc)) (hcls : cls 0 = .ref Dc) (hexm : PySem.W.exmOne K (.ref Dc) (.ref Dc) = some true) (C : Not4 K mg Dc y1 y2 y3 y4 C1 C2 C3 C4)
    (hg : ∀ ds M q, Γ g ds M q → Γ gf ds M (toldQ q)) : Good P w K mg base Γ (lev + 1) x g ps.length := by
  obtain ⟨f', fd', ps', a1, a2, a3, a4, a5⟩ := hf
  obtain ⟨fA, oc, od, an, sl, kV, dc, pm, cd, ct, a, lk, c, k⟩ := d
  have F := fun_mk (st := st) lk c k
  have D := fun y hy => T.db y hy
  have hi : N[ps.length]? = some n := by rw [hN]; simp
  have hpl : ((x0, p0) :: l).length = ps.length := by rw [← hl, List.length_map]
  have mi : mg ("isinstance" : Str) = none := PySem.W.mg_none_of X G (nb _ (by decide))
  refine ⟨fA, _, ps, PySem.W.mg_of X G a, F.kp, F.ok S (fun vs H Q E h => h.1) (fun cdv A outer s H vs Q E hr h => ?_), F.binds bb, rfl⟩
  obtain ⟨hln, ds, M, q, r, m, hp, kq⟩ := h
  refine ⟨fun D σ H => tRet (tCallS (LSpX K cls ps.length (Γ gf)) (WE (wAs K (.ref Dc) ps.length (fun a cl d => fun D σ H => (cl = .ref Dc ∧ d = none) ∧ tRet (fun σ H Q => σ[ps.length]? = some (some (.ref a)) ∧ ∀ T, H T = none → Q .non (upd H T (.tup [.ref C1, .ref C2, .ref C3, .ref C4]))) D σ H) (fun _ _ _ _ => False) D)) (tNm 0 ((x0, p0) :: l).length)) D σ H, ?_, ?_⟩
  · rw [hb]
    exact pss_one (ps_try_as (c := .ref Dc) (i := ps.length) (Wout := fun _ _ _ _ => False) rfl rfl S.nd hi T.ln ⟨T.gx, D _ (by simp), .inl hmx⟩ takes0 (tb := fun W => tRet (tCallS (LSpX K cls ps.length (Γ gf)) (WE W) (tNm 0 ((x0, p0) :: l).length)))
      (fun W pn xe tk _ => pss_one (ps_ret (pe_callS a3 hr T.gf a1 a2 a4 (fun σ => passAt tk σ) (pa_nm ((x0, p0) :: l) 0 fun j p e => by
        have hm : p.1 ∈ ps := by rw [← hl]; exact List.mem_map.mpr ⟨p, List.mem_of_getElem? e, rfl⟩
        obtain ⟨b1, b2, b3⟩ := T.ps _ hm
        refine ⟨?_, b1, b2, b3⟩
        have e2 : ps[j]? = some p.1 := by rw [← hl, List.getElem?_map, e]; rfl
        show N[0 + j]? = some p.1
        rw [hN, Nat.zero_add, List.getElem?_append_left (List.getElem?_eq_some_iff.mp e2).1, e2]) (D _ (by simp)) (by rw [show nmE ((x0, p0) :: l) = .Name x0 p0 :: nmE l from rfl] at *; exact star_name _) (star_any (star_nm _ l)))))
      (fun a oe cl d pn hz hf => pss_when fun ⟨e1, e2⟩ => by
        subst e1 e2
        refine pss_one (ps_ret (pe_imp (pe_ifExp (pt_not (pt_truth (sui_isE C hz hf hi (.inl T.ln) (D _ (by simp)) T.dc T.gi mi T.g1 T.g2 T.g3 T.g4 (D _ (by simp)) (D _ (by simp)) (D _ (by simp)) (D _ (by simp))) (by intro _; rfl))) pe_non pe_str) ?_))
        rintro σ H Q ⟨h1, h2⟩
        exact ⟨h1, fun T hT => ⟨false, rfl, h2 T hT⟩⟩))
  · refine ⟨vs, by rw [hpl]; exact hln, fun j v e => ?_, hln, ds, M, toldQ q, r, m, hg ds M q hp, fun d M' v H' s rd m' z => ?_, fun c M' H' s m' z => ?_⟩
    · unfold L2.start
      rw [Nat.zero_add, List.getElem?_append_left (by rw [List.length_map]; exact (List.getElem?_eq_some_iff.mp e).1), List.getElem?_map, e]; rfl
    · exact kq d M' v H' s rd m' (z.2 fun c e => excD_rep (e ▸ rd))
    · obtain ⟨e, z2⟩ := z.1 c rfl
      subst e
      rw [hcls]
      refine ⟨true, hexm, fun _ a _ => ⟨⟨rfl, rfl⟩, ?_⟩, nofun⟩
      refine ⟨?_, fun T hT => ?_⟩
      · rw [List.getElem?_set_self]
        unfold L2.start
        rw [hN]
        simp; omega
      · exact kq .non M' .non _ (s.trans (step_new m' hT)) rfl (m'.new hT) z2
/-- told: t, r = None, False; try: t = f(..) except X as n: r = not isinstance(n, ..); return (r, t) -/
def toldQ2 (q : K1) : K1 := fun d M' => (∀ c, d = excD c → c = 0 ∧ q (.tup [.bl true, .non]) M') ∧ ((∀ c, d ≠ excD c) → q (.tup [.bl false, d]) M')
theorem told_ok2 {f xe n t r y1 y2 y3 y4 x0 : Str} {gf i7 n1 : Nat} {l : List (Str × Pos)} {N : List Str} {Dc C1 C2 C3 C4 : Addr} {s1 s3 : Stmt} {p p0 q pt pa np pr pb pos' pos i1 i2 i3 i4 i5 i6 i8 i9 i10 : Pos} {Cc : Ct} (X : K.In h) (G : h.Ns mainGlobals mg) (nb : NoB K) (d : DefAt K x st) (bb : BindsOk x st ps) (S : FnScope N ps (defScope st))
    (hN : N = ps ++ [t, r, n]) (hl : ((x0, p0) :: l).map (·.1) = ps)
    (hb : defBody st = [s1, .Try [.Assign [.Name t pt] (.Call (.Name f p) (nmE ((x0, p0) :: l)) [] q) pa] [.ExceptHandler (some (.Name xe np)) (some n) [.Assign [.Name r pr] (.UnaryOp .Not (.Call (.Name "isinstance" i1) [.Name n i2, .Tuple [.Name y1 i3, .Name y2 i4, .Name y3 i5, .Name y4 i6] i7 i8] [] i9) i10) pb] pos'] [] [] pos, s3])
    (cN : Cc.N = N) (csc : Cc.sc = defScope st) (cfn : Cc.fn = fun _ => true) (cfs : Cc.fns = []) (ccs : Cc.cs = [])
    (h1 : cS n1 Cc s1 = some (.asg (.tp (.cons (.nm ps.length) (.cons (.nm (ps.length + 1)) .nil))) (.tup (.cons (.cst .non) (.cons (.cst (.bl false)) .nil)))))
    (h3 : cS n1 Cc s3 = some (.ret (.tup (.cons (.var (ps.length + 1)) (.cons (.var ps.length) .nil)))))
    (T : ToldS st N ps f xe n y1 y2 y3 y4) (lt : (defScope st).names.lookup t = some .local) (lr : (defScope st).names.lookup r = some .local) (hf : GoodX P w K mg base Γ cls lev f gf ps.length) (hmx : mg xe = some (.ref Dc)) (hcls : cls 0 = .ref Dc) (hexm : PySem.W.exmOne K (.ref Dc) (.ref Dc) = some true) (C : Not4 K mg Dc y1 y2 y3 y4 C1 C2 C3 C4)
    (hg : ∀ ds M q, Γ g ds M q → Γ gf ds M (toldQ2 q)) : Good P w K mg base Γ (lev + 1) x g ps.length := by
  obtain ⟨f', fd', ps', a1, a2, a3, a4, a5⟩ := hf
  obtain ⟨fA, oc, od, an, sl, kV, dc, pm, cd, ct, a, lk, c, k⟩ := d
  have F := fun_mk (st := st) lk c k
  have Dy := fun y hy => T.db y hy
  have hi : N[ps.length + 2]? = some n := by rw [hN]; simp
  have hit : N[ps.length]? = some t := by rw [hN]; simp
  have hir : N[ps.length + 1]? = some r := by rw [hN]; simp
  have lN : N.length = ps.length + 3 := by rw [hN]; simp
  have hpl : ((x0, p0) :: l).length = ps.length := by rw [← hl, List.length_map]
  have mi : mg ("isinstance" : Str) = none := PySem.W.mg_none_of X G (nb _ (by decide))
  refine ⟨fA, _, ps, PySem.W.mg_of X G a, F.kp, F.ok S (fun vs H Q E h => h.1) (fun cdv A outer s H vs Q E hr h => ?_), F.binds bb, rfl⟩
  obtain ⟨hln, ds, M, qq, rr, m, hp, kq⟩ := h
  have hdl : ds.length = ps.length := by rw [rr.length]; exact hln
  have o : Ok Γ Cc (cxOf (L2.CX0) P w K mg base N x (defScope st) fA cdv A outer s H E).nox :=
    ⟨cN.symm, by rw [cN]; exact S.nd, csc.symm, rfl, fun _ _ => rfl, roomU hr, rfl, fun y h ar e => by rw [cfs] at e; simp at e, fun y d e => by rw [ccs] at e; simp at e, fun y hy _ _ => PySem.W.mg_none_of X G (nb y hy)⟩
  have P1 := ((ss (Γ := Γ) n1).s Cc _ _ h1 _ o S.kind)
  have P3 := ((ss (Γ := Γ) n1).s Cc _ _ h3 _ o S.kind)
  have P2 := fun (E2 : Prop) => ps_try_as (X := (cxOf (L2.CX0) P w K mg base N x (defScope st) fA cdv A outer s H E).nox) (body := [.Assign [.Name t pt] (.Call (.Name f p) (nmE ((x0, p0) :: l)) [] q) pa]) (suite := []) (b₀ := .Assign [.Name r pr] (.UnaryOp .Not (.Call (.Name "isinstance" i1) [.Name n i2, .Tuple [.Name y1 i3, .Name y2 i4, .Name y3 i5, .Name y4 i6] i7 i8] [] i9) i10) pb) (pos := pos) (pos' := pos') (np := np)
      (x := xe) (n := n) (c := .ref Dc) (i := ps.length + 2) (Wout := fun _ _ _ _ => False) rfl rfl S.nd hi T.ln ⟨T.gx, Dy _ (by simp), .inl hmx⟩ takes0 (tb := fun W => tAsg (tCallS (LSpX K cls ps.length (Γ gf)) (WE W) (tNm 0 ((x0, p0) :: l).length)) (gName ps.length))
      (ts := fun a cl d => fun D σ H => (cl = .ref Dc ∧ d = none) ∧ tAsg (fun σ H Q => σ[ps.length + 2]? = some (some (.ref a)) ∧ ∀ T, H T = none → Q (.bl true) (upd H T (.tup [.ref C1, .ref C2, .ref C3, .ref C4]))) (gName (ps.length + 1)) D σ H)
      (fun W pn xe tk _ => pss_one (ps_asg (pe_callS a3 hr T.gf a1 a2 a4 (fun σ => passAt tk σ) (pa_nm ((x0, p0) :: l) 0 fun j p e => by
        have hm : p.1 ∈ ps := by rw [← hl]; exact List.mem_map.mpr ⟨p, List.mem_of_getElem? e, rfl⟩
        obtain ⟨b1, b2, b3⟩ := T.ps _ hm
        refine ⟨?_, b1, b2, b3⟩
        have e2 : ps[j]? = some p.1 := by rw [← hl, List.getElem?_map, e]; rfl
        show N[0 + j]? = some p.1
        rw [hN, Nat.zero_add, List.getElem?_append_left (List.getElem?_eq_some_iff.mp e2).1, e2]) (Dy _ (by simp)) (by exact star_name _) (star_any (star_nm _ l))) (pg_name S.nd hit (.inl lt) (.inr lt))))
      (fun a oe cl d pn hz hf => pss_when fun ⟨e1, e2⟩ => by
        subst e1 e2
        refine pss_one (ps_asg (pe_imp (pe_not (sui_isE C hz hf hi (.inl T.ln) (Dy _ (by simp)) T.dc T.gi mi T.g1 T.g2 T.g3 T.g4 (Dy _ (by simp)) (Dy _ (by simp)) (Dy _ (by simp)) (Dy _ (by simp)))) ?_) (pg_name S.nd hir (.inl lr) (.inr lr)))
        rintro σ H Q ⟨h1, h2⟩
        exact ⟨h1, fun T hT => ⟨_, rfl, h2 T hT⟩⟩)
  refine ⟨_, by rw [hb]; exact pss_cons P1 (pss_cons (P2 True) (pss_one P3)), ?_⟩
  have e0 : (put (put (entry N.length ds) ps.length .non) (ps.length + 1) (.bl false)).length = ps.length + 3 := by
    rw [put_length, put_length, ent_length (by omega), lN]
  refine ⟨entry N.length ds, M, ⟨fun ρ' M' => ρ' = put (put (entry N.length ds) ps.length .non) (ps.length + 1) (.bl false) ∧ M' = M, fun _ _ => False, fun _ _ => False, fun _ _ => False⟩, repE_start rr, m, ?_, ⟨?_, fun _ _ _ _ _ _ _ z => z.elim, fun _ _ _ _ _ _ _ z => z.elim, fun _ _ _ _ _ _ _ z => z.elim⟩⟩
  · simp only [wpS, wpE, wpEs, wpT, wpTs]
    refine ⟨_, rfl, rfl, _, _, rfl, _, _, rfl, ?_⟩
    first | exact ⟨rfl, rfl, rfl⟩ | simp
  rintro ρ' M' σ' H' s1 rE m1 ⟨rfl, rfl⟩
  have lσ : σ'.length = ps.length + 3 := by rw [← rE.1, e0]
  obtain ⟨vs', l1, l2, l3⟩ := rE.args ds 0 fun j d e => by
    have hj : j < ps.length := by rw [← hdl]; exact (List.getElem?_eq_some_iff.mp e).1
    rw [Nat.zero_add, get_put_ne _ _ (by omega), get_put_ne _ _ (by omega)]
    exact get_ent ds _ j d e
  have fin : ∀ (d1 d2 : D) (ρ3 : En) (σ3 : St) (H3 : Hp) (M3 : Mem), RepE K H3 ρ3 σ3 → RepM K H3 M3 → Step M' H M3 H3 → get ρ3 ps.length = some d2 → get ρ3 (ps.length + 1) = some d1 → qq (.tup [d1, d2]) M3 →
      LS K (wpS Γ (.ret (.tup (.cons (.var (ps.length + 1)) (.cons (.var ps.length) .nil))))) { nx := fun _ H' => Q .non H', rt := Q } σ3 H3 := fun d1 d2 ρ3 σ3 H3 M3 rE3 m3 s3 g2 g1 hq => by
    refine ⟨ρ3, M3, ⟨fun _ _ => False, qq, fun _ _ => False, fun _ _ => False⟩, rE3, m3, ?_, ⟨fun _ _ _ _ _ _ _ z => z.elim, fun d M4 v H4 s4 rd m4 z => kq d M4 v H4 (s3.trans s4) rd m4 z, fun _ _ _ _ _ _ _ z => z.elim, fun _ _ _ _ _ _ _ z => z.elim⟩⟩
    simp only [wpS, wpE, wpEs]
    exact ⟨d1, g1, d2, g2, hq⟩
  refine ⟨vs', by rw [hpl, l1, hdl], fun j v e => by simpa using l2 j v e, by rw [l1, hdl], ds, M', toldQ2 qq, l3, m1, hg ds M' qq hp, fun d M2 v H2 s2 rd m2 z => ?_, fun c M2 H2 s2 m2 z => ?_⟩
  · refine fin (.bl false) d (put (put (put (entry N.length ds) ps.length .non) (ps.length + 1) (.bl false)) ps.length d) _ _ M2 ((rE.keep s2.keep).put rd) m2 (s1.trans s2) ?_ ?_ (z.2 fun c e => excD_rep (e ▸ rd))
    · rw [get_put_eq _ _ (by omega)]
    · rw [get_put_ne _ _ (by omega), get_put_eq _ _ (by rw [put_length, ent_length (by omega), lN]; omega)]
  · obtain ⟨e, z2⟩ := z.1 c rfl
    subst e
    rw [hcls]
    refine ⟨true, hexm, fun _ a _ => ⟨⟨rfl, rfl⟩, ?_, fun T hT => ?_⟩, nofun⟩
    · rw [List.getElem?_set_self (by omega)]
    · have r3 : RepE K (upd H2 T (.tup [.ref C1, .ref C2, .ref C3, .ref C4])) (clr (put (clr (put (put (entry N.length ds) ps.length .non) (ps.length + 1) (.bl false)) (ps.length + 2)) (ps.length + 1) (.bl true)) (ps.length + 2)) (((σ'.set (ps.length + 2) (some (.ref a))).set (ps.length + 1) (some (.bl true))).set (ps.length + 2) none) :=
        ((((rE.keep s2.keep).keep (keep_new hT)).clrO _ _).put (d := .bl true) (v := .bl true) rfl).clrO _ _
      refine fin (.bl true) .non _ _ _ M2 r3 (m2.new hT) ((s1.trans s2).trans (step_new m2 hT)) ?_ ?_ z2
      · rw [get_clr_ne _ (by omega), get_put_ne _ _ (by omega), get_clr_ne _ (by omega), get_put_ne _ _ (by omega), get_put_eq _ _ (by rw [ent_length (by omega), lN]; omega)]
      · rw [get_clr_ne _ (by omega), get_put_eq _ _ (by rw [clr_length, e0]; omega)]
end
/-- the same def asked where it does not raise -/
def strictQ (q : K1) : K1 := fun d M' => (∀ c, d ≠ excD c) ∧ q d M'
def strictP (p : List D → Mem → K1 → Prop) : List D → Mem → K1 → Prop := fun ds M q => p ds M (strictQ q)
theorem good_strict {P : Program} {w : World} {K : PySem.W.Frag} {mg : Str → Option Value} {base : Heap} {Γ : Gam} {cls : Nat → Value} {l g g' ar : Nat} {x : Str} (h : GoodX P w K mg base Γ cls l x g ar) (hg : ∀ ds M q, Γ g' ds M q → Γ g ds M (strictQ q)) : Good P w K mg base Γ l x g' ar := by
  obtain ⟨f, fd, ps, a, b, F, d, e⟩ := h
  have key : ∀ vs H Q E, LSp K ar (Γ g') vs H Q E → LSpX K cls ar (Γ g) vs H Q (fun _ _ _ => False) := fun vs H Q E ⟨hn, ds, M, q, r, m, hp, kq⟩ => by
    refine ⟨hn, ds, M, strictQ q, r, m, hg ds M q hp, fun d M' v H' s rd m' z => kq d M' v H' s rd m' z.2, fun c M' H' s m' z => ?_⟩
    exact z.1 c rfl
  refine ⟨f, fd, ps, a, b, ⟨fun vs H Q E hh => F.len vs H Q (fun _ _ _ => False) (key vs H Q E hh), fun A outer s H args us vs Q E hr e0 hb r hs => ?_⟩, d, e⟩
  refine codeAny_mono (F.run A outer s H args us vs Q (fun _ _ _ => False) hr e0 hb r (key vs H Q E hs)) fun rr s2 hq => ?_
  cases rr with
  | error e =>
    obtain ⟨_, _, _, _, _, _, _, _, _, _, _, _, z⟩ := hq
    exact z.elim
  | ok fl => cases fl <;> exact hq
/-- what the top has left of the four other classes -/
def N4In (K : PySem.W.Frag) (x y1 y2 y3 y4 : Str) : Prop := ∃ D C1 C2 C3 C4 : Addr, PySem.W.nsIn K mainGlobals x = some (some (.ref D)) ∧ PySem.W.nsIn K mainGlobals y1 = some (some (.ref C1)) ∧ PySem.W.nsIn K mainGlobals y2 = some (some (.ref C2)) ∧ PySem.W.nsIn K mainGlobals y3 = some (some (.ref C3)) ∧ PySem.W.nsIn K mainGlobals y4 = some (some (.ref C4)) ∧
  ExcC K D ∧ PySem.W.kitAny K (.ref D) [.ref C1, .ref C2, .ref C3, .ref C4] = some false
theorem N4In.mk {K : PySem.W.Frag} {x y1 y2 y3 y4 : Str} {D C1 C2 C3 C4 : Addr} (a0 : PySem.W.nsIn K mainGlobals x = some (some (.ref D))) (a1 : PySem.W.nsIn K mainGlobals y1 = some (some (.ref C1))) (a2 : PySem.W.nsIn K mainGlobals y2 = some (some (.ref C2))) (a3 : PySem.W.nsIn K mainGlobals y3 = some (some (.ref C3))) (a4 : PySem.W.nsIn K mainGlobals y4 = some (some (.ref C4)))
    (h1 : PySem.W.findIn K (.ref D) "__getattribute__" = some (some (.builtin "BaseException.__getattribute__"))) (h2 : PySem.W.findIn K (.ref D) "__getattr__" = some none) (h3 : PySem.W.subIn K (.ref D) (.type "BaseException") = some true) (h4 : PySem.W.hasDictIn K D = true) (h5 : PySem.W.findIn K (.ref D) "__class__" = some (some (.builtin "object.__class__")))
    (h6 : PySem.W.specialIn K (.builtin "object.__class__") "__get__" = some (some (.builtin "getset_descriptor.__get__"))) (h7 : PySem.W.takesIn K (.builtin "object.__class__") = some true) (h8 : PySem.W.mroIn K D (.type "object") = some true)
    (k : PySem.W.kitAny K (.ref D) [.ref C1, .ref C2, .ref C3, .ref C4] = some false) : N4In K x y1 y2 y3 y4 := ⟨D, C1, C2, C3, C4, a0, a1, a2, a3, a4, ⟨h1, h2, h3, h4, h5, h6, h7, h8⟩, k⟩
theorem N4In.get {K : PySem.W.Frag} {mg : Str → Option Value} {h : Heap} {x y1 y2 y3 y4 : Str} {Dc : Addr} (e : N4In K x y1 y2 y3 y4) (X : K.In h) (G : h.Ns mainGlobals mg) (hm : mg x = some (.ref Dc)) : ∃ C1 C2 C3 C4 : Addr, Not4 K mg Dc y1 y2 y3 y4 C1 C2 C3 C4 := by
  obtain ⟨D, C1, C2, C3, C4, a0, a1, a2, a3, a4, c, k⟩ := e
  have e := (PySem.W.mg_of X G a0).symm.trans hm
  cases e
  exact ⟨C1, C2, C3, C4, c, PySem.W.mg_of X G a1, PySem.W.mg_of X G a2, PySem.W.mg_of X G a3, PySem.W.mg_of X G a4, k⟩
end TB

namespace TB
open PySem PySem.Spec PyProof.Rows L2

/-! ### sizes -/
def Sz (n : Nat) (i : Int) : Prop := i.natAbs < 2 ^ n
theorem Sz.mono {m n : Nat} {i : Int} (h : Sz m i) (e : m ≤ n) : Sz n i := Nat.lt_of_lt_of_le h (Nat.pow_le_pow_right (by decide) e)
theorem Sz.of_le {n : Nat} {i j : Int} (h : Sz n j) (e : i.natAbs ≤ j.natAbs) : Sz n i := Nat.lt_of_le_of_lt e h
theorem Sz.neg {n : Nat} {i : Int} (h : Sz n i) : Sz n (-i) := by unfold Sz at *; rwa [Int.natAbs_neg]
theorem Sz.add {m k : Nat} {i j : Int} (a : Sz m i) (b : Sz m j) (e : m + 1 ≤ k) : Sz k (i + j) := by
  refine Sz.mono ?_ e
  unfold Sz at *
  have := Int.natAbs_add_le i j
  rw [Nat.pow_succ]; omega
theorem Sz.sub {m k : Nat} {i j : Int} (a : Sz m i) (b : Sz m j) (e : m + 1 ≤ k) : Sz k (i - j) := by
  rw [Int.sub_eq_add_neg]; exact a.add b.neg e
theorem Sz.mul {m n k : Nat} {i j : Int} (a : Sz m i) (b : Sz n j) (e : m + n ≤ k) : Sz k (i * j) := by
  refine Sz.mono ?_ e
  unfold Sz at *
  rw [Int.natAbs_mul, Nat.pow_add]
  exact Nat.mul_lt_mul'' a b
theorem Sz.ok {m n : Nat} {i j : Int} (a : Sz m i) (b : Sz n j) (e : m + n ≤ 999998) : IntMulOk i j :=
  (wide_mul (a := m + 1) (b := n + 1) (a.mono (by omega)) (b.mono (by omega)) (by omega) (by omega) (by omega)).ok
theorem mul_small_left {i j : Int} (h : i.natAbs < 2 ^ 64) : IntMulOk i j := .of_left (intBits_le_64 (by omega) (by omega))
theorem mul_small_right {i j : Int} (h : j.natAbs < 2 ^ 64) : IntMulOk i j := .of_right (intBits_le_64 (by omega) (by omega))
theorem Sz.dv {n : Nat} {j : Int} (h : Sz n j) (e : n ≤ 9000) : DvOk j := by
  unfold DvOk
  by_cases z : j.natAbs = 0
  · rw [z]; decide
  · exact Nat.lt_of_lt_of_le ((Nat.log2_lt z).mpr h) e
theorem Sz.fdiv {n : Nat} {i j : Int} (h : Sz n i) (hj : 0 < j) : Sz n (i.fdiv j) := by
  refine h.of_le ?_
  rw [Int.fdiv_eq_ediv_of_nonneg _ (Int.le_of_lt hj)]
  have := Int.natAbs_ediv_le_natAbs i j
  exact this
theorem Sz.small {n : Nat} {i : Int} (k : Nat) (h : i.natAbs < k) (e : k ≤ 2 ^ n) : Sz n i := Nat.lt_of_lt_of_le h e
theorem Sz.lit {n : Nat} {i : Int} (m : Nat) (h : i.natAbs < 2 ^ m) (e : m ≤ n) : Sz n i := Sz.mono h e

/-! ### ratios -/
def rat (r : Rat) : D := .tup [.int r.num, .int r.den]
structure SzR (n : Nat) (r : Rat) : Prop where
  num : Sz n r.num
  den : Sz n r.den
theorem SzR.mono {m n : Nat} {r : Rat} (h : SzR m r) (e : m ≤ n) : SzR n r := ⟨h.num.mono e, h.den.mono e⟩
theorem SzR.neg {n : Nat} {r : Rat} (h : SzR n r) : SzR n (-r) := ⟨by rw [Rat.neg_num]; exact h.num.neg, by rw [Rat.neg_den]; exact h.den⟩
theorem SzR.divInt {n : Nat} {a b : Int} (ha : Sz n a) (hb : Sz n b) (z : b ≠ 0) : SzR n (Rat.divInt a b) := by
  refine ⟨ha.of_le ?_, hb.of_le ?_⟩
  · rw [Rat.num_divInt]
    refine Nat.le_trans (Int.natAbs_ediv_le_natAbs _ _) ?_
    rw [Int.natAbs_mul]
    rcases Int.lt_or_gt_of_ne z with h | h
    · rw [Int.sign_eq_neg_one_of_neg h]; simp
    · rw [Int.sign_eq_one_of_pos h]; simp
  · rw [Rat.den_divInt, if_neg z]
    simp only [Int.natAbs_natCast]
    exact Nat.div_le_self _ _
theorem rat_add (x y : Rat) : Rat.divInt (x.num * y.den + y.num * x.den) ((x.den : Int) * y.den) = x + y := by
  rw [Rat.add_def', show ((x.den : Int) * y.den) = ((x.den * y.den : Nat) : Int) from by simp, Rat.divInt_ofNat]
theorem rat_sub (x y : Rat) : Rat.divInt (x.num * y.den - y.num * x.den) ((x.den : Int) * y.den) = x - y := by
  rw [Rat.sub_def', show ((x.den : Int) * y.den) = ((x.den * y.den : Nat) : Int) from by simp, Rat.divInt_ofNat]
theorem rat_mul (x y : Rat) : Rat.divInt (x.num * y.num) ((x.den : Int) * y.den) = x * y := by
  rw [Rat.mul_def', show ((x.den : Int) * y.den) = ((x.den * y.den : Nat) : Int) from by simp, Rat.divInt_ofNat]
theorem den_ne (x : Rat) : (x.den : Int) ≠ 0 := by have := x.den_nz; omega
theorem den_pos (x : Rat) : (0 : Int) < x.den := by have := x.den_nz; omega
theorem rat_div (x y : Rat) : Rat.divInt (x.num * y.den) ((x.den : Int) * y.num) = x / y := by
  rw [Rat.div_def, Rat.inv_def]
  conv => rhs; rw [← Rat.num_divInt_den x]
  rw [Rat.divInt_mul_divInt]
theorem SzR.add {m k : Nat} {x y : Rat} (a : SzR m x) (b : SzR m y) (e : 2 * m + 1 ≤ k) : SzR k (x + y) := by
  rw [← rat_add]
  exact .divInt ((a.num.mul b.den (Nat.le_refl _)).add (b.num.mul a.den (by omega)) (by omega)) (a.den.mul b.den (by omega)) (Int.mul_ne_zero (den_ne x) (den_ne y))
theorem SzR.sub {m k : Nat} {x y : Rat} (a : SzR m x) (b : SzR m y) (e : 2 * m + 1 ≤ k) : SzR k (x - y) := by
  rw [← rat_sub]
  exact .divInt ((a.num.mul b.den (Nat.le_refl _)).sub (b.num.mul a.den (by omega)) (by omega)) (a.den.mul b.den (by omega)) (Int.mul_ne_zero (den_ne x) (den_ne y))
theorem SzR.mul {m n k : Nat} {x y : Rat} (a : SzR m x) (b : SzR n y) (e : m + n ≤ k) : SzR k (x * y) := by
  rw [← rat_mul]
  exact .divInt (a.num.mul b.num e) (a.den.mul b.den e) (Int.mul_ne_zero (den_ne x) (den_ne y))
theorem SzR.div {m n k : Nat} {x y : Rat} (a : SzR m x) (b : SzR n y) (z : y ≠ 0) (e : m + n ≤ k) : SzR k (x / y) := by
  rw [← rat_div]
  exact .divInt (a.num.mul b.den e) (a.den.mul b.num e) (Int.mul_ne_zero (den_ne x) (fun h => z (Rat.num_eq_zero.mp h)))

/-- what the code makes of p and q -/
theorem ratio_pos {p q : Int} (h : 0 < q) : D.tup [.int (p.fdiv (Int.gcd p q)), .int (q.fdiv (Int.gcd p q))] = rat (Rat.divInt p q) := by
  have hg : (0 : Int) ≤ Int.gcd p q := Int.natCast_nonneg _
  unfold rat
  rw [Rat.num_divInt, Rat.den_divInt, if_neg (by omega), Int.sign_eq_one_of_pos h, Int.fdiv_eq_ediv_of_nonneg _ hg, Int.fdiv_eq_ediv_of_nonneg _ hg, Int.gcd_comm q p, Int.one_mul]
  congr 3
  rw [Int.natCast_ediv, Int.natAbs_of_nonneg (Int.le_of_lt h)]
theorem gcd_pos {p q : Int} (h : q ≠ 0) : (0 : Int) < Int.gcd p q := by
  have := Int.gcd_pos_of_ne_zero_right p h
  omega
/-- Euclid -/
theorem gcd_step (a b : Int) : Int.gcd b (a.fmod b) = Int.gcd a b := by
  rw [Int.gcd_comm a b]
  have e : a.fmod b = a + b * (-(a.fdiv b)) := by
    have := Int.fmod_def a b
    rw [this, Int.mul_neg]; omega
  rw [e, Int.gcd_add_mul_left_right]
theorem gcd_abs (a b : Int) : Int.gcd a.natAbs b.natAbs = Int.gcd a b := by simp [Int.gcd]
def isRat : D → Bool
  | .tup [.int a, .int b] => decide (0 < b) && decide (Int.gcd a b = 1)
  | _ => false
theorem isRat_len {ds : List D} (h : ds.length ≠ 2) : isRat (.tup ds) = false := by
  unfold isRat
  split
  · rename_i e; cases e; simp at h
  · rfl
theorem isRat_a {a b : D} (h : ∀ i, a ≠ .int i) : isRat (.tup [a, b]) = false := by
  unfold isRat
  split
  · rename_i e; cases e; exact (h _ rfl).elim
  · rfl
theorem isRat_b {a b : D} (h : ∀ i, b ≠ .int i) : isRat (.tup [a, b]) = false := by
  unfold isRat
  split
  · rename_i e; cases e; exact (h _ rfl).elim
  · rfl
theorem isRat_int {a b : Int} : isRat (.tup [.int a, .int b]) = (decide (0 < b) && decide (Int.gcd a b = 1)) := rfl
def isWh : D → Bool
  | .int _ => true
  | _ => false

theorem isWh_int {i : Int} : isWh (.int i) = true := rfl
/-! ### words at known places -/
theorem at0 {α : Type} (a : α) (l : List α) : atI (a :: l) 0 = some a := by simp [atI, ixN]
theorem at1 {α : Type} (a b : α) (l : List α) : atI (a :: b :: l) 1 = some b := by simp [atI, ixN, show (1 : Int) < l.length + 1 + 1 from by omega]
theorem at2 {α : Type} (a b c : α) (l : List α) : atI (a :: b :: c :: l) 2 = some c := by simp [atI, ixN, show (2 : Int) < l.length + 1 + 1 + 1 from by omega]
theorem at3 {α : Type} (a b c d : α) (l : List α) : atI (a :: b :: c :: d :: l) 3 = some d := by simp [atI, ixN, show (3 : Int) < l.length + 1 + 1 + 1 + 1 from by omega]
theorem atNat {α : Type} (l : List α) (i : Nat) : atI l (i : Int) = l[i]? := by
  simp only [atI, ixN, Int.natCast_nonneg, if_true]
  split
  · simp
  · rename_i h
    have : l.length ≤ i := by omega
    simp [this]
theorem atLast {α : Type} (l : List α) (a : α) : atI (l ++ [a]) (-1) = some a := by
  simp only [atI, ixN]
  rw [if_neg (by omega), if_pos (by simp; omega)]
  have : (-1 + ((l ++ [a]).length : Int)).toNat = l.length := by simp; omega
  rw [this]
  simp
end TB

namespace TB
open PySem PySem.Spec PyProof.Rows L2

def sp_is_whole : List D → Mem → K1 → Prop := fun ds M q => ∃ d, ds = [d] ∧ d.pure = true ∧ q (.bl (isWh d)) M
def sp_common_divisor : List D → Mem → K1 → Prop := fun ds M q => ∃ a b, ds = [.int a, .int b] ∧ q (.int (Int.gcd a b)) M
def sp_is_ratio : List D → Mem → K1 → Prop := fun ds M q => ∃ d, ds = [d] ∧ d.pure = true ∧ q (.bl (isRat d)) M
def sp_ratio : List D → Mem → K1 → Prop := fun ds M q => ∃ a b, ds = [.int a, .int b] ∧ b ≠ 0 ∧ Sz 8100 a ∧ Sz 8100 b ∧ q (rat (Rat.divInt a b)) M
def sp_rr (n : Nat) (f : Rat → Rat → D) : List D → Mem → K1 → Prop := fun ds M q => ∃ x y, ds = [rat x, rat y] ∧ SzR n x ∧ SzR n y ∧ q (f x y) M
def sp_plus := sp_rr 4000 fun x y => rat (x + y)
def sp_minus := sp_rr 4000 fun x y => rat (x - y)
def sp_times := sp_rr 4000 fun x y => rat (x * y)
def sp_less := sp_rr 4000 fun x y => .bl (decide (x < y))
def sp_over : List D → Mem → K1 → Prop := fun ds M q => ∃ x y, ds = [rat x, rat y] ∧ SzR 4000 x ∧ SzR 4000 y ∧ y ≠ 0 ∧ q (rat (x / y)) M
def sumR (l : List Rat) : Rat := l.foldl (· + ·) 0
def sp_law_divisor : List D → Mem → K1 → Prop := fun ds M q => ∃ a b, ds = [.int a, .int b] ∧ Sz 8200 a ∧ Sz 8200 b ∧ q (.int (Int.gcd a b)) M
def sp_law_ratio := sp_ratio
def sp_law_plus := sp_plus
def sp_law_times := sp_times

theorem rat_inj {x y : Rat} (h : rat x = rat y) : x = y := by
  unfold rat at h
  injection h with h
  injection h with a h
  injection h with b h
  injection a with a
  injection b with b
  exact Rat.ext a (by omega)
theorem sp_is_whole_eq {d : D} {M : Mem} {q : K1} : sp_is_whole [d] M q = (d.pure = true ∧ q (.bl (isWh d)) M) := by simp [sp_is_whole]
theorem sp_common_divisor_eq {a b : Int} {M : Mem} {q : K1} : sp_common_divisor [.int a, .int b] M q = q (.int (Int.gcd a b)) M := propext ⟨fun ⟨_, _, e, h⟩ => by cases e; exact h, fun h => ⟨_, _, rfl, h⟩⟩
theorem sp_is_ratio_eq {d : D} {M : Mem} {q : K1} : sp_is_ratio [d] M q = (d.pure = true ∧ q (.bl (isRat d)) M) := by simp [sp_is_ratio]
theorem sp_ratio_eq {a b : Int} {M : Mem} {q : K1} : sp_ratio [.int a, .int b] M q = (b ≠ 0 ∧ Sz 8100 a ∧ Sz 8100 b ∧ q (rat (Rat.divInt a b)) M) := propext ⟨fun ⟨_, _, e, h⟩ => by cases e; exact h, fun h => ⟨_, _, rfl, h⟩⟩
theorem sp_law_divisor_eq {a b : Int} {M : Mem} {q : K1} : sp_law_divisor [.int a, .int b] M q = (Sz 8200 a ∧ Sz 8200 b ∧ q (.int (Int.gcd a b)) M) := propext ⟨fun ⟨_, _, e, h⟩ => by cases e; exact h, fun h => ⟨_, _, rfl, h⟩⟩
theorem sp_rr_eq {n : Nat} {f : Rat → Rat → D} {x y : Rat} {M : Mem} {q : K1} : sp_rr n f [rat x, rat y] M q = (SzR n x ∧ SzR n y ∧ q (f x y) M) := by
  unfold sp_rr
  apply propext
  constructor
  · rintro ⟨a, b, h, r⟩
    injection h with h1 h
    injection h with h2 h
    rw [rat_inj h1, rat_inj h2]
    exact r
  · exact fun h => ⟨x, y, rfl, h⟩
theorem sp_over_eq {x y : Rat} {M : Mem} {q : K1} : sp_over [rat x, rat y] M q = (SzR 4000 x ∧ SzR 4000 y ∧ y ≠ 0 ∧ q (rat (x / y)) M) := by
  unfold sp_over
  apply propext
  constructor
  · rintro ⟨a, b, h, r⟩
    injection h with h1 h
    injection h with h2 h
    rw [rat_inj h1, rat_inj h2]
    exact r
  · exact fun h => ⟨x, y, rfl, h⟩
theorem ix_rat0 {x : Rat} {M : Mem} {q : K1} : ixW (rat x) (.int 0) M q = q (.int x.num) M := by simp [ixW, rat, at0]
theorem ix_rat1 {x : Rat} {M : Mem} {q : K1} : ixW (rat x) (.int 1) M q = q (.int x.den) M := by simp [ixW, rat, at1]
theorem ixW_tup {ds : List D} {i : Int} {M : Mem} {q : K1} : ixW (.tup ds) (.int i) M q = ∃ d, atI ds i = some d ∧ q d M := rfl
theorem eqW_int {i j : Int} {M : Mem} {q : Bool → Prop} : eqW (.int i) (.int j) M q = q (decide (i = j)) := by
  simp only [eqW, D.pure, D.depth, deq, Nat.zero_le, true_and]
  rfl
theorem eqW_bl {i j : Bool} {M : Mem} {q : Bool → Prop} : eqW (.bl i) (.bl j) M q = q (i == j) := by
  simp [eqW, D.pure, D.depth, deq]
theorem isT_tup {t : Ty} {xs : List D} {M : Mem} {q : K1} : isTW t [.tup xs] M q = q (.bl (isTy t (.tup xs))) M := rfl
theorem isT_pure {t : Ty} {d : D} (h : d.pure = true) {M : Mem} {q : K1} : isTW t [d] M q = q (.bl (isTy t d)) M := by
  cases d <;> first | rfl | simp [D.pure] at h


/-! ### plain data, bounded -/
def fitN : Nat → D → Bool
  | _, .non => true
  | _, .bl _ => true
  | _, .int _ => true
  | _, .str s => PyData.strOk s
  | k + 1, .tup ds => decide (ds.length ≤ 1000000) && ds.all (fitN k)
  | _, _ => false
theorem fit_pure : ∀ {k : Nat} {d : D}, fitN k d = true → d.pure = true
  | 0, d, h => by cases d <;> simp_all [fitN, D.pure]
  | k + 1, .tup ds, h => by
    simp only [fitN, Bool.and_eq_true, decide_eq_true_eq, List.all_eq_true] at h
    have : ∀ es : List D, (∀ x ∈ es, fitN k x = true) → D.pureL es = true := by
      intro es he
      induction es with
      | nil => rfl
      | cons e es ih => simp only [D.pureL, Bool.and_eq_true]; exact ⟨fit_pure (he e (by simp)), ih fun x hx => he x (by simp [hx])⟩
    exact this ds h.2
  | k + 1, .non, h => rfl
  | k + 1, .bl _, h => rfl
  | k + 1, .int _, h => rfl
  | k + 1, .str _, h => h
  | k + 1, .lst _, h => by simp [fitN] at h
  | k + 1, .scr _ _, h => by simp [fitN] at h
theorem fit_mono : ∀ {k l : Nat} {d : D}, fitN k d = true → k ≤ l → fitN l d = true
  | 0, l, d, h, e => by cases d <;> cases l <;> simp_all [fitN]
  | k + 1, l + 1, .tup ds, h, e => by
    simp only [fitN, Bool.and_eq_true, decide_eq_true_eq, List.all_eq_true] at h ⊢
    exact ⟨h.1, fun x hx => fit_mono (h.2 x hx) (by omega)⟩
  | k + 1, l + 1, .non, h, e => rfl
  | k + 1, l + 1, .bl _, h, e => rfl
  | k + 1, l + 1, .int _, h, e => rfl
  | k + 1, l + 1, .str _, h, e => h
  | k + 1, l + 1, .lst _, h, e => by simp [fitN] at h
  | k + 1, l + 1, .scr _ _, h, e => by simp [fitN] at h
/-- two alike -/
def sp_law_same (k : Nat) : List D → Mem → K1 → Prop := fun ds M q => k ≠ 0 ∧ ∃ a, ds = [a, a] ∧ fitN (k - 1) a = true ∧ q (.bl true) M
theorem sp_law_same_eq {k : Nat} {a b : D} {M : Mem} {q : K1} : sp_law_same (k + 1) [a, b] M q = (a = b ∧ fitN k a = true ∧ q (.bl true) M) := by
  apply propext
  constructor
  · rintro ⟨_, c, h, r⟩
    injection h with h1 h
    injection h with h2 h
    subst h1; subst h2
    exact ⟨rfl, r⟩
  · rintro ⟨rfl, r⟩
    exact ⟨by omega, a, rfl, r⟩
theorem fit_len {k : Nat} {ds : List D} (h : fitN (k + 1) (.tup ds) = true) : ds.length ≤ 1000000 ∧ ∀ d ∈ ds, fitN k d = true := by
  simpa only [fitN, Bool.and_eq_true, decide_eq_true_eq, List.all_eq_true] using h
theorem fit_rat {k : Nat} {x : Rat} : fitN (k + 1) (rat x) = true := by
  cases k <;> simp [rat, fitN]

/-! ### the box of draws -/
def BoxAt (M : Mem) (b c : Addr) : Prop := b ≠ c ∧ ∃ (cells : List Int) (cur seed : Int), M b = some [.lst c, .int cur, .int seed] ∧ M c = some (cells.map D.int) ∧ 0 ≤ cur ∧ 0 ≤ seed ∧ seed < 4294967296 ∧ cells.length ≤ 63
/-- all else stays -/
def Fr (b c : Addr) (M M' : Mem) : Prop := ∀ a ds, a ≠ b → a ≠ c → M a = some ds → M' a = some ds
theorem Fr.refl {b c : Addr} {M : Mem} : Fr b c M M := fun _ _ _ _ h => h
theorem Fr.trans {b c : Addr} {M M1 M2 : Mem} (x : Fr b c M M1) (y : Fr b c M1 M2) : Fr b c M M2 := fun a ds h1 h2 h => y a ds h1 h2 (x a ds h1 h2 h)
theorem Fr.up {b c p : Addr} {M : Mem} {l : List D} (h : M p = Option.none) : Fr b c M (M.up p l) := fun a ds _ _ e => by
  rw [up_ne (fun z => by subst z; rw [h] at e; cases e)]; exact e
theorem Fr.atB {b c : Addr} {M : Mem} {l : List D} : Fr b c M (M.up b l) := fun a ds h _ e => by rw [up_ne h]; exact e
theorem Fr.atC {b c : Addr} {M : Mem} {l : List D} : Fr b c M (M.up c l) := fun a ds _ h e => by rw [up_ne h]; exact e
theorem ne_some {M : Mem} {a p : Addr} {l : List D} (h : M a = some l) (hp : M p = Option.none) : a ≠ p := fun e => by subst e; rw [h] at hp; cases hp
theorem BoxAt.up {M : Mem} {b c p : Addr} {l : List D} (h : BoxAt M b c) (hp : M p = Option.none) : BoxAt (M.up p l) b c := by
  obtain ⟨n, cells, cur, seed, h1, h2, r⟩ := h
  exact ⟨n, cells, cur, seed, by rw [up_ne (ne_some h1 hp)]; exact h1, by rw [up_ne (ne_some h2 hp)]; exact h2, r⟩
theorem BoxAt.nb {M : Mem} {b c p : Addr} (h : BoxAt M b c) (hp : M p = Option.none) : p ≠ b ∧ p ≠ c := by
  obtain ⟨n, cells, cur, seed, h1, h2, r⟩ := h
  exact ⟨(ne_some h1 hp).symm, (ne_some h2 hp).symm⟩
def sp_law_box : List D → Mem → K1 → Prop := fun ds M q => ∃ a ns, ds = [.scr a ns] ∧ ns.length ≤ 63 ∧ ∀ b c M', M b = Option.none → M c = Option.none → BoxAt M' b c → Fr b c M M' → q (.lst b) M'
theorem sp_law_box_eq {a : Addr} {ns : List Int} {M : Mem} {q : K1} : sp_law_box [.scr a ns] M q = (ns.length ≤ 63 ∧ ∀ b c M', M b = Option.none → M c = Option.none → BoxAt M' b c → Fr b c M M' → q (.lst b) M') :=
  propext ⟨fun ⟨_, _, e, h⟩ => by cases e; exact h, fun h => ⟨a, ns, rfl, h⟩⟩
theorem BoxAt.upL {M : Mem} {b c p : Addr} {l : List D} (h : BoxAt M b c) (hb : p ≠ b) (hc : p ≠ c) : BoxAt (M.up p l) b c := by
  obtain ⟨n, cells, cur, seed, h1, h2, r⟩ := h
  exact ⟨n, cells, cur, seed, by rw [up_ne hb.symm]; exact h1, by rw [up_ne hc.symm]; exact h2, r⟩
/-- a draw: something that keeps the box -/
def spDr (P : D → Prop) : List D → Mem → K1 → Prop := fun ds M q => ∃ b c, ds = [.lst b] ∧ BoxAt M b c ∧ ∀ d M', P d → BoxAt M' b c → Fr b c M M' → q d M'
theorem spDr_eq {P : D → Prop} {b : Addr} {M : Mem} {q : K1} : spDr P [.lst b] M q = ∃ c, BoxAt M b c ∧ ∀ d M', P d → BoxAt M' b c → Fr b c M M' → q d M' := propext ⟨fun ⟨_, c, e, h⟩ => by cases e; exact ⟨c, h⟩, fun ⟨c, h⟩ => ⟨b, c, rfl, h⟩⟩
def sp_law_load := spDr fun d => ∃ v, d = .int v ∧ 0 ≤ v
def sp_law_draw : List D → Mem → K1 → Prop := fun ds M q => ∃ b c many, ds = [.lst b, .int many] ∧ BoxAt M b c ∧ 0 < many ∧ Sz 8000 many ∧ ∀ v M', 0 ≤ v → v < many → BoxAt M' b c → Fr b c M M' → q (.int v) M'
theorem sp_law_draw_eq {b : Addr} {many : Int} {M : Mem} {q : K1} : sp_law_draw [.lst b, .int many] M q = ∃ c, BoxAt M b c ∧ 0 < many ∧ Sz 8000 many ∧ ∀ v M', 0 ≤ v → v < many → BoxAt M' b c → Fr b c M M' → q (.int v) M' :=
  propext ⟨fun ⟨_, c, _, e, h⟩ => by cases e; exact ⟨c, h⟩, fun ⟨c, h⟩ => ⟨b, c, many, rfl, h⟩⟩
theorem body1 {Γ : Gam} {ir : Ss} {N : Nat} {p : List D → Mem → K1 → Prop} (h : ∀ d M q, p [d] M q → wpSs Γ ir (entry N [d]) M ⟨fun _ M' => Out q .non M', Out q, fun _ _ => False, fun _ _ => False⟩) : Body Γ ir N 1 p := fun ds M q hl hp => by
  match ds, hl with
  | [d], _ => exact h d M q hp
theorem body2 {Γ : Gam} {ir : Ss} {N : Nat} {p : List D → Mem → K1 → Prop} (h : ∀ d e M q, p [d, e] M q → wpSs Γ ir (entry N [d, e]) M ⟨fun _ M' => Out q .non M', Out q, fun _ _ => False, fun _ _ => False⟩) : Body Γ ir N 2 p := fun ds M q hl hp => by
  match ds, hl with
  | [d, e], _ => exact h d e M q hp
theorem isT_rat {t : Ty} {x : Rat} {M : Mem} {q : K1} : isTW t [rat x] M q = q (.bl (isTy t (rat x))) M := rfl
end TB

namespace TB
open PySem PySem.Spec PyProof.Rows L2
def reps : Nat → En
  | 0 => []
  | n + 1 => Option.none :: reps n
theorem entry_eq {n : Nat} {ds : List D} : entry n ds = ds.map some ++ reps (n - ds.length) := by
  have : ∀ k, List.replicate k (Option.none : Option D) = reps k := fun k => by
    induction k with
    | zero => rfl
    | succ k ih => rw [List.replicate_succ, ih]; rfl
  unfold entry
  rw [this]
/-! ### words on values that are seen -/
section
variable {M : Mem} {q : K1} {r : Bool → Prop} {i j : Int} {a b : Addr} {xs ys : List D} {s t : Str} {k l : Bool} {R : KI} {m : Mem → Prop} {v : D}
theorem add_int : binW .add (.int i) (.int j) M q = q (.int (i + j)) M := rfl
theorem sub_int : binW .sub (.int i) (.int j) M q = q (.int (i - j)) M := rfl
theorem imul_int : binW .mul (.int i) (.int j) M q = (IntMulOk i j ∧ q (.int (i * j)) M) := rfl
theorem fdiv_int : binW .fdiv (.int i) (.int j) M q = ((j ≠ 0 ∧ DvOk j) ∧ q (.int (i.fdiv j)) M) := rfl
theorem mod_int : binW .mod (.int i) (.int j) M q = (j ≠ 0 ∧ q (.int (i.fmod j)) M) := rfl
theorem pow_int : binW .pow (.int i) (.int j) M q = ((0 ≤ j ∧ j ≤ 1000000 ∧ i.natAbs < 2 ^ 64) ∧ q (.int (i ^ j.toNat)) M) := rfl
theorem add_str : binW .add (.str s) (.str t) M q = (s.length + t.length ≤ sizeLine ∧ q (.str (s ++ t)) M) := rfl
theorem add_tup : binW .add (.tup xs) (.tup ys) M q = (xs.length + ys.length ≤ sizeLine ∧ q (.tup (xs ++ ys)) M) := rfl
theorem add_lst : binW .add (.lst a) (.lst b) M q = ∃ xs, M a = some xs ∧ ∃ ys, M b = some ys ∧ xs.length + ys.length ≤ sizeLine ∧ ∀ p, M p = Option.none → q (.lst p) (M.up p (xs ++ ys)) :=
  propext ⟨fun ⟨x, y, h1, h2, h⟩ => ⟨x, h1, y, h2, h⟩, fun ⟨x, h1, y, h2, h⟩ => ⟨x, y, h1, h2, h⟩⟩
theorem mul_tup : binW .mul (.tup xs) (.int j) M q = ((1 ≤ j ∧ j ≤ 1000 ∧ xs.length ≤ 1000) ∧ q (.tup (List.replicate j.toNat xs).flatten) M) := rfl
theorem mul_lst : binW .mul (.lst a) (.int j) M q = ∃ xs, M a = some xs ∧ (0 ≤ j ∧ j ≤ 1000 ∧ xs.length ≤ 1000) ∧ ∀ p, M p = Option.none → q (.lst p) (M.up p (List.replicate j.toNat xs).flatten) := rfl
theorem min_int : minW [.int i, .int j] M q = q (.int (if j < i then j else i)) M := rfl
theorem max_int : maxW [.int i, .int j] M q = q (.int (if i < j then j else i)) M := rfl
theorem min_lst : minW [.lst a] M q = ∃ ds, M a = some ds ∧ ∃ ns, intsOf ds = some ns ∧ 0 < ns.length ∧ ∀ m, m ∈ ns → (∀ y, y ∈ ns → m ≤ y) → q (.int m) M :=
  propext ⟨fun ⟨x, y, h1, h⟩ => ⟨x, h1, y, h⟩, fun ⟨x, h1, y, h⟩ => ⟨x, y, h1, h⟩⟩
theorem max_lst : maxW [.lst a] M q = ∃ ds, M a = some ds ∧ ∃ ns, intsOf ds = some ns ∧ 0 < ns.length ∧ ∀ m, m ∈ ns → (∀ y, y ∈ ns → y ≤ m) → q (.int m) M :=
  propext ⟨fun ⟨x, y, h1, h⟩ => ⟨x, h1, y, h⟩, fun ⟨x, h1, y, h⟩ => ⟨x, y, h1, h⟩⟩
theorem srt_lst : srtW [.lst a] M q = ∃ ds, M a = some ds ∧ ∃ ns, intsOf ds = some ns ∧ ∀ (ns' : List Int) p, ns'.Perm ns → ns'.Pairwise (· ≤ ·) → M p = Option.none → q (.lst p) (M.up p (ns'.map D.int)) :=
  propext ⟨fun ⟨x, y, h1, h⟩ => ⟨x, h1, y, h⟩, fun ⟨x, h1, y, h⟩ => ⟨x, y, h1, h⟩⟩
theorem cmp_isb : cmpW .isN (.bl k) (.bl l) M r = r (decide (k = l)) := rfl
theorem cmp_isntb : cmpW .notN (.bl k) (.bl l) M r = r (!decide (k = l)) := rfl
theorem aug_lst : augW .add (.lst a) (.lst b) M q = ∃ xs, M a = some xs ∧ ∃ ys, M b = some ys ∧ xs.length + ys.length ≤ sizeLine ∧ q (.lst a) (M.up a (xs ++ ys)) :=
  propext ⟨fun ⟨x, y, h1, h2, h⟩ => ⟨x, h1, y, h2, h⟩, fun ⟨x, h1, y, h2, h⟩ => ⟨x, y, h1, h2, h⟩⟩
theorem aug_add : augW .add (.int i) (.int j) M q = q (.int (i + j)) M := rfl
theorem aug_sub : augW .sub (.int i) (.int j) M q = q (.int (i - j)) M := rfl
theorem aug_mul : augW .mul (.int i) (.int j) M q = (IntMulOk i j ∧ q (.int (i * j)) M) := rfl
theorem lt_int : cmpW .lt (.int i) (.int j) M r = r (decide (i < j)) := rfl
theorem le_int : cmpW .le (.int i) (.int j) M r = r (decide (i ≤ j)) := rfl
theorem gt_int : cmpW .gt (.int i) (.int j) M r = r (decide (j < i)) := rfl
theorem ge_int : cmpW .ge (.int i) (.int j) M r = r (decide (j ≤ i)) := rfl
theorem cmp_eq {x y : D} : cmpW .eq x y M r = eqW x y M r := rfl
theorem cmp_ne {x y : D} : cmpW .ne x y M r = eqW x y M fun b => r (!b) := rfl
theorem cmp_in {x y : D} : cmpW .inn x y M r = inW x y M r := rfl
theorem cmp_notin {x y : D} : cmpW .notIn x y M r = inW x y M fun b => r (!b) := rfl
theorem cmp_is {x : D} : cmpW .isN x .non M r = r x.isNon := rfl
theorem cmp_isnt {x : D} : cmpW .notN x .non M r = r (!x.isNon) := rfl
theorem in_tup {x : D} : inW x (.tup xs) M r = (inOk x xs ∧ r (xs.any fun z => deq z x)) := rfl
theorem in_lst {x : D} : inW x (.lst a) M r = ∃ ys, M a = some ys ∧ inOk x ys ∧ r (ys.any fun z => deq z x) := rfl
theorem isNon_int : D.isNon (.int i) = false := rfl
theorem isNon_non : D.isNon .non = true := rfl
theorem isNon_tup : D.isNon (.tup xs) = false := rfl
theorem isNon_rat {x : Rat} : D.isNon (rat x) = false := rfl
theorem ix_tup : ixW (.tup xs) (.int i) M q = ∃ d, atI xs i = some d ∧ q d M := rfl
theorem ix_lst : ixW (.lst a) (.int i) M q = ∃ xs, M a = some xs ∧ ∃ d, atI xs i = some d ∧ q d M :=
  propext ⟨fun ⟨x, y, h1, h⟩ => ⟨x, h1, y, h⟩, fun ⟨x, h1, y, h⟩ => ⟨x, y, h1, h⟩⟩
theorem len_tup : lenW [.tup xs] M q = q (.int xs.length) M := rfl
theorem len_lst : lenW [.lst a] M q = ∃ xs, M a = some xs ∧ q (.int xs.length) M := rfl
theorem len_scr {ns : List Int} : lenW [.scr a ns] M q = q (.int ns.length) M := rfl
theorem abs_int : absW [.int i] M q = q (.int i.natAbs) M := rfl
theorem tuple_lst : tupleW [.lst a] M q = ∃ xs, M a = some xs ∧ q (.tup xs) M := rfl
theorem tuple_tup : tupleW [.tup xs] M q = q (.tup xs) M := rfl
theorem list_tup : listW [.tup xs] M q = ∀ p, M p = Option.none → q (.lst p) (M.up p xs) := rfl
theorem list_lst : listW [.lst a] M q = ∃ ds, M a = some ds ∧ ∀ p, M p = Option.none → q (.lst p) (M.up p ds) := rfl
theorem all_lst : allW [.lst a] M q = ∃ ds, M a = some ds ∧ ∃ bs, blsOf ds = some bs ∧ q (.bl (bs.all id)) M :=
  propext ⟨fun ⟨x, y, h1, h⟩ => ⟨x, h1, y, h⟩, fun ⟨x, h1, y, h⟩ => ⟨x, y, h1, h⟩⟩
theorem sset_lst {a : Addr} : ssetW [.lst a] M q = ∃ ds, M a = some ds ∧ ∃ ns, intsOf ds = some ns ∧ ns.length < 64 ∧ ∀ (ns' : List Int) p, ns'.Pairwise (· < ·) → (∀ k, k ∈ ns' ↔ k ∈ ns) → M p = none → q (.lst p) (M.up p (ns'.map D.int)) :=
  propext ⟨fun ⟨_, _, a, b, c⟩ => ⟨_, a, _, b, c⟩, fun ⟨_, a, _, b, c⟩ => ⟨_, _, a, b, c⟩⟩
theorem rev_tup {ds : List D} : revW [.tup ds] M q = q (.tup ds.reverse) M := rfl
theorem rev_lst {a : Addr} : revW [.lst a] M q = ∃ ds, M a = some ds ∧ ∀ p, M p = none → q (.lst p) (M.up p ds.reverse) := rfl
theorem str_int {i : Int} : strW [.int i] M q = (i.natAbs.log2 < 1920 ∧ q (.str (toString i)) M) := rfl
theorem any_lst : anyW [.lst a] M q = ∃ ds, M a = some ds ∧ ∃ bs, blsOf ds = some bs ∧ q (.bl (bs.any id)) M :=
  propext ⟨fun ⟨x, y, h1, h⟩ => ⟨x, h1, y, h⟩, fun ⟨x, h1, y, h⟩ => ⟨x, y, h1, h⟩⟩
theorem int_int : intW [.int i] M q = q (.int i) M := rfl
theorem int_bl : intW [.bl k] M q = q (.int (if k then 1 else 0)) M := rfl
theorem isT_bl {t : Ty} : isTW t [.bl k] M q = q (.bl (isTy t (.bl k))) M := rfl
theorem isT_int {t : Ty} : isTW t [.int i] M q = q (.bl (isTy t (.int i))) M := rfl
theorem isT_non {t : Ty} : isTW t [.non] M q = q (.bl (isTy t .non)) M := rfl
theorem isT_str {t : Ty} : isTW t [.str s] M q = q (.bl (isTy t (.str s))) M := rfl
theorem isT_lst {t : Ty} : isTW t [.lst a] M q = ∃ ds, M a = some ds ∧ q (.bl (isTy t (.lst a))) M := rfl
theorem tru_int : tru M (.int i) = some (i != 0) := rfl
theorem tru_bl : tru M (.bl k) = some k := rfl
theorem tru_non : tru M .non = some false := rfl
theorem tru_tup : tru M (.tup xs) = some (!xs.isEmpty) := rfl
theorem tru_lst : tru M (.lst a) = (M a).map fun ds => !ds.isEmpty := rfl
theorem set_lst : setW (.lst a) (.int i) v M m = ∃ ds, M a = some ds ∧ ∃ j, ixN ds.length i = some j ∧ m (M.up a (ds.set j v)) :=
  propext ⟨fun ⟨x, y, h1, h⟩ => ⟨x, h1, y, h⟩, fun ⟨x, h1, y, h⟩ => ⟨x, y, h1, h⟩⟩
theorem app_lst : appendW (.lst a) [v] M q = ∃ ds, M a = some ds ∧ ds.length < sizeLine ∧ q .non (M.up a (ds ++ [v])) := rfl
theorem popAt_lst : popAtW (.lst a) [.int i] M q = ∃ ds, M a = some ds ∧ ∃ d j, -(2 ^ 63) ≤ i ∧ i < 2 ^ 63 ∧ seqIndex? i ds.length = some j ∧ ds[j]? = some d ∧ q d (M.up a (ds.eraseIdx j)) :=
  propext ⟨fun ⟨x, d, j, h1, h⟩ => ⟨x, h1, d, j, h⟩, fun ⟨x, h1, d, j, h⟩ => ⟨x, d, j, h1, h⟩⟩
theorem popAt0 : popAtW (.lst a) [.int 0] M q = ∃ ds, M a = some ds ∧ ∃ d, ds.head? = some d ∧ q d (M.up a ds.tail) := by
  rw [popAt_lst]
  apply propext
  constructor
  · rintro ⟨ds, hm, d, j, _, _, h1, h2, h⟩
    refine ⟨ds, hm, d, ?_⟩
    cases ds with
    | nil => simp at h2
    | cons x r =>
      have : j = 0 := by simp [seqIndex?] at h1; omega
      subst this
      simp at h2
      subst h2
      exact ⟨rfl, by simpa using h⟩
  · rintro ⟨ds, hm, d, h1, h⟩
    cases ds with
    | nil => simp at h1
    | cons x r =>
      simp at h1
      subst h1
      refine ⟨_, hm, x, 0, by decide, by decide, ?_, rfl, by simpa using h⟩
      simp [seqIndex?]
theorem mth_c {c : Addr} : (∃ a' ds, c = a' ∧ M a' = some ds) = ∃ ds, M c = some ds := propext ⟨fun ⟨_, ds, e, h⟩ => by cases e; exact ⟨ds, h⟩, fun ⟨ds, h⟩ => ⟨c, ds, rfl, h⟩⟩
theorem pop_lst : popW (.lst a) [] M q = ∃ ds, M a = some ds ∧ ∃ d, ds[ds.length - 1]? = some d ∧ q d (M.up a ds.dropLast) :=
  propext ⟨fun ⟨x, d, h1, h⟩ => ⟨x, h1, d, h⟩, fun ⟨x, h1, d, h⟩ => ⟨x, d, h1, h⟩⟩
theorem ext_tup {ys : List D} : extendW (.lst a) [.tup ys] M q = ∃ xs, M a = some xs ∧ xs.length + ys.length ≤ sizeLine ∧ q .non (M.up a (xs ++ ys)) := rfl
theorem ext_lst : extendW (.lst a) [.lst b] M q = ∃ xs, M a = some xs ∧ ∃ ys, M b = some ys ∧ xs.length + ys.length ≤ sizeLine ∧ q .non (M.up a (xs ++ ys)) :=
  propext ⟨fun ⟨x, y, h1, h2, h⟩ => ⟨x, h1, y, h2, h⟩, fun ⟨x, h1, y, h2, h⟩ => ⟨x, y, h1, h2, h⟩⟩
theorem idx_lst {x : D} : indexW (.lst a) [x] M q = ∃ ys, M a = some ys ∧ ∃ j : Nat, ∃ z, inOk x ys ∧ ys[j]? = some z ∧ deq z x = true ∧ (∀ m z', m < j → ys[m]? = some z' → deq z' x = false) ∧ q (.int j) M :=
  propext ⟨fun ⟨y, j, z, h1, h⟩ => ⟨y, h1, j, z, h⟩, fun ⟨y, h1, j, z, h⟩ => ⟨y, j, z, h1, h⟩⟩
theorem mth_o : (∃ a' ds, D.lst a = .lst a' ∧ M a' = some ds) = ∃ ds, M a = some ds := propext ⟨fun ⟨_, ds, e, h⟩ => by cases e; exact ⟨ds, h⟩, fun ⟨ds, h⟩ => ⟨a, ds, rfl, h⟩⟩
theorem seq_tup : seqW (.tup xs) M R = (xs.length ≤ sizeLine → R xs (fun _ => True) M) := rfl
theorem seq_lst : seqW (.lst a) M R = ∃ ds, M a = some ds ∧ (ds.length ≤ sizeLine → R ds (fun M => M a = some ds) M) := rfl
theorem enum_tup : enumW (.tup xs) M R = (xs.length ≤ sizeLine → R (enumD 0 xs) (fun _ => True) M) := rfl
theorem enum_lst : enumW (.lst a) M R = ∃ ds, M a = some ds ∧ (ds.length ≤ sizeLine → R (enumD 0 ds) (fun M => M a = some ds) M) := rfl
theorem seqOf_tup {es ds : List D} : seqOf (.tup es) M ds = (es = ds) := rfl
theorem seqOf_lst {a : Addr} {ds : List D} : seqOf (.lst a) M ds = (M a = some ds) := rfl
theorem ezip_tup : ezipW (.tup xs) (.tup ys) M R = (xs.length ≤ sizeLine → ys.length ≤ sizeLine → R (enumD 0 (zipD xs ys)) (fun _ => True) M) := rfl
theorem zip_tup : zipW (.tup xs) (.tup ys) M R = (xs.length ≤ sizeLine → ys.length ≤ sizeLine → R (zipD xs ys) (fun _ => True) M) := rfl
theorem zip_tl : zipW (.tup xs) (.lst b) M R = ∃ ys, M b = some ys ∧ (xs.length ≤ sizeLine → ys.length ≤ sizeLine → R (zipD xs ys) (fun M => M b = some ys) M) := rfl
theorem rng1_int : rng1W (.int j) M R = (-(2 ^ 62) ≤ j ∧ j < 2 ^ 62 ∧ R (rngD 0 j.toNat) (fun _ => True) M) := rfl
theorem rng2_int : rng2W (.int i) (.int j) M R = ((-(2 ^ 62) ≤ i ∧ i < 2 ^ 62 ∧ -(2 ^ 62) ≤ j ∧ j < 2 ^ 62) ∧ R (rngD i (j - i).toNat) (fun _ => True) M) := rfl
theorem sl_tup {lo hi : Option Int} : slW (.tup xs) lo hi M q = q (.tup (cutD xs lo hi)) M := rfl
theorem sl_lst {lo hi : Option Int} : slW (.lst a) lo hi M q = ∃ ds, M a = some ds ∧ ∀ p, M p = Option.none → q (.lst p) (M.up p (cutD ds lo hi)) := rfl
theorem sl_scr {ns : List Int} {lo hi : Option Int} : slW (.scr a ns) lo hi M q = (ns.length ≤ sizeLine ∧ ∀ p, M p = Option.none → q (.lst p) (M.up p ((cutD ns lo hi).map D.int))) := rfl
theorem ex_some {α : Type} {x : α} {P : α → Prop} : (∃ y, some x = some y ∧ P y) = P x := propext ⟨fun ⟨_, e, h⟩ => by cases e; exact h, fun h => ⟨x, rfl, h⟩⟩
theorem ex_some1 {α : Type} {x : α} : (∃ y, some x = some y) = True := propext ⟨fun _ => trivial, fun _ => ⟨x, rfl⟩⟩
theorem ex_cons {α : Type} {x : α} {l : List α} {P : α → List α → Prop} : (∃ d r, x :: l = d :: r ∧ P d r) = P x l := propext ⟨fun ⟨_, _, e, h⟩ => by cases e; exact h, fun h => ⟨x, l, rfl, h⟩⟩
theorem ite_t {A B : Prop} : (if true = true then A else B) = A := if_pos rfl
theorem ite_f {A B : Prop} : (if false = true then A else B) = B := if_neg nofun
theorem ix0 {n : Nat} : ixN (n + 1) 0 = some 0 := by simp [ixN, show (0 : Int) < n + 1 from by omega]
theorem ix1 {n : Nat} : ixN (n + 2) 1 = some 1 := by simp [ixN, show (1 : Int) < n + 2 from by omega]
theorem ix2 {n : Nat} : ixN (n + 3) 2 = some 2 := by simp [ixN, show (2 : Int) < n + 3 from by omega]
theorem ix3 {n : Nat} : ixN (n + 4) 3 = some 3 := by simp [ixN, show (3 : Int) < n + 4 from by omega]
theorem up_up {xs' : List D} : (M.up a xs).up a xs' = M.up a xs' := by
  funext c; unfold Mem.up; split <;> rfl
theorem rngD_len {lo : Int} {n : Nat} : (rngD lo n).length = n := by simp [rngD]
theorem blsOf_rep : ∀ {n : Nat} {b : Bool}, blsOf (List.replicate n (.bl b)) = some (List.replicate n b)
  | 0, _ => rfl
  | n + 1, b => by simp [List.replicate_succ, blsOf, blsOf_rep]
theorem blsOf_map : ∀ {bs : List Bool}, blsOf (bs.map D.bl) = some bs
  | [] => rfl
  | b :: bs => by simp [blsOf, blsOf_map]
theorem sumR_take {rs : List Rat} {i : Nat} {r : Rat} (h : rs[i]? = some r) : sumR (rs.take (i + 1)) = sumR (rs.take i) + r := by
  unfold sumR
  rw [List.take_add_one, h]
  simp
theorem rat_neg {x : Rat} : D.tup [.int (-x.num), .int (x.den : Int)] = rat (-x) := rfl
theorem rat01 : D.tup [.int 0, .int 1] = rat 0 := rfl
theorem rat11 : D.tup [.int 1, .int 1] = rat 1 := rfl
end
end TB

namespace TB
open PySem PySem.Spec PyProof.Rows L2
/-! ### the tape of draws -/
def TapeAt (M : Mem) (b c : Addr) : Prop := b ≠ c ∧ ∃ (cells : List Int) (at' : Nat) (cur seed : Int), M b = some [.lst c, .int at', .int cur, .int seed] ∧ M c = some (cells.map D.int) ∧ 0 ≤ cur ∧ cells.length ≤ 80
theorem TapeAt.up {M : Mem} {b c p : Addr} {l : List D} (h : TapeAt M b c) (hp : M p = Option.none) : TapeAt (M.up p l) b c := by
  obtain ⟨n, cells, k, cur, seed, h1, h2, r⟩ := h
  exact ⟨n, cells, k, cur, seed, by rw [up_ne (ne_some h1 hp)]; exact h1, by rw [up_ne (ne_some h2 hp)]; exact h2, r⟩
theorem TapeAt.nb {M : Mem} {b c p : Addr} (h : TapeAt M b c) (hp : M p = Option.none) : p ≠ b ∧ p ≠ c := by
  obtain ⟨n, cells, k, cur, seed, h1, h2, r⟩ := h
  exact ⟨(ne_some h1 hp).symm, (ne_some h2 hp).symm⟩
theorem TapeAt.upL {M : Mem} {b c p : Addr} {l : List D} (h : TapeAt M b c) (hb : p ≠ b) (hc : p ≠ c) : TapeAt (M.up p l) b c := by
  obtain ⟨n, cells, k, cur, seed, h1, h2, r⟩ := h
  exact ⟨n, cells, k, cur, seed, by rw [up_ne hb.symm]; exact h1, by rw [up_ne hc.symm]; exact h2, r⟩
def sp_law_mix : List D → Mem → K1 → Prop := fun ds M q => ∃ n, ds = [.int n] ∧ ∀ v, 0 ≤ v → q (.int v) M
theorem sp_law_mix_eq {n : Int} {M : Mem} {q : K1} : sp_law_mix [.int n] M q = ∀ v, 0 ≤ v → q (.int v) M := propext ⟨fun ⟨_, e, h⟩ => by cases e; exact h, fun h => ⟨n, rfl, h⟩⟩
def sp_law_tape : List D → Mem → K1 → Prop := fun ds M q => ∃ a ns, ds = [.scr a ns] ∧ ns.length ≤ 63 ∧ ∀ b c M', M b = Option.none → M c = Option.none → TapeAt M' b c → Fr b c M M' → q (.lst b) M'
theorem sp_law_tape_eq {a : Addr} {ns : List Int} {M : Mem} {q : K1} : sp_law_tape [.scr a ns] M q = (ns.length ≤ 63 ∧ ∀ b c M', M b = Option.none → M c = Option.none → TapeAt M' b c → Fr b c M M' → q (.lst b) M') :=
  propext ⟨fun ⟨_, _, e, h⟩ => by cases e; exact h, fun h => ⟨a, ns, rfl, h⟩⟩
def sp_law_take : List D → Mem → K1 → Prop := fun ds M q => ∃ b c many, ds = [.lst b, .int many] ∧ TapeAt M b c ∧ 0 < many ∧ Sz 8000 many ∧ ∀ v M', 0 ≤ v → v < many → TapeAt M' b c → Fr b c M M' → q (.int v) M'
theorem sp_law_take_eq {b : Addr} {many : Int} {M : Mem} {q : K1} : sp_law_take [.lst b, .int many] M q = ∃ c, TapeAt M b c ∧ 0 < many ∧ Sz 8000 many ∧ ∀ v M', 0 ≤ v → v < many → TapeAt M' b c → Fr b c M M' → q (.int v) M' :=
  propext ⟨fun ⟨_, c, _, e, h⟩ => by cases e; exact ⟨c, h⟩, fun ⟨c, h⟩ => ⟨b, c, many, rfl, h⟩⟩
/-- draws from the tape -/
def spTp (P : D → Prop) (b : Addr) (M : Mem) (q : K1) : Prop := ∃ c, TapeAt M b c ∧ ∀ d M', P d → TapeAt M' b c → Fr b c M M' → q d M'
theorem eqW_rat {x y : Rat} {M : Mem} {r : Bool → Prop} : eqW (rat x) (rat y) M r = r (decide (x = y)) := by
  have e : ((x.num == y.num) && (((x.den : Int) == (y.den : Int)) && true)) = decide (x = y) := by
    rw [Bool.eq_iff_iff]
    simp only [Bool.and_eq_true, beq_iff_eq, decide_eq_true_eq, and_true]
    constructor
    · rintro ⟨a, b⟩; exact Rat.ext a (by omega)
    · rintro rfl; exact ⟨rfl, rfl⟩
  rw [← e]
  simp only [rat, eqW, D.pure, D.pureL, D.depth, D.depthL, deq, deqL, Bool.and_true, true_and]
  exact propext ⟨fun h => h.2, fun h => ⟨by decide, h⟩⟩
theorem eqW_str {x y : Str} {M : Mem} {r : Bool → Prop} : eqW (.str x) (.str y) M r = ((PyData.strOk x = true ∧ PyData.strOk y = true) ∧ r (x == y)) := by
  simp only [eqW, D.pure, D.depth, deq, Nat.zero_le, and_true]
theorem eqW_rats {x y z w : Rat} {M : Mem} {r : Bool → Prop} : eqW (.tup [rat x, rat y]) (.tup [rat z, rat w]) M r = r (decide (x = z ∧ y = w)) := by
  have e : ∀ x y : Rat, ((x.num == y.num) && (((x.den : Int) == (y.den : Int)) && true)) = decide (x = y) := fun x y => by
    rw [Bool.eq_iff_iff]
    simp only [Bool.and_eq_true, beq_iff_eq, decide_eq_true_eq, and_true]
    constructor
    · rintro ⟨a, b⟩; exact Rat.ext a (by omega)
    · rintro rfl; exact ⟨rfl, rfl⟩
  have e2 : decide (x = z ∧ y = w) = (decide (x = z) && (decide (y = w) && true)) := by rw [Bool.and_true, Bool.decide_and]
  rw [e2, ← e, ← e]
  simp only [rat, eqW, D.pure, D.pureL, D.depth, D.depthL, deq, deqL, Bool.and_true, true_and]
  exact propext ⟨fun h => h.2, fun h => ⟨by decide, h⟩⟩
theorem sl_from1 {α : Type} {a : α} {l : List α} : cutD (a :: l) (some 1) none = l := by
  simp [cutD, HT.sIx]
/-! ### lists that are made -/
theorem SzR.addw {m n k : Nat} {x y : Rat} (a : SzR m x) (b : SzR n y) (e : m + n + 1 ≤ k) : SzR k (x + y) := by
  rw [← rat_add]
  refine .divInt (Sz.add (m := m + n) (a.num.mul b.den (Nat.le_refl _)) (b.num.mul a.den (by omega)) (by omega)) (a.den.mul b.den (by omega)) (Int.mul_ne_zero (den_ne x) (den_ne y))
theorem SzR.subw {m n k : Nat} {x y : Rat} (a : SzR m x) (b : SzR n y) (e : m + n + 1 ≤ k) : SzR k (x - y) := by
  rw [Rat.sub_eq_add_neg]; exact a.addw b.neg e
theorem SzR.zero : SzR 1 0 := ⟨.lit 1 (by decide) (by omega), .lit 1 (by decide) (by omega)⟩
theorem sumR_snoc {l : List Rat} {x : Rat} : sumR (l ++ [x]) = sumR l + x := by simp [sumR]
theorem szR_sum {m : Nat} : ∀ (n : Nat) (l : List Rat), l.length = n → (∀ x ∈ l, SzR m x) → SzR ((m + 1) * n + 1) (sumR l)
  | 0, l, h, _ => by
    have : l = [] := List.length_eq_zero_iff.mp h
    subst this
    exact SzR.zero.mono (by omega)
  | n + 1, l, h, hs => by
    have hne : l ≠ [] := fun e => by subst e; simp at h
    rw [← List.dropLast_concat_getLast hne, sumR_snoc]
    have i1 := szR_sum n l.dropLast (by simp [h]) (fun x hx => hs x ((List.dropLast_sublist l).subset hx))
    exact i1.addw (hs _ (List.getLast_mem hne)) (by rw [Nat.mul_add]; omega)
theorem szR_sums {m k n : Nat} {l : List Rat} (hs : ∀ x ∈ l, SzR m x) (hl : l.length ≤ n) (e : (m + 1) * n + 1 ≤ k) : SzR k (sumR l) :=
  (szR_sum _ l rfl hs).mono (Nat.le_trans (Nat.add_le_add_right (Nat.mul_le_mul_left _ hl) 1) e)
theorem szR_part {m k n : Nat} {l : List Rat} (hs : ∀ x ∈ l, SzR m x) (hl : l.length ≤ n) (e : (m + 1) * n + 1 ≤ k) : ∀ i, SzR k (sumR (l.take i)) := fun i =>
  szR_sums (fun x hx => hs x (List.mem_of_mem_take hx)) (Nat.le_trans (by rw [List.length_take]; omega) hl) e
theorem fm_step {α β : Type} {xs : List α} {i : Nat} {x : α} (h : xs[i]? = some x) (p : α → Bool) (f : α → β) :
    ((xs.take (i + 1)).filter p).map f = ((xs.take i).filter p).map f ++ (if p x then [f x] else []) := by
  rw [List.take_add_one, h]
  simp only [Option.toList, List.filter_append, List.map_append]
  congr 1
  by_cases e : p x <;> simp [e]
theorem map_step {α β : Type} {xs : List α} {i : Nat} {x : α} (h : xs[i]? = some x) (f : α → β) : (xs.take (i + 1)).map f = (xs.take i).map f ++ [f x] := by
  rw [List.take_add_one, h]; simp
theorem rats_get {xs : List Rat} {i : Nat} {d : D} (h : (xs.map rat)[i]? = some d) : ∃ x, d = rat x ∧ xs[i]? = some x := by
  rw [List.getElem?_map, Option.map_eq_some_iff] at h
  obtain ⟨x, h1, rfl⟩ := h
  exact ⟨x, rfl, h1⟩
def sp_sum_of : List D → Mem → K1 → Prop := fun ds M q => ∃ rs : List Rat, (ds = [.tup (rs.map rat)] ∨ ∃ a, ds = [.lst a] ∧ M a = some (rs.map rat)) ∧ (∀ r ∈ rs, SzR 4000 r) ∧ (∀ i, i ≤ rs.length → SzR 4000 (sumR (rs.take i))) ∧ q (rat (sumR rs)) M
end TB

namespace TB
open PySem PySem.Spec PyProof.Rows L2
/-! ### rows of pieces: start, value, slope -/
structure Pc where
  s : Rat
  v : Rat
  k : Rat
def pc (p : Pc) : D := .tup [rat p.s, rat p.v, rat p.k]
def rowD (ps : List Pc) : D := .tup (ps.map pc)
def Pc.at (p : Pc) (x : Rat) : Rat := p.v + p.k * (x - p.s)
/-- the last piece whose start is not above x -/
def pieceAt (ps : List Pc) (x : Rat) : Option Pc := (ps.filter fun p => !decide (x < p.s)).getLast?
/-- the last piece whose start is below x -/
def belowAt (ps : List Pc) (x : Rat) : Option Pc := (ps.filter fun p => decide (p.s < x)).getLast?
def Asc (ps : List Pc) : Prop := ps.Pairwise fun a b => a.s < b.s
/-- where the next piece starts -/
def bd (r : List Pc) : Option Rat := r.head?.map (·.s)
theorem asc_right {l r : List Pc} {p q : Pc} (h : Asc (l ++ p :: r)) (hq : q ∈ r) : p.s < q.s := by
  have := (List.pairwise_append.mp h).2.1
  exact (List.pairwise_cons.mp this).1 q hq
theorem asc_left {l r : List Pc} {p q : Pc} (h : Asc (l ++ p :: r)) (hq : q ∈ l) : q.s < p.s := (List.pairwise_append.mp h).2.2 q hq p (by simp)
theorem bd_le {l r : List Pc} {p q : Pc} {t : Rat} (h : Asc (l ++ p :: r)) (hq : q ∈ r) (hb : bd r = some t) : t ≤ q.s := by
  cases r with
  | nil => simp [bd] at hb
  | cons a r =>
    simp [bd] at hb
    subst hb
    rcases List.mem_cons.mp hq with rfl | hq
    · exact Rat.le_refl
    · have := (List.pairwise_append.mp h).2.1
      have := (List.pairwise_cons.mp (List.pairwise_cons.mp this).2).1 q hq
      exact Rat.le_of_lt this
theorem bd_lt {l r : List Pc} {p : Pc} {t : Rat} (h : Asc (l ++ p :: r)) (hb : bd r = some t) : p.s < t := by
  cases r with
  | nil => simp [bd] at hb
  | cons a r =>
    simp [bd] at hb
    subst hb
    exact asc_right h (by simp)
/-- below the bound -/
def Bl (x : Rat) (b : Option Rat) : Prop := ∀ t, b = some t → x < t
theorem pieceAt_mid {l r : List Pc} {p : Pc} {x : Rat} (h : Asc (l ++ p :: r)) (h1 : p.s ≤ x) (h2 : Bl x (bd r)) : pieceAt (l ++ p :: r) x = some p := by
  have e : r.filter (fun q => !decide (x < q.s)) = [] := by
    rw [List.filter_eq_nil_iff]
    intro q hq
    cases hb : bd r with
    | none => cases r <;> simp [bd] at hb hq
    | some t =>
      have a := h2 t hb
      have b := bd_le h hq hb
      have : x < q.s := by grind
      simp [this]
  unfold pieceAt
  rw [List.filter_append, List.filter_cons, if_pos (by have : ¬ x < p.s := by grind
                                                       simp [this]), e]
  simp
theorem belowAt_mid {l r : List Pc} {p : Pc} {x : Rat} (h : Asc (l ++ p :: r)) (h1 : p.s < x) (h2 : ∀ t, bd r = some t → x ≤ t) : belowAt (l ++ p :: r) x = some p := by
  have e : r.filter (fun q => decide (q.s < x)) = [] := by
    rw [List.filter_eq_nil_iff]
    intro q hq
    cases hb : bd r with
    | none => cases r <;> simp [bd] at hb hq
    | some t =>
      have a := h2 t hb
      have b := bd_le h hq hb
      have : ¬ q.s < x := by grind
      simp [this]
  unfold belowAt
  rw [List.filter_append, List.filter_cons, if_pos (by simpa using h1), e]
  simp
def valAt (ps : List Pc) (x : Rat) : Rat := match pieceAt ps x with
  | some p => p.at x
  | none => 0
def ends : List Pc → List (Pc × Option Rat)
  | [] => []
  | p :: r => (p, bd r) :: ends r
theorem ends_length : ∀ ps : List Pc, (ends ps).length = ps.length
  | [] => rfl
  | p :: r => by simp [ends, ends_length r]
theorem ends_app : ∀ (l : List Pc) (p : Pc) (r : List Pc), (ends (l ++ p :: r))[l.length]? = some (p, bd r)
  | [], p, r => rfl
  | a :: l, p, r => by simpa [ends] using ends_app l p r
end TB

namespace TB
open PySem PySem.Spec PyProof.Rows L2
/-! ### rows that a law draws -/
def bhB (x : Rat) : Option Rat → Bool
  | none => false
  | some t => !decide (x < t)
theorem bh_iff {x : Rat} {e : Option Rat} : bhB x e = false ↔ Bl x e := by
  cases e with
  | none => simp [bhB, Bl]
  | some t => simp [bhB, Bl]
theorem ends_take {R : List Pc} {n : Nat} {p : Pc} (h : R[n]? = some p) : (ends R).take (n + 1) = (ends R).take n ++ [(p, bd (R.drop (n + 1)))] := by
  have hn := (List.getElem?_eq_some_iff.mp h).1
  have hR : R = R.take n ++ p :: R.drop (n + 1) := by
    have := List.take_append_drop n R
    rw [List.drop_eq_getElem_cons hn] at this
    rw [(List.getElem?_eq_some_iff.mp h).2] at this
    exact this.symm
  have e := ends_app (R.take n) p (R.drop (n + 1))
  rw [← hR, List.length_take, Nat.min_eq_left (Nat.le_of_lt hn)] at e
  rw [List.take_add_one, e]
  rfl
structure Rw (R : List Pc) : Prop where
  asc : Asc R
  ne : R ≠ []
  zero : ∀ p, R.head? = some p → p.s = 0
theorem Rw.nonneg {R : List Pc} (h : Rw R) : ∀ p ∈ R, 0 ≤ p.s := by
  intro p hp
  cases R with
  | nil => cases hp
  | cons a r =>
    have z := h.zero a rfl
    rcases List.mem_cons.mp hp with rfl | hp
    · rw [z]; exact Rat.le_refl
    · have := (List.pairwise_cons.mp h.asc).1 p hp
      grind
structure SzP (p : Pc) : Prop where
  s : SzR 26 p.s
  v : SzR 300 p.v
  k : SzR 8 p.k
/-- pieces of any row that is reckoned -/
structure SzW (p : Pc) : Prop where
  s : SzR 1000 p.s
  v : SzR 1000 p.v
  k : SzR 300 p.k
theorem SzP.w {p : Pc} (h : SzP p) : SzW p := ⟨h.s.mono (by omega), h.v.mono (by omega), h.k.mono (by omega)⟩
structure RwOk (R : List Pc) : Prop where
  rw : Rw R
  len : R.length ≤ 5
  sz : ∀ p ∈ R, SzP p
  half : ∀ p ∈ R, p.s = 0 ∨ 1 / 2 ≤ p.s
  lat : ∀ p ∈ R, ∃ m : Int, p.s = (m : Rat) * (1 / 2)
def optD : Option Rat → D
  | none => .non
  | some h => rat h
def peD (pe : Pc × Option Rat) : D := .tup [rat pe.1.s, rat pe.1.v, rat pe.1.k, optD pe.2]
def sp_is_piece : List D → Mem → K1 → Prop := fun ds M q => ∃ p, ds = [pc p] ∧ q (.bl true) M
def sp_is_row : List D → Mem → K1 → Prop := fun ds M q => ∃ R, ds = [rowD R] ∧ RwOk R ∧ q (.bl true) M
def sp_with_ends : List D → Mem → K1 → Prop := fun ds M q => ∃ R, ds = [rowD R] ∧ R.length ≤ 1000 ∧ ∀ a, M a = Option.none → q (.lst a) (M.up a ((ends R).map peD))
def sp_is_behind : List D → Mem → K1 → Prop := fun ds M q => ∃ x e, ds = [rat x, optD e] ∧ SzR 4000 x ∧ (∀ t, e = some t → SzR 4000 t) ∧ q (.bl (bhB x e)) M
def sp_law_add := sp_plus
def sp_law_off := sp_minus
def sp_law_by := sp_over
def sp_law_less := sp_less
theorem isRat_rat {x : Rat} : isRat (rat x) = true := by
  have h1 := den_pos x
  have h2 : Int.gcd x.num x.den = 1 := by
    have := x.reduced
    simpa [Int.gcd] using this
  show (decide (0 < (x.den : Int)) && decide (Int.gcd x.num x.den = 1)) = true
  rw [h2, decide_eq_true h1]; rfl
theorem rat_pure {x : Rat} : (rat x).pure = true := rfl
theorem is_piece_on {p : Pc} {M : Mem} {q : K1} (h : q (.bl true) M) : sp_is_piece [pc p] M q := ⟨p, rfl, h⟩
def sp_law_mul : List D → Mem → K1 → Prop := fun ds M q => ∃ a b c d : Int, ds = [.tup [.int a, .int b], .tup [.int c, .int d]] ∧ Sz 4000 a ∧ Sz 4000 b ∧ Sz 4000 c ∧ Sz 4000 d ∧ b ≠ 0 ∧ d ≠ 0 ∧ q (rat (Rat.divInt (a * c) (b * d))) M
theorem law_mul_on {x y : Rat} {M : Mem} {q : K1} (hx : SzR 4000 x) (hy : SzR 4000 y) (h : q (rat (x * y)) M) : sp_law_mul [rat x, rat y] M q :=
  ⟨_, _, _, _, rfl, hx.num, hx.den, hy.num, hy.den, den_ne x, den_ne y, by rw [rat_mul]; exact h⟩
def sp_law_piece : List D → Mem → K1 → Prop := fun ds M q => ∃ R x p, ds = [rowD R, rat x] ∧ (∀ p ∈ R, SzW p) ∧ R.length ≤ 1000 ∧ SzR 4000 x ∧ pieceAt R x = some p ∧ q (pc p) M
def sp_law_at : List D → Mem → K1 → Prop := fun ds M q => ∃ R x p, ds = [rowD R, rat x] ∧ (∀ p ∈ R, SzW p) ∧ R.length ≤ 1000 ∧ SzR 1000 x ∧ pieceAt R x = some p ∧ q (rat (p.at x)) M
def sp_law_from_below : List D → Mem → K1 → Prop := fun ds M q => ∃ R x p, ds = [rowD R, rat x] ∧ (∀ p ∈ R, SzW p) ∧ R.length ≤ 1000 ∧ SzR 1000 x ∧ belowAt R x = some p ∧ q (rat (p.at x)) M
def sp_law_row : List D → Mem → K1 → Prop := fun ds M q => ∃ b c f fs st, ds = [.lst b, .lst f, .bl st] ∧ M f = some (List.map rat fs) ∧ fs ≠ [] ∧ fs.length ≤ 100 ∧ (∀ x ∈ fs, SzR 8 x) ∧ f ≠ b ∧ f ≠ c ∧ BoxAt M b c ∧ ∀ R M', RwOk R → BoxAt M' b c → Fr b c M M' → (∀ p ∈ R, p.k ∈ fs) → q (rowD R) M'
structure SzS (p : Pc) : Prop where
  s : SzR 26 p.s
structure RwT (R : List Pc) : Prop where
  rw : Rw R
  len : R.length ≤ 5
  sz : ∀ p ∈ R, SzS p
theorem RwOk.t {R : List Pc} (h : RwOk R) : RwT R := ⟨h.rw, h.len, fun p hp => ⟨(h.sz p hp).s⟩⟩
def sp_law_tried : List D → Mem → K1 → Prop := fun ds M q => ∃ R, ds = [rowD R] ∧ RwT R ∧ ∀ xs a, M a = Option.none → xs ≠ [] → xs.length ≤ 35 → (∀ x ∈ xs, 0 ≤ x ∧ SzR 90 x) → (∀ p ∈ R, p.s ∈ xs) → q (.lst a) (M.up a (List.map rat xs))
theorem ixLast {n : Nat} : ixN (n + 1) (-1) = some n := by
  simp only [ixN]
  rw [if_neg (by omega), if_pos (by omega)]
  congr 1
  omega
theorem set_last {α : Type} {l : List α} {a b : α} : (l ++ [a]).set l.length b = l ++ [b] := by
  rw [List.set_append_right _ _ (Nat.le_refl _)]; simp
theorem ratI {m : Int} : D.tup [.int m, .int 1] = rat (m : Rat) := by
  unfold rat
  rw [Rat.num_intCast, Rat.den_intCast]; rfl
theorem sz_int {m : Int} {n : Nat} (h : Sz n m) (h1 : 1 ≤ n) : SzR n (m : Rat) := ⟨by rw [Rat.num_intCast]; exact h, by rw [Rat.den_intCast]; exact .lit 1 (by decide) h1⟩
theorem divInt_pos' {a b : Int} (ha : 0 < a) (hb : 0 < b) : 0 < Rat.divInt a b := by
  have h1 : (0 : Rat) ≤ Rat.divInt a b := Rat.divInt_nonneg (by omega) (by omega)
  have h2 : Rat.divInt a b ≠ 0 := fun e => by
    have := congrArg Rat.num e
    rw [Rat.num_divInt, Int.sign_eq_one_of_pos hb] at this
    have hd : (Int.gcd b a : Int) ∣ a := Int.gcd_dvd_right ..
    have hg : (0 : Int) < Int.gcd b a := by
      have := Int.gcd_pos_of_ne_zero_left a (show b ≠ 0 by omega)
      omega
    have := Int.ediv_pos_of_pos_of_dvd ha (by omega) hd
    simp at *
    omega
  grind
theorem half_eq {u : Int} : Rat.divInt (1 + u) 2 = ((1 + u : Int) : Rat) * (1 / 2) := by
  rw [Rat.divInt_eq_div]
  rw [Rat.div_def, Rat.div_def]
  simp
theorem half_le {u : Int} (h : 0 ≤ u) : (1 / 2 : Rat) ≤ Rat.divInt (1 + u) 2 := by
  have e : Rat.divInt (1 + u) 2 = ((1 + u : Int) : Rat) * (1 / 2) := by
    rw [Rat.divInt_eq_div]
    rw [Rat.div_def, Rat.div_def]
    simp
  have h1 : ((0 : Int) : Rat) ≤ ((u : Int) : Rat) := by exact_mod_cast h
  rw [e]
  have h2 : ((1 + u : Int) : Rat) = 1 + (u : Rat) := by push_cast; rfl
  rw [h2]
  grind
theorem pieceAt_ex {R : List Pc} {x : Rat} {r : Pc} (hr : r ∈ R) (hx : r.s ≤ x) : ∃ p, pieceAt R x = some p ∧ p ∈ R ∧ p.s ≤ x := by
  unfold pieceAt
  have hm : r ∈ R.filter fun p => !decide (x < p.s) := by
    rw [List.mem_filter]
    exact ⟨hr, by have : ¬ x < r.s := by grind
                  simp [this]⟩
  cases h : (R.filter fun p => !decide (x < p.s)).getLast? with
  | none => rw [List.getLast?_eq_none_iff.mp h] at hm; simp at hm
  | some p =>
    have := List.mem_filter.mp (List.mem_of_getLast? h)
    refine ⟨p, rfl, this.1, ?_⟩
    have := this.2
    simp at this
    grind
theorem belowAt_ex {R : List Pc} {x : Rat} {r : Pc} (hr : r ∈ R) (hx : r.s < x) : ∃ p, belowAt R x = some p ∧ p ∈ R := by
  unfold belowAt
  have hm : r ∈ R.filter fun p => decide (p.s < x) := by
    rw [List.mem_filter]
    exact ⟨hr, by simpa using hx⟩
  cases h : (R.filter fun p => decide (p.s < x)).getLast? with
  | none => rw [List.getLast?_eq_none_iff.mp h] at hm; simp at hm
  | some p => exact ⟨p, rfl, (List.mem_filter.mp (List.mem_of_getLast? h)).1⟩
theorem Rw.first {R : List Pc} (h : Rw R) : ∃ p ∈ R, p.s = 0 := by
  cases R with
  | nil => exact (h.ne rfl).elim
  | cons a r => exact ⟨a, by simp, h.zero a rfl⟩
theorem Rw.at_ex {R : List Pc} (h : Rw R) {x : Rat} (hx : 0 ≤ x) : ∃ p, pieceAt R x = some p ∧ p ∈ R ∧ p.s ≤ x := by
  obtain ⟨r, h1, h2⟩ := h.first
  exact pieceAt_ex h1 (by rw [h2]; exact hx)
theorem deq_rat {x y : Rat} : deq (rat x) (rat y) = decide (x = y) := by
  rw [Bool.eq_iff_iff]
  simp only [rat, deq, deqL, Bool.and_eq_true, beq_iff_eq, decide_eq_true_eq, and_true]
  constructor
  · rintro ⟨a, b⟩; exact Rat.ext a (by omega)
  · rintro rfl; exact ⟨rfl, rfl⟩
theorem rats_ok : ∀ L : List Rat, D.pureL (L.map rat) = true ∧ D.depthL (L.map rat) ≤ 1
  | [] => ⟨rfl, by simp [D.depthL]⟩
  | x :: L => by
    obtain ⟨a, b⟩ := rats_ok L
    refine ⟨by simp only [List.map_cons, D.pureL, a, rat_pure, Bool.and_true], ?_⟩
    have : D.depth (rat x) = 1 := rfl
    simp only [List.map_cons, D.depthL, this]
    omega
theorem inok_rats {x : Rat} {L : List Rat} : inOk (rat x) (L.map rat) := ⟨rfl, (rats_ok L).1, by show 1 ≤ 60; decide, Nat.le_trans (rats_ok L).2 (by decide)⟩
theorem any_rats {x : Rat} {L : List Rat} : ((L.map rat).any fun z => deq z (rat x)) = decide (x ∈ L) := by
  rw [Bool.eq_iff_iff, List.any_map, List.any_eq_true]
  simp only [Function.comp, deq_rat, decide_eq_true_eq]
  exact ⟨fun ⟨z, h, e⟩ => e ▸ h, fun h => ⟨x, h, rfl⟩⟩
theorem ends_sz {R : List Pc} (hR : ∀ p ∈ R, SzP p) : ∀ pe ∈ ends R, SzP pe.1 ∧ ∀ t, pe.2 = some t → SzR 26 t := by
  induction R with
  | nil => intro pe h; simp [ends] at h
  | cons a r ih =>
    intro pe h
    simp only [ends, List.mem_cons] at h
    rcases h with rfl | h
    · refine ⟨hR a (by simp), fun t ht => ?_⟩
      cases r with
      | nil => simp [bd] at ht
      | cons b r => simp [bd] at ht; subst ht; exact (hR b (by simp)).s
    · exact ih (fun p hp => hR p (by simp [hp])) pe h
theorem bl_none {x : Rat} : Bl x none := fun _ h => by cases h
theorem BoxAt.sub {M M' : Mem} {b c : Addr} (h : BoxAt M b c) (s : Sub M M') : BoxAt M' b c := by
  obtain ⟨h1, cells, cur, seed, h2, h3, h4⟩ := h
  exact ⟨h1, cells, cur, seed, s _ _ h2, s _ _ h3, h4⟩
theorem lp_body {R : List Pc} (hs : ∀ p ∈ R, SzW p) {x : Rat} (hx : SzR 4000 x) {i : Nat} {d : D} (hd : (R.map pc)[i]? = some d) : ∃ p, d = pc p ∧ R[i]? = some p ∧ SzR 4000 p.s := by
  rw [List.getElem?_map, Option.map_eq_some_iff] at hd
  obtain ⟨p, hp, rfl⟩ := hd
  exact ⟨p, rfl, hp, (hs p (List.mem_of_getElem? hp)).s.mono (by omega)⟩
theorem atLast_of {α β : Type} {l : List α} {a : α} (f : α → β) (h : l.getLast? = some a) : atI (l.map f) (-1) = some (f a) := by
  have hne : l ≠ [] := fun e => by subst e; simp at h
  have ea : l = l.dropLast ++ [a] := by
    have := List.dropLast_concat_getLast hne
    rw [List.getLast?_eq_some_getLast hne] at h
    cases h; exact this.symm
  rw [ea, List.map_append]
  exact atLast _ _
theorem pc_at_szW {p : Pc} {x : Rat} {n : Nat} (sp : SzW p) (hx : SzR n x) : SzR (n + 1001) (x - p.s) ∧ SzR (n + 1301) (p.k * (x - p.s)) ∧ SzR (n + 2302) (p.at x) := by
  have h1 : SzR (n + 1001) (x - p.s) := hx.subw sp.s (by omega)
  have h2 : SzR (n + 1301) (p.k * (x - p.s)) := sp.k.mul h1 (by omega)
  exact ⟨h1, h2, sp.v.addw h2 (by omega)⟩
theorem pc_at_sz {p : Pc} {x : Rat} {n : Nat} (sp : SzP p) (hx : SzR n x) : SzR (n + 336) (p.at x) := by
  have h1 : SzR (n + 27) (x - p.s) := hx.subw sp.s (by omega)
  have h2 : SzR (n + 35) (p.k * (x - p.s)) := sp.k.mul h1 (by omega)
  exact sp.v.addw h2 (by omega)
structure RowInv (R : List Pc) (x : Rat) : Prop where
  asc : Asc R
  zero : ∀ p, R.head? = some p → p.s = 0
  lt : ∀ p ∈ R, p.s < x
  x0 : R = [] → x = 0
  xh : R ≠ [] → 1 / 2 ≤ x
  half : ∀ p ∈ R, p.s = 0 ∨ 1 / 2 ≤ p.s
  xl : ∃ m : Int, x = (m : Rat) * (1 / 2)
  lat : ∀ p ∈ R, ∃ m : Int, p.s = (m : Rat) * (1 / 2)
  xs : SzR (5 * R.length + 1) x
  sz : ∀ p ∈ R, SzR (5 * R.length) p.s ∧ SzR (60 * R.length) p.v ∧ SzR 8 p.k
def rowI (M : Mem) (b c f sl : Addr) (fs : List Rat) (st : Bool) (i : Nat) (ρ : En) (M' : Mem) : Prop :=
  ∃ R x e5 e6 e7, ρ = [some (.lst b), some (.lst sl), some (.bl st), some (.lst f), some (rat x), e5, e6, e7] ∧ RowInv R x ∧ R.length = i ∧ M' f = some (R.map pc) ∧ M' sl = some (fs.map rat) ∧ BoxAt M' b c ∧ Fr b c M M' ∧ ∀ p ∈ R, p.k ∈ fs
/-! ### the program's rows -/
theorem pieceAt_snoc {l : List Pc} {p : Pc} {x : Rat} : pieceAt (l ++ [p]) x = if x < p.s then pieceAt l x else some p := by
  unfold pieceAt
  rw [List.filter_append]
  by_cases z : x < p.s
  · simp [z]
  · simp [z]
theorem belowAt_snoc {l : List Pc} {p : Pc} {x : Rat} : belowAt (l ++ [p]) x = if p.s < x then some p else belowAt l x := by
  unfold belowAt
  rw [List.filter_append]
  by_cases z : p.s < x
  · simp [z]
  · simp [z]
theorem valAt_snoc {l : List Pc} {p : Pc} {x : Rat} : valAt (l ++ [p]) x = if x < p.s then valAt l x else p.at x := by
  unfold valAt
  rw [pieceAt_snoc]
  by_cases z : x < p.s
  · simp [z]
  · simp [z]
def nstep (F : List Pc) (p : Pc) : List Pc := match F.getLast? with
  | none => F ++ [p]
  | some a => if a.k = p.k ∧ a.at p.s = p.v then F else F ++ [p]
def normR (R : List Pc) : List Pc := R.foldl nstep []
theorem normR_snoc {l : List Pc} {p : Pc} : normR (l ++ [p]) = nstep (normR l) p := by simp [normR]
theorem nstep_or {F : List Pc} {p : Pc} : nstep F p = F ++ [p] ∨ (nstep F p = F ∧ ∃ a, F.getLast? = some a ∧ a.k = p.k ∧ a.at p.s = p.v) := by
  unfold nstep
  cases h : F.getLast? with
  | none => exact .inl rfl
  | some a =>
    by_cases z : a.k = p.k ∧ a.at p.s = p.v
    · simp only [if_pos z]; exact .inr ⟨trivial, a, rfl, z⟩
    · simp only [if_neg z]; exact .inl trivial
theorem snoc_ind {α : Type} {P : List α → Prop} (h0 : P []) (hs : ∀ l a, P l → P (l ++ [a])) : ∀ l, P l := by
  have : ∀ n (l : List α), l.length = n → P l := by
    intro n
    induction n with
    | zero => intro l h; rw [List.length_eq_zero_iff.mp h]; exact h0
    | succ n ih =>
      intro l h
      have hne : l ≠ [] := fun e => by subst e; simp at h
      rw [← List.dropLast_concat_getLast hne]
      exact hs _ _ (ih _ (by simp [h]))
  exact fun l => this _ l rfl
theorem normR_sub (R : List Pc) : List.Sublist (normR R) R := by
  induction R using snoc_ind with
  | h0 => exact List.Sublist.refl _
  | hs l p ih =>
    rw [normR_snoc]
    rcases nstep_or (F := normR l) (p := p) with h | ⟨h, _⟩
    · rw [h]; exact ih.append (List.Sublist.refl _)
    · rw [h]; exact ih.trans (List.sublist_append_left l [p])
theorem foldl_nstep_head : ∀ (l F : List Pc), F ≠ [] → (l.foldl nstep F).head? = F.head?
  | [], _, _ => rfl
  | p :: l, F, h => by
    rw [List.foldl_cons]
    rcases nstep_or (F := F) (p := p) with e | ⟨e, _⟩
    · rw [e, foldl_nstep_head l _ (by simp)]
      cases F with
      | nil => exact (h rfl).elim
      | cons _ _ => rfl
    · rw [e]; exact foldl_nstep_head l F h
theorem normR_head {R : List Pc} : (normR R).head? = R.head? := by
  cases R with
  | nil => rfl
  | cons p l =>
    unfold normR
    rw [List.foldl_cons, show nstep [] p = [p] from rfl, foldl_nstep_head _ _ (by simp)]
    rfl
theorem at_same {a p : Pc} (h1 : a.k = p.k) (h2 : a.at p.s = p.v) (x : Rat) : a.at x = p.at x := by
  unfold Pc.at at *
  rw [← h2, h1]
  grind
theorem normR_val {R : List Pc} (h : Asc R) : (∀ x, valAt (normR R) x = valAt R x) ∧ ∀ a, (normR R).getLast? = some a → ∃ p, R.getLast? = some p ∧ a.s ≤ p.s ∧ a.k = p.k ∧ ∀ x, a.at x = p.at x := by
  revert h
  induction R using snoc_ind with
  | h0 => intro _; exact ⟨fun _ => rfl, fun a h => by simp [normR] at h⟩
  | hs l p ih =>
    intro h
    obtain ⟨i1, i2⟩ := ih (List.pairwise_append.mp h).1
    have lt := (List.pairwise_append.mp h).2.2
    rw [normR_snoc]
    rcases nstep_or (F := normR l) (p := p) with e | ⟨e, a, ha, hk, hv⟩
    · rw [e]
      refine ⟨fun x => by rw [valAt_snoc, valAt_snoc, i1], fun a h => ?_⟩
      simp at h
      subst h
      exact ⟨p, by simp, Rat.le_refl, rfl, fun _ => rfl⟩
    · rw [e]
      obtain ⟨z, hz, hle, hzk, hz2⟩ := i2 a ha
      have hzl : z.s < p.s := lt z (List.mem_of_getLast? hz) p (by simp)
      have same := at_same hk hv
      refine ⟨fun x => ?_, fun a' h => ?_⟩
      · rw [valAt_snoc, i1]
        by_cases c : x < p.s
        · rw [if_pos c]
        · rw [if_neg c]
          have hlast : l = l.dropLast ++ [z] := by
            have hne : l ≠ [] := fun e => by subst e; simp at hz
            have := List.dropLast_concat_getLast hne
            rw [List.getLast?_eq_some_getLast hne] at hz
            cases hz; exact this.symm
          rw [hlast, valAt_snoc, if_neg (by grind), ← hz2, same]
      · rw [ha] at h; cases h
        exact ⟨p, by simp, by grind, hk, same⟩
theorem normR_rw {R : List Pc} (h : Rw R) : Rw (normR R) := by
  refine ⟨h.asc.sublist (normR_sub R), fun e => ?_, fun p hp => h.zero p (by rw [← normR_head]; exact hp)⟩
  have := normR_head (R := R)
  rw [e] at this
  cases R with
  | nil => exact h.ne rfl
  | cons _ _ => simp at this
theorem normR_w {R : List Pc} (h : ∀ p ∈ R, SzW p) : ∀ p ∈ normR R, SzW p := fun p hp => h p ((normR_sub R).subset hp)
theorem valAt_of {R : List Pc} {x : Rat} {p : Pc} (h : pieceAt R x = some p) : valAt R x = p.at x := by unfold valAt; rw [h]
/-- a row that is reckoned -/
structure RwW (R : List Pc) : Prop where
  rw : Rw R
  len : R.length ≤ 60
  sz : ∀ p ∈ R, SzW p
theorem RwOk.w {R : List Pc} (h : RwOk R) : RwW R := ⟨h.rw, Nat.le_trans h.len (by decide), fun p hp => (h.sz p hp).w⟩
def sp_along : List D → Mem → K1 → Prop := fun ds M q => ∃ p x, ds = [pc p, rat x] ∧ SzW p ∧ SzR 1000 x ∧ q (rat (p.at x)) M
def sp_piece_at : List D → Mem → K1 → Prop := fun ds M q => ∃ R x p, ds = [rowD R, rat x] ∧ RwW R ∧ SzR 1000 x ∧ pieceAt R x = some p ∧ q (pc p) M
def sp_value_at : List D → Mem → K1 → Prop := fun ds M q => ∃ R x p, ds = [rowD R, rat x] ∧ RwW R ∧ SzR 1000 x ∧ pieceAt R x = some p ∧ q (rat (p.at x)) M
def sp_left_value : List D → Mem → K1 → Prop := fun ds M q => ∃ R x p, ds = [rowD R, rat x] ∧ RwW R ∧ SzR 1000 x ∧ belowAt R x = some p ∧ q (rat (p.at x)) M
def sp_limited : List D → Mem → K1 → Prop := fun ds M q => ∃ a xs, ds = [.lst a] ∧ M a = some xs ∧ xs.length ≤ 60 ∧ q (.tup xs) M
def sp_normal : List D → Mem → K1 → Prop := fun ds M q => ∃ R, ds = [rowD R] ∧ RwW R ∧ q (rowD (normR R)) M
end TB

namespace TB
open PySem PySem.Spec PyProof.Rows L2
/-! ### more of rows: steady ones, convex ones, sums -/
def mx (a b : Rat) : Rat := if a < b then b else a
theorem lt_mx {a b c : Rat} : c < mx a b ↔ c < a ∨ c < b := by unfold mx; split <;> grind
theorem mx_le {a b c : Rat} : mx a b ≤ c ↔ a ≤ c ∧ b ≤ c := by unfold mx; split <;> grind
theorem mx_or {a b : Rat} : mx a b = a ∨ mx a b = b := by unfold mx; split <;> simp
theorem le_mx_l {a b : Rat} : a ≤ mx a b := by unfold mx; split <;> grind
theorem le_mx_r {a b : Rat} : b ≤ mx a b := by unfold mx; split <;> grind
theorem mx_eq_l {a b : Rat} (h : b ≤ a) : mx a b = a := by unfold mx; rw [if_neg (by grind)]
theorem mx_eq_r {a b : Rat} (h : a ≤ b) : mx a b = b := by unfold mx; split <;> grind
theorem mx_sz {n : Nat} {a b : Rat} (ha : SzR n a) (hb : SzR n b) : SzR n (mx a b) := by unfold mx; split <;> assumption
def Pc.hit (p : Pc) (y : Rat) : Rat := p.s + (y - p.v) / p.k
theorem at_hit {p : Pc} {y : Rat} (h : p.k ≠ 0) : p.at (p.hit y) = y := by
  unfold Pc.at Pc.hit
  have := Rat.mul_inv_cancel _ h
  rw [Rat.div_def]
  grind
theorem at_sub {p : Pc} {x y : Rat} : p.at y - p.at x = p.k * (y - x) := by unfold Pc.at; grind
theorem at_s {p : Pc} : p.at p.s = p.v := by unfold Pc.at; grind
theorem at_lt {p : Pc} {x y : Rat} (h : 0 < p.k) (l : x < y) : p.at x < p.at y := by
  have h1 : 0 < y - x := by grind
  have := Rat.mul_pos h h1
  have := @at_sub p x y
  grind
theorem at_gt {p : Pc} {x y : Rat} (h : p.k < 0) (l : x < y) : p.at y < p.at x := by
  have h1 : 0 < y - x := by grind
  have h2 : 0 < -p.k := by grind
  have := Rat.mul_pos h2 h1
  have := @at_sub p x y
  grind
theorem at_ge {p : Pc} {x y : Rat} (h : 0 ≤ p.k) (l : x ≤ y) : p.at x ≤ p.at y := by
  have h1 : 0 ≤ y - x := by grind
  have := Rat.mul_nonneg h h1
  have := @at_sub p x y
  grind
theorem at_le {p : Pc} {x y : Rat} (h : p.k ≤ 0) (l : x ≤ y) : p.at y ≤ p.at x := by
  have h1 : 0 ≤ y - x := by grind
  have h2 : 0 ≤ -p.k := by grind
  have := Rat.mul_nonneg h2 h1
  have := @at_sub p x y
  grind
theorem at_lt_iff {p : Pc} {x y : Rat} (h : 0 < p.k) : p.at x < y ↔ x < p.hit y := by
  have e := @at_hit p y (by grind)
  constructor
  · intro l
    have : ¬ p.hit y ≤ x := fun c => by
      have := @at_ge p _ _ (by grind) c
      grind
    grind
  · intro l
    have := @at_lt p _ _ h l
    grind
theorem foldl_keep {α β : Type} {P : β → Prop} {f : β → α → β} : ∀ (l : List α) (b : β), P b → (∀ a ∈ l, ∀ b, P b → P (f b a)) → P (l.foldl f b)
  | [], _, h, _ => h
  | a :: l, b, h, hs => foldl_keep l _ (hs a (by simp) b h) fun a' ha => hs a' (by simp [ha])
theorem spinsW_eq {a : Addr} {i : Int} {v : D} {M : Mem} {q : K1} : insertW (.lst a) [.int i, v] M q = ∃ ds, M a = some ds ∧ ds.length < sizeLine ∧ 0 ≤ i ∧ i < 2 ^ 63 ∧ q .non (M.up a (ds.take i.toNat ++ [v] ++ ds.drop i.toNat)) := rfl
/-! ascending lists -/
def insR (F : List Rat) (r : Rat) : List Rat :=
  let n := (F.filter fun o => decide (o < r)).length
  if n = F.length ∨ F[n]? ≠ some r then F.take n ++ [r] ++ F.drop n else F
def sortR (l : List Rat) : List Rat := l.foldl insR []
abbrev AscR (l : List Rat) : Prop := l.Pairwise (· < ·)
theorem filt_take : ∀ {F : List Rat} {r : Rat}, AscR F → F.filter (fun o => decide (o < r)) = F.take (F.filter fun o => decide (o < r)).length
  | [], r, _ => rfl
  | a :: F, r, h => by
    obtain ⟨h1, h2⟩ := List.pairwise_cons.mp h
    by_cases c : a < r
    · rw [List.filter_cons, if_pos (by simpa using c), List.length_cons, List.take_succ_cons]
      congr 1
      exact filt_take h2
    · have e : F.filter (fun o => decide (o < r)) = [] := by
        rw [List.filter_eq_nil_iff]
        intro b hb
        have := h1 b hb
        have : ¬ b < r := by grind
        simp [this]
      rw [List.filter_cons, if_neg (by simpa using c), e]
      rfl
theorem ins_lt {F : List Rat} {r x : Rat} (h : AscR F) (hx : x ∈ F.take (F.filter fun o => decide (o < r)).length) : x < r := by
  rw [← filt_take h] at hx
  simpa using (List.mem_filter.mp hx).2
theorem ins_ge {F : List Rat} {r x : Rat} (h : AscR F) (hx : x ∈ F.drop (F.filter fun o => decide (o < r)).length) : r ≤ x := by
  by_cases c : x < r
  · exfalso
    have hF : x ∈ F := List.mem_of_mem_drop hx
    have h1 : x ∈ F.filter fun o => decide (o < r) := List.mem_filter.mpr ⟨hF, by simpa using c⟩
    rw [filt_take h] at h1
    have := (List.pairwise_append.mp ((List.take_append_drop (F.filter fun o => decide (o < r)).length F).symm ▸ h : AscR (F.take _ ++ F.drop _))).2.2 x h1 x hx
    grind
  · grind
theorem insR_asc {F : List Rat} {r : Rat} (h : AscR F) : AscR (insR F r) := by
  unfold insR
  simp only
  generalize hn : (F.filter fun o => decide (o < r)).length = n
  by_cases c : n = F.length ∨ F[n]? ≠ some r
  · rw [if_pos c]
    have hF : AscR (F.take n ++ F.drop n) := by rw [List.take_append_drop]; exact h
    obtain ⟨h1, h2, h3⟩ := List.pairwise_append.mp hF
    have lt : ∀ x ∈ F.take n, x < r := fun x hx => by subst hn; exact ins_lt h hx
    have gt : ∀ x ∈ F.drop n, r < x := fun x hx => by
      have ge : r ≤ x := by subst hn; exact ins_ge h hx
      have ne : x ≠ r := fun e => by
        subst e
        rcases c with c | c
        · rw [c, List.drop_length] at hx; simp at hx
        · have hl : n < F.length := by
            by_cases z : n < F.length
            · exact z
            · rw [List.drop_eq_nil_of_le (by omega)] at hx; simp at hx
          rw [List.drop_eq_getElem_cons hl] at hx h2
          rcases List.mem_cons.mp hx with e | hx'
          · exact c (by rw [e]; simp [hl])
          · have h4 := (List.pairwise_cons.mp h2).1 x hx'
            have h5 : x ≤ F[n] := by
              have : F[n] ∈ F.drop n := List.mem_iff_getElem.mpr ⟨0, by simp; omega, by simp⟩
              subst hn
              exact ins_ge h this
            grind
      grind
    unfold AscR
    rw [List.append_assoc, List.pairwise_append]
    refine ⟨h1, ?_, fun a ha b hb => ?_⟩
    · rw [List.singleton_append, List.pairwise_cons]
      exact ⟨gt, h2⟩
    · rcases List.mem_append.mp hb with hb | hb
      · simp at hb; subst hb; exact lt a ha
      · exact h3 a ha b hb
  · rw [if_neg c]; exact h
theorem insR_mem {F : List Rat} {r x : Rat} : x ∈ insR F r ↔ x ∈ F ∨ x = r := by
  unfold insR
  simp only
  generalize (F.filter fun o => decide (o < r)).length = n
  by_cases c : n = F.length ∨ F[n]? ≠ some r
  · rw [if_pos c]
    have : x ∈ F ↔ x ∈ F.take n ∨ x ∈ F.drop n := by rw [← List.mem_append, List.take_append_drop]
    rw [this]
    simp only [List.mem_append, List.mem_singleton]
    grind
  · rw [if_neg c]
    simp only [not_or, Classical.not_not] at c
    have : r ∈ F := List.mem_of_getElem? c.2
    grind
theorem foldl_ins : ∀ (l F : List Rat), AscR F → AscR (l.foldl insR F) ∧ (∀ x, x ∈ l.foldl insR F ↔ x ∈ F ∨ x ∈ l)
  | [], F, h => ⟨h, fun x => by simp⟩
  | a :: l, F, h => by
    obtain ⟨h1, h2⟩ := foldl_ins l (insR F a) (insR_asc h)
    refine ⟨h1, fun x => ?_⟩
    rw [List.foldl_cons, h2, insR_mem, List.mem_cons]
    grind
theorem sortR_asc {l : List Rat} : AscR (sortR l) := (foldl_ins l [] (by simp)).1
theorem sortR_mem {l : List Rat} {x : Rat} : x ∈ sortR l ↔ x ∈ l := by
  have := (foldl_ins l [] (by simp)).2 x
  unfold sortR
  simpa using this
theorem insR_len {F : List Rat} {r : Rat} : (insR F r).length ≤ F.length + 1 := by
  unfold insR
  simp only
  generalize (F.filter fun o => decide (o < r)).length = n
  split
  · simp [List.length_take, List.length_drop]; omega
  · omega
theorem foldl_ins_len : ∀ (l F : List Rat), (l.foldl insR F).length ≤ F.length + l.length
  | [], F => by simp
  | a :: l, F => by
    have := foldl_ins_len l (insR F a)
    have := @insR_len F a
    rw [List.foldl_cons, List.length_cons]
    omega
theorem sortR_len {l : List Rat} : (sortR l).length ≤ l.length := by
  have := foldl_ins_len l []
  simpa [sortR] using this
theorem asc_ext : ∀ {l m : List Rat}, AscR l → AscR m → (∀ x, x ∈ l ↔ x ∈ m) → l = m
  | [], [], _, _, _ => rfl
  | [], b :: m, _, _, h => by have := (h b).mpr (by simp); simp at this
  | a :: l, [], _, _, h => by have := (h a).mp (by simp); simp at this
  | a :: l, b :: m, hl, hm, h => by
    obtain ⟨l1, l2⟩ := List.pairwise_cons.mp hl
    obtain ⟨m1, m2⟩ := List.pairwise_cons.mp hm
    have e : a = b := by
      have h1 := (h a).mp (by simp)
      have h2 := (h b).mpr (by simp)
      rcases List.mem_cons.mp h1 with e | h1
      · exact e
      · rcases List.mem_cons.mp h2 with e | h2
        · exact e.symm
        · have := m1 a h1; have := l1 b h2; grind
    subst e
    congr 1
    refine asc_ext l2 m2 fun x => ?_
    constructor
    · intro hx
      rcases List.mem_cons.mp ((h x).mp (by simp [hx])) with e | h1
      · have := l1 x hx; grind
      · exact h1
    · intro hx
      rcases List.mem_cons.mp ((h x).mpr (by simp [hx])) with e | h1
      · have := m1 x hx; grind
      · exact h1
/-! steady and convex rows -/
def Steady (R : List Pc) : Prop := ∀ l a b r, R = l ++ a :: b :: r → a.at b.s = b.v
structure Cx (R : List Pc) : Prop where
  rw : Rw R
  st : Steady R
  up : R.Pairwise fun a b => a.k < b.k
theorem Steady.left {l : List Pc} {z : Pc} (h : Steady (l ++ [z])) : Steady l := fun l' a b r e => h l' a b (r ++ [z]) (by rw [e]; simp)
theorem steady_snoc {l : List Pc} {a z : Pc} (h : Steady (l ++ [z])) (hl : l.getLast? = some a) : a.at z.s = z.v := by
  have hne : l ≠ [] := fun e => by subst e; simp at hl
  have el : l = l.dropLast ++ [a] := by
    have := List.dropLast_concat_getLast hne
    rw [List.getLast?_eq_some_getLast hne] at hl
    cases hl; exact this.symm
  exact h l.dropLast a z [] (by
    conv => lhs; rw [el]
    simp)
theorem snoc_steady {l : List Pc} {z : Pc} (h : Steady l) (hz : ∀ a, l.getLast? = some a → a.at z.s = z.v) : Steady (l ++ [z]) := by
  intro l' a b r e
  cases hr : r using snoc_ind with
  | h0 =>
    subst hr
    have e2 : l ++ [z] = (l' ++ [a]) ++ [b] := by rw [e]; simp
    obtain ⟨e3, e4⟩ := List.append_inj' e2 rfl
    simp at e4
    subst e4
    exact hz a (by rw [e3]; simp)
  | hs r' c _ =>
    subst hr
    have e2 : l ++ [z] = (l' ++ a :: b :: r') ++ [c] := by rw [e]; simp
    obtain ⟨e3, _⟩ := List.append_inj' e2 rfl
    exact h l' a b r' e3
/-- the value that a row comes to at the last start -/
theorem val_last {l : List Pc} {a : Pc} {x : Rat} (hl : l.getLast? = some a) (hx : a.s ≤ x) : valAt l x = a.at x := by
  have hne : l ≠ [] := fun e => by subst e; simp at hl
  have el : l = l.dropLast ++ [a] := by
    have := List.dropLast_concat_getLast hne
    rw [List.getLast?_eq_some_getLast hne] at hl
    cases hl; exact this.symm
  rw [el, valAt_snoc, if_neg (by grind)]
theorem mul_le_l {a b c : Rat} (h : a ≤ b) (hc : 0 ≤ c) : a * c ≤ b * c := by
  have := Rat.mul_nonneg (show 0 ≤ b - a by grind) hc
  grind
/-- from a start on the slopes are at least s -/
theorem low_growth {R : List Pc} {p : Pc} {s : Rat} : Asc R → Steady R → p ∈ R → (∀ q ∈ R, p.s ≤ q.s → s ≤ q.k) → ∀ x y, p.s ≤ x → x ≤ y → s * (y - x) ≤ valAt R y - valAt R x := by
  induction R using snoc_ind with
  | h0 => intro _ _ h; simp at h
  | hs l z ih =>
    intro as st hp hk x y hx hy
    have as1 := (List.pairwise_append.mp as).1
    have lt := (List.pairwise_append.mp as).2.2
    by_cases hz : p = z
    · subst hz
      have h1 := hk p (by simp) Rat.le_refl
      rw [valAt_snoc, valAt_snoc, if_neg (by grind), if_neg (by grind), at_sub]
      exact mul_le_l h1 (by grind)
    · have hpl : p ∈ l := by
        rcases List.mem_append.mp hp with h | h
        · exact h
        · simp at h; exact (hz h).elim
      have ih := ih as1 st.left hpl (fun q hq h => hk q (by simp [hq]) h)
      have hzs := lt p hpl z (by simp)
      by_cases c1 : y < z.s
      · rw [valAt_snoc, valAt_snoc, if_pos c1, if_pos (by grind)]
        exact ih x y hx hy
      · have h1 := hk z (by simp) (by grind)
        by_cases c2 : x < z.s
        · rw [valAt_snoc, valAt_snoc, if_neg c1, if_pos c2]
          obtain ⟨a, ha⟩ : ∃ a, l.getLast? = some a := by
            cases h : l.getLast? with
            | none => rw [List.getLast?_eq_none_iff.mp h] at hpl; simp at hpl
            | some a => exact ⟨a, rfl⟩
          have hv : valAt l z.s = z.v := by
            rw [val_last ha (Rat.le_of_lt (lt a (List.mem_of_getLast? ha) z (by simp)))]
            exact steady_snoc st ha
          have h2 := ih x z.s hx (by grind)
          rw [hv] at h2
          have h3 := @at_sub z z.s y
          rw [at_s] at h3
          have h4 := mul_le_l h1 (show 0 ≤ y - z.s by grind)
          grind
        · rw [valAt_snoc, valAt_snoc, if_neg c1, if_neg c2, at_sub]
          exact mul_le_l h1 (by grind)
/-- below an income the slopes are at most s -/
theorem high_growth {R : List Pc} {t s : Rat} : Asc R → Steady R → (∀ q ∈ R, q.s < t → q.k ≤ s) → ∀ x y, (∃ p ∈ R, p.s ≤ x) → x ≤ y → y ≤ t → valAt R y - valAt R x ≤ s * (y - x) := by
  induction R using snoc_ind with
  | h0 => intro _ _ _ x y h; obtain ⟨p, h, _⟩ := h; simp at h
  | hs l z ih =>
    intro as st hk x y hx hy ht
    have as1 := (List.pairwise_append.mp as).1
    have lt := (List.pairwise_append.mp as).2.2
    have ih := ih as1 st.left (fun q hq h => hk q (by simp [hq]) h)
    by_cases c2 : x < z.s
    · have hxl : ∃ p ∈ l, p.s ≤ x := by
        obtain ⟨p, hp, h⟩ := hx
        rcases List.mem_append.mp hp with hp | hp
        · exact ⟨p, hp, h⟩
        · simp at hp; subst hp; grind
      by_cases c1 : y < z.s
      · rw [valAt_snoc, valAt_snoc, if_pos c1, if_pos c2]
        exact ih x y hxl hy ht
      · rw [valAt_snoc, valAt_snoc, if_neg c1, if_pos c2]
        obtain ⟨a, ha⟩ : ∃ a, l.getLast? = some a := by
          cases h : l.getLast? with
          | none => obtain ⟨p, hp, _⟩ := hxl; rw [List.getLast?_eq_none_iff.mp h] at hp; simp at hp
          | some a => exact ⟨a, rfl⟩
        have hv : valAt l z.s = z.v := by
          rw [val_last ha (Rat.le_of_lt (lt a (List.mem_of_getLast? ha) z (by simp)))]
          exact steady_snoc st ha
        have h2 := ih x z.s hxl (by grind) (by grind)
        rw [hv] at h2
        have h3 := @at_sub z z.s y
        rw [at_s] at h3
        by_cases c3 : z.s < t
        · have h4 := mul_le_l (hk z (by simp) c3) (show 0 ≤ y - z.s by grind)
          grind
        · have : y = z.s := by grind
          subst this
          rw [at_s]
          exact h2
    · rw [valAt_snoc, valAt_snoc, if_neg (by grind), if_neg c2, at_sub]
      by_cases c3 : z.s < t
      · exact mul_le_l (hk z (by simp) c3) (by grind)
      · have : x = y := by grind
        subst this
        have e : x - x = 0 := by grind
        rw [e]; grind
/-- the line of slope s through a start lies nowhere above -/
theorem subgrad {R : List Pc} {p : Pc} {s x : Rat} (h : Rw R) (st : Steady R) (hp : p ∈ R) (h1 : ∀ q ∈ R, p.s ≤ q.s → s ≤ q.k) (h2 : ∀ q ∈ R, q.s < p.s → q.k ≤ s) (hx : 0 ≤ x) : valAt R p.s + s * (x - p.s) ≤ valAt R x := by
  by_cases c : p.s ≤ x
  · have := low_growth h.asc st hp h1 p.s x Rat.le_refl c
    grind
  · obtain ⟨f, hf1, hf2⟩ := h.first
    have := high_growth (t := p.s) h.asc st h2 x p.s ⟨f, hf1, by rw [hf2]; exact hx⟩ (by grind) Rat.le_refl
    grind
theorem val_start {R : List Pc} {p : Pc} (h : Asc R) (hp : p ∈ R) : valAt R p.s = p.v := by
  obtain ⟨l, r, rfl⟩ := List.append_of_mem hp
  rw [valAt_of (pieceAt_mid h Rat.le_refl fun t ht => bd_lt h ht), at_s]
theorem Cx.mono {R : List Pc} (h : Cx R) {p q : Pc} (hp : p ∈ R) (hq : q ∈ R) (e : p.s ≤ q.s) : p.k ≤ q.k := by
  obtain ⟨l, r, rfl⟩ := List.append_of_mem hp
  rcases List.mem_append.mp hq with hq | hq
  · have := asc_left h.rw.asc hq; grind
  · rcases List.mem_cons.mp hq with rfl | hq
    · exact Rat.le_refl
    · exact Rat.le_of_lt ((List.pairwise_cons.mp (List.pairwise_append.mp h.up).2.1).1 q hq)
/-- a row whose slopes ascend is normal -/
theorem Cx.norm {R : List Pc} (h : R.Pairwise fun a b => a.k < b.k) : normR R = R := by
  induction R using snoc_ind with
  | h0 => rfl
  | hs l z ih =>
    rw [normR_snoc, ih (List.pairwise_append.mp h).1]
    unfold nstep
    cases hl : l.getLast? with
    | none => rfl
    | some a =>
      have := (List.pairwise_append.mp h).2.2 a (List.mem_of_getLast? hl) z (by simp)
      simp only
      rw [if_neg (fun e => by have := e.1; grind)]
/-- the normal form of a steady row whose slopes nowhere fall is convex -/
theorem norm_cx {R : List Pc} (h : Rw R) (st : Steady R) (up : R.Pairwise fun a b => a.k ≤ b.k) : Cx (normR R) := by
  have key : Steady (normR R) ∧ (normR R).Pairwise fun a b => a.k < b.k := by
    have as := h.asc
    clear h
    revert as st up
    induction R using snoc_ind with
    | h0 => intro _ _ _; exact ⟨fun l a b r e => by simp [normR] at e, by simp [normR]⟩
    | hs l z ih =>
      intro st up as
      have as1 := (List.pairwise_append.mp as).1
      obtain ⟨i1, i2⟩ := ih st.left (List.pairwise_append.mp up).1 as1
      have nv := (normR_val as1).2
      have upz := (List.pairwise_append.mp up).2.2
      rw [normR_snoc]
      unfold nstep
      cases hl : (normR l).getLast? with
      | none =>
        have e : normR l = [] := List.getLast?_eq_none_iff.mp hl
        rw [e]
        refine ⟨fun l a b r e => ?_, by simp⟩
        have := congrArg List.length e
        simp at this; omega
      | some a =>
        obtain ⟨p, hp1, hp2, hp3, hp4⟩ := nv a hl
        have hst : a.at z.s = z.v := by rw [hp4]; exact steady_snoc st hp1
        have hpz := upz p (List.mem_of_getLast? hp1) z (by simp)
        simp only
        by_cases c : a.k = z.k ∧ a.at z.s = z.v
        · rw [if_pos c]; exact ⟨i1, i2⟩
        · rw [if_neg c]
          have hk : a.k < z.k := by
            have : a.k ≠ z.k := fun e => c ⟨e, hst⟩
            grind
          refine ⟨snoc_steady i1 fun b hb => by rw [hl] at hb; cases hb; exact hst, ?_⟩
          rw [List.pairwise_append]
          refine ⟨i2, by simp, fun b hb w hw => ?_⟩
          simp at hw
          subst hw
          have hne : normR l ≠ [] := fun e => by rw [e] at hl; simp at hl
          have el := List.dropLast_concat_getLast hne
          rw [List.getLast?_eq_some_getLast hne] at hl
          rw [← el] at hb i2
          rcases List.mem_append.mp hb with hb | hb
          · have := (List.pairwise_append.mp i2).2.2 b hb _ (List.mem_singleton.mpr rfl)
            cases hl
            grind
          · simp at hb; cases hl; rw [hb]; exact hk
  exact ⟨normR_rw h, key.1, key.2⟩
/-! sums of rows -/
def slAt (R : List Pc) (x : Rat) : Rat := match pieceAt R x with
  | some p => p.k
  | none => 0
def allS (A B : List Pc) : List Rat := sortR ((A ++ B).map (·.s))
def addRaw (A B : List Pc) : List Pc := (allS A B).map fun x => ⟨x, valAt A x + valAt B x, slAt A x + slAt B x⟩
theorem pieceAt_same {R : List Pc} {x t : Rat} (h1 : t ≤ x) (h2 : ∀ p ∈ R, p.s ≤ x → p.s ≤ t) : pieceAt R x = pieceAt R t := by
  unfold pieceAt
  congr 1
  apply List.filter_congr
  intro p hp
  by_cases c : p.s ≤ x
  · have := h2 p hp c
    have e1 : ¬ x < p.s := by grind
    have e2 : ¬ t < p.s := by grind
    simp [e1, e2]
  · have e1 : x < p.s := by grind
    have e2 : t < p.s := by grind
    simp [e1, e2]
theorem allS_asc {A B : List Pc} : AscR (allS A B) := sortR_asc
theorem allS_mem {A B : List Pc} {x : Rat} : x ∈ allS A B ↔ ∃ p, (p ∈ A ∨ p ∈ B) ∧ p.s = x := by
  unfold allS
  rw [sortR_mem, List.mem_map]
  simp only [List.mem_append]
theorem addRaw_rw {A B : List Pc} (hA : Rw A) (hB : Rw B) : Rw (addRaw A B) := by
  obtain ⟨f, hf1, hf2⟩ := hA.first
  have hm : f.s ∈ allS A B := allS_mem.mpr ⟨f, .inl hf1, rfl⟩
  refine ⟨?_, fun e => ?_, fun p hp => ?_⟩
  · unfold Asc addRaw
    rw [List.pairwise_map]
    exact allS_asc
  · have : allS A B = [] := List.map_eq_nil_iff.mp e
    rw [this] at hm; simp at hm
  · unfold addRaw at hp
    rw [List.head?_map, Option.map_eq_some_iff] at hp
    obtain ⟨x, hx, rfl⟩ := hp
    have hxm := List.mem_of_mem_head? hx
    show x = 0
    have x0 : 0 ≤ x := by
      obtain ⟨p, hp, rfl⟩ := allS_mem.mp hxm
      rcases hp with hp | hp
      · exact hA.nonneg p hp
      · exact hB.nonneg p hp
    rw [hf2] at hm
    cases hl : allS A B with
    | nil => rw [hl] at hm; simp at hm
    | cons a l =>
      rw [hl] at hm hx
      simp at hx
      subst hx
      rcases List.mem_cons.mp hm with e | h
      · exact e.symm
      · have := allS_asc (A := A) (B := B)
        rw [hl] at this
        have := (List.pairwise_cons.mp this).1 0 h
        grind
theorem addRaw_val {A B : List Pc} (hA : Rw A) (hB : Rw B) {x : Rat} (hx : 0 ≤ x) : valAt (addRaw A B) x = valAt A x + valAt B x := by
  obtain ⟨p, hp, hpm, hps⟩ := (addRaw_rw hA hB).at_ex hx
  rw [valAt_of hp]
  obtain ⟨t, ht, rfl⟩ := List.mem_map.mp hpm
  simp only at hps
  have last : ∀ q, q ∈ A ∨ q ∈ B → q.s ≤ x → q.s ≤ t := fun q hq h => by
    have hm : q.s ∈ allS A B := allS_mem.mpr ⟨q, hq, rfl⟩
    by_cases c : q.s ≤ t
    · exact c
    · exfalso
      obtain ⟨l, r, e⟩ := List.append_of_mem ht
      have as := allS_asc (A := A) (B := B)
      rw [e] at as hm
      have hr : q.s ∈ r := by
        rcases List.mem_append.mp hm with h | h
        · have := (List.pairwise_append.mp as).2.2 _ h t (by simp); grind
        · rcases List.mem_cons.mp h with h | h
          · grind
          · exact h
      have hp' := hp
      unfold pieceAt addRaw at hp'
      rw [e, List.map_append, List.map_cons, List.filter_append, List.filter_cons] at hp'
      rw [if_pos (by have : ¬ x < t := by grind
                     simp [this])] at hp'
      have hne : List.filter (fun p : Pc => !decide (x < p.s)) (r.map fun x => ⟨x, valAt A x + valAt B x, slAt A x + slAt B x⟩) ≠ [] := fun e2 => by
        rw [List.filter_eq_nil_iff] at e2
        have := e2 ⟨q.s, valAt A q.s + valAt B q.s, slAt A q.s + slAt B q.s⟩ (List.mem_map.mpr ⟨q.s, hr, rfl⟩)
        have h9 : ¬ x < q.s := by grind
        simp [h9] at this
      have e5 : ∀ (X Y : List Pc) (z : Pc), Y ≠ [] → (X ++ z :: Y).getLast? = Y.getLast? := fun X Y z hY => by
        rw [List.getLast?_append, List.getLast?_cons_of_ne_nil hY]
        cases h9 : Y.getLast? with
        | none => exact (hY (List.getLast?_eq_none_iff.mp h9)).elim
        | some _ => rfl
      rw [e5 _ _ _ hne] at hp'
      have h6 := (List.mem_filter.mp (List.mem_of_getLast? hp')).1
      obtain ⟨u, hu, e7⟩ := List.mem_map.mp h6
      have h8 := (List.pairwise_cons.mp (List.pairwise_append.mp as).2.1).1 u hu
      have : u = t := congrArg Pc.s e7
      grind
  have pa := pieceAt_same (R := A) hps fun q hq h => last q (.inl hq) h
  have pb := pieceAt_same (R := B) hps fun q hq h => last q (.inr hq) h
  have t0 : 0 ≤ t := by
    obtain ⟨q, hq, rfl⟩ := allS_mem.mp ht
    rcases hq with hq | hq
    · exact hA.nonneg q hq
    · exact hB.nonneg q hq
  obtain ⟨a, ha, _, _⟩ := hA.at_ex t0
  obtain ⟨b, hb, _, _⟩ := hB.at_ex t0
  rw [ha] at pa
  rw [hb] at pb
  unfold valAt slAt
  simp only [pa, pb, ha, hb]
  unfold Pc.at
  simp only
  grind
/-! contracts -/
def stF (R : List Pc) (k : Nat) : Bool := match R[k]?, R[k + 1]? with
  | some a, some b => decide (a.at b.s = b.v)
  | _, _ => false
def steadyB (R : List Pc) : Bool := (List.range (R.length - 1)).all (stF R)
def upF (R : List Pc) (k : Nat) : Bool := match R[k]?, R[k + 1]? with
  | some a, some b => decide (a.k < b.k)
  | _, _ => false
def upB (R : List Pc) : Bool := (List.range (R.length - 1)).all (upF R)
theorem stF_eq {R : List Pc} {k : Nat} {a b : Pc} (h1 : R[k]? = some a) (h2 : R[k + 1]? = some b) : stF R k = decide (a.at b.s = b.v) := by unfold stF; rw [h1, h2]
theorem upF_eq {R : List Pc} {k : Nat} {a b : Pc} (h1 : R[k]? = some a) (h2 : R[k + 1]? = some b) : upF R k = decide (a.k < b.k) := by unfold upF; rw [h1, h2]
theorem split2 {R : List Pc} {k : Nat} {a b : Pc} (h1 : R[k]? = some a) (h2 : R[k + 1]? = some b) : R = R.take k ++ a :: b :: R.drop (k + 2) := by
  have l1 := (List.getElem?_eq_some_iff.mp h1)
  have l2 := (List.getElem?_eq_some_iff.mp h2)
  obtain ⟨l1, e1⟩ := l1
  obtain ⟨l2, e2⟩ := l2
  conv => lhs; rw [← List.take_append_drop k R, List.drop_eq_getElem_cons l1, List.drop_eq_getElem_cons l2, e1, e2]
theorem steadyB_of {R : List Pc} (h : Steady R) : steadyB R = true := by
  unfold steadyB
  rw [List.all_eq_true]
  intro k hk
  have hk : k < R.length - 1 := by simpa using hk
  have h1 : R[k]? = some (R[k]'(by omega)) := by simp
  have h2 : R[k + 1]? = some (R[k + 1]'(by omega)) := by simp
  rw [stF_eq h1 h2]
  exact decide_eq_true (h _ _ _ _ (split2 h1 h2))
theorem upB_of {R : List Pc} (h : R.Pairwise fun a b => a.k < b.k) : upB R = true := by
  unfold upB
  rw [List.all_eq_true]
  intro k hk
  have hk : k < R.length - 1 := by simpa using hk
  have h1 : R[k]? = some (R[k]'(by omega)) := by simp
  have h2 : R[k + 1]? = some (R[k + 1]'(by omega)) := by simp
  rw [upF_eq h1 h2]
  exact decide_eq_true (List.pairwise_iff_getElem.mp h k (k + 1) _ _ (by omega))
theorem range_step {f : Nat → Bool} {i : Nat} : (List.range (i + 1)).map f = (List.range i).map f ++ [f i] := by
  rw [List.range_succ, List.map_append]; rfl
theorem sortR_step {l : List Rat} {i : Nat} {r : Rat} (h : l[i]? = some r) : sortR (l.take (i + 1)) = insR (sortR (l.take i)) r := by
  unfold sortR
  rw [List.take_add_one, h, List.foldl_append]; rfl
def sp_is_steady : List D → Mem → K1 → Prop := fun ds M q => ∃ R, ds = [rowD R] ∧ RwW R ∧ q (.bl (steadyB R)) M
def sp_slopes : List D → Mem → K1 → Prop := fun ds M q => ∃ R, ds = [rowD R] ∧ RwW R ∧ q (.tup ((normR R).map fun p => rat p.k)) M
def sp_is_bent_up : List D → Mem → K1 → Prop := fun ds M q => ∃ R, ds = [rowD R] ∧ RwW R ∧ q (.bl (steadyB R && upB (normR R))) M
def sp_line : List D → Mem → K1 → Prop := fun ds M q => ∃ v k, ds = [rat v, rat k] ∧ q (rowD [⟨0, v, k⟩]) M
def sp_sorted_ratios : List D → Mem → K1 → Prop := fun ds M q => ∃ a l, ds = [.lst a] ∧ M a = some (List.map rat l) ∧ l.length ≤ 1000 ∧ (∀ x ∈ l, SzR 4000 x) ∧ ∀ f, M f = Option.none → q (.lst f) (M.up f (List.map rat (sortR l)))
def sp_all_starts : List D → Mem → K1 → Prop := fun ds M q => ∃ A B, ds = [rowD A, rowD B] ∧ RwW A ∧ RwW B ∧ ∀ f, M f = Option.none → q (.lst f) (M.up f (List.map rat (allS A B)))
def sp_slope_at : List D → Mem → K1 → Prop := fun ds M q => ∃ R x p, ds = [rowD R, rat x] ∧ RwW R ∧ SzR 1000 x ∧ pieceAt R x = some p ∧ q (rat p.k) M
def sp_added : List D → Mem → K1 → Prop := fun ds M q => ∃ A B, ds = [rowD A, rowD B] ∧ RwW A ∧ RwW B ∧ (allS A B).length ≤ 60 ∧ (∀ p ∈ addRaw A B, SzW p) ∧ q (rowD (normR (addRaw A B))) M
theorem slAt_of {R : List Pc} {x : Rat} {p : Pc} (h : pieceAt R x = some p) : slAt R x = p.k := by unfold slAt; rw [h]
theorem allS_sz {A B : List Pc} (hA : ∀ p ∈ A, SzW p) (hB : ∀ p ∈ B, SzW p) {x : Rat} (h : x ∈ allS A B) : SzR 1000 x := by
  obtain ⟨p, hp, rfl⟩ := allS_mem.mp h
  rcases hp with hp | hp
  · exact (hA p hp).s
  · exact (hB p hp).s
theorem allS_nn {A B : List Pc} (hA : Rw A) (hB : Rw B) {x : Rat} (h : x ∈ allS A B) : 0 ≤ x := by
  obtain ⟨p, hp, rfl⟩ := allS_mem.mp h
  rcases hp with hp | hp
  · exact hA.nonneg p hp
  · exact hB.nonneg p hp
end TB

namespace TB
open PySem PySem.Spec PyProof.Rows L2
/-! ### rows, third part: splits, steady sums, slopes, normal forms, multiples -/
theorem pieceAt_split {R : List Pc} {x : Rat} {p : Pc} : Asc R → pieceAt R x = some p → ∃ l r, R = l ++ p :: r ∧ p.s ≤ x ∧ Bl x (bd r) := by
  induction R using snoc_ind with
  | h0 => intro _ h; simp [pieceAt] at h
  | hs l z ih =>
    intro as h
    rw [pieceAt_snoc] at h
    by_cases c : x < z.s
    · rw [if_pos c] at h
      obtain ⟨l1, r1, e, h1, h2⟩ := ih (List.pairwise_append.mp as).1 h
      refine ⟨l1, r1 ++ [z], by rw [e]; simp, h1, fun t ht => ?_⟩
      cases r1 with
      | nil => simp [bd] at ht; subst ht; exact c
      | cons b r1 => exact h2 t (by simpa [bd] using ht)
    · rw [if_neg c] at h
      cases h
      exact ⟨l, [], by simp, by grind, fun t ht => by simp [bd] at ht⟩
theorem sl_last {R : List Pc} {x : Rat} {p q : Pc} (as : Asc R) (h : pieceAt R x = some p) (hq : q ∈ R) (hqx : q.s ≤ x) : q.s ≤ p.s := by
  obtain ⟨l, r, rfl, h1, h2⟩ := pieceAt_split as h
  rcases List.mem_append.mp hq with hq | hq
  · exact Rat.le_of_lt (asc_left as hq)
  · rcases List.mem_cons.mp hq with rfl | hq
    · exact Rat.le_refl
    · exfalso
      cases hb : bd r with
      | none => cases r with
        | nil => simp at hq
        | cons _ _ => simp [bd] at hb
      | some t => have := h2 t hb; have := bd_le as hq hb; grind
theorem cont {R : List Pc} {t t' : Rat} {p : Pc} (as : Asc R) (st : Steady R) (h : pieceAt R t = some p) (le : t ≤ t') (no : ∀ q ∈ R, t < q.s → t' ≤ q.s) : p.at t' = valAt R t' := by
  obtain ⟨l, r, rfl, h1, h2⟩ := pieceAt_split as h
  cases r with
  | nil => rw [valAt_of (pieceAt_mid as (by grind) fun u hu => by simp [bd] at hu)]
  | cons b r =>
    have hb := h2 b.s rfl
    have hn := no b (by simp) hb
    by_cases c : t' < b.s
    · rw [valAt_of (pieceAt_mid as (by grind) fun u hu => by simp [bd] at hu; subst hu; exact c)]
    · have e : t' = b.s := by grind
      subst e
      rw [val_start as (by simp : b ∈ l ++ p :: b :: r)]
      exact st l p b r rfl
theorem pieceAt_start {R : List Pc} {p : Pc} (as : Asc R) (hp : p ∈ R) : pieceAt R p.s = some p := by
  obtain ⟨l, r, rfl⟩ := List.append_of_mem hp
  exact pieceAt_mid as Rat.le_refl fun t ht => bd_lt as ht
theorem pieceAt_mem {R : List Pc} {x : Rat} {p : Pc} (h : pieceAt R x = some p) : p ∈ R ∧ p.s ≤ x := by
  have := List.mem_filter.mp (List.mem_of_getLast? h)
  refine ⟨this.1, ?_⟩
  have := this.2
  simp at this
  grind
theorem addRaw_steady {A B : List Pc} (hA : Rw A) (hB : Rw B) (sA : Steady A) (sB : Steady B) : Steady (addRaw A B) := by
  intro l a b r e
  have as := allS_asc (A := A) (B := B)
  unfold addRaw at e
  obtain ⟨L1, L2, e1, e2, e3⟩ := List.map_eq_append_iff.mp e
  obtain ⟨t, L3, e4, e5, e6⟩ := List.map_eq_cons_iff.mp e3
  obtain ⟨t', L4, e7, e8, e9⟩ := List.map_eq_cons_iff.mp e6
  subst e4 e7
  have hm : t ∈ allS A B := by rw [e1]; simp
  have hm' : t' ∈ allS A B := by rw [e1]; simp
  have t0 := allS_nn hA hB hm
  have tt : t < t' := by
    rw [e1] at as
    exact (List.pairwise_cons.mp (List.pairwise_append.mp as).2.1).1 t' (by simp)
  have no : ∀ q, q ∈ A ∨ q ∈ B → t < q.s → t' ≤ q.s := fun q hq hlt => by
    have hqm : q.s ∈ allS A B := allS_mem.mpr ⟨q, hq, rfl⟩
    rw [e1] at as hqm
    obtain ⟨as1, as2, as3⟩ := List.pairwise_append.mp as
    rcases List.mem_append.mp hqm with h | h
    · have := as3 q.s h t (by simp); grind
    · rcases List.mem_cons.mp h with h | h
      · grind
      · rcases List.mem_cons.mp h with h | h
        · grind
        · exact Rat.le_of_lt ((List.pairwise_cons.mp (List.pairwise_cons.mp as2).2).1 _ h)
  obtain ⟨pa, ha, _, _⟩ := hA.at_ex t0
  obtain ⟨pb, hb, _, _⟩ := hB.at_ex t0
  have ca := cont hA.asc sA ha (Rat.le_of_lt tt) fun q hq => no q (.inl hq)
  have cb := cont hB.asc sB hb (Rat.le_of_lt tt) fun q hq => no q (.inr hq)
  rw [← e5, ← e8]
  show valAt A t + valAt B t + (slAt A t + slAt B t) * (t' - t) = valAt A t' + valAt B t'
  rw [← ca, ← cb, valAt_of ha, valAt_of hb, slAt_of ha, slAt_of hb]
  unfold Pc.at
  grind
theorem normR_steady {R : List Pc} : Asc R → Steady R → Steady (normR R) := by
  induction R using snoc_ind with
  | h0 => intro _ _ l a b r e; simp [normR] at e
  | hs l z ih =>
    intro as st
    have as1 := (List.pairwise_append.mp as).1
    have i1 := ih as1 st.left
    have nv := (normR_val as1).2
    rw [normR_snoc]
    unfold nstep
    cases hl : (normR l).getLast? with
    | none =>
      have e : normR l = [] := List.getLast?_eq_none_iff.mp hl
      rw [e]
      intro l a b r e
      have := congrArg List.length e
      simp at this; omega
    | some a =>
      obtain ⟨p, hp1, hp2, hp3, hp4⟩ := nv a hl
      have hst : a.at z.s = z.v := by rw [hp4]; exact steady_snoc st hp1
      simp only
      by_cases c : a.k = z.k ∧ a.at z.s = z.v
      · rw [if_pos c]; exact i1
      · rw [if_neg c]
        exact snoc_steady i1 fun b hb => by rw [hl] at hb; cases hb; exact hst
theorem slAt_snoc {l : List Pc} {p : Pc} {x : Rat} : slAt (l ++ [p]) x = if x < p.s then slAt l x else p.k := by
  unfold slAt
  rw [pieceAt_snoc]
  by_cases c : x < p.s
  · rw [if_pos c, if_pos c]
  · rw [if_neg c, if_neg c]
theorem sl_last2 {l : List Pc} {a : Pc} {x : Rat} (hl : l.getLast? = some a) (hx : a.s ≤ x) : slAt l x = a.k := by
  have hne : l ≠ [] := fun e => by subst e; simp at hl
  have el : l = l.dropLast ++ [a] := by
    have := List.dropLast_concat_getLast hne
    rw [List.getLast?_eq_some_getLast hne] at hl
    cases hl; exact this.symm
  rw [el, slAt_snoc, if_neg (by grind)]
theorem normR_sl {R : List Pc} {x : Rat} : Asc R → slAt (normR R) x = slAt R x := by
  induction R using snoc_ind with
  | h0 => intro _; rfl
  | hs l p ih =>
    intro h
    have as1 := (List.pairwise_append.mp h).1
    have lt := (List.pairwise_append.mp h).2.2
    have i1 := ih as1
    rw [normR_snoc]
    rcases nstep_or (F := normR l) (p := p) with e | ⟨e, a, ha, hk, hv⟩
    · rw [e, slAt_snoc, slAt_snoc, i1]
    · rw [e, slAt_snoc]
      by_cases c : x < p.s
      · rw [if_pos c, i1]
      · have := lt a ((normR_sub l).subset (List.mem_of_getLast? ha)) p (by simp)
        rw [if_neg c, sl_last2 ha (by grind), hk]
theorem start_last {A B : List Pc} {x t : Rat} {p : Pc} (hp : pieceAt (addRaw A B) x = some p) (ht : p.s = t) (hA : Rw A) (hB : Rw B) : ∀ q, q ∈ A ∨ q ∈ B → q.s ≤ x → q.s ≤ t := fun q hq h => by
  have hm : q.s ∈ allS A B := allS_mem.mpr ⟨q, hq, rfl⟩
  have := sl_last (q := ⟨q.s, valAt A q.s + valAt B q.s, slAt A q.s + slAt B q.s⟩) (addRaw_rw hA hB).asc hp (List.mem_map.mpr ⟨q.s, hm, rfl⟩) h
  rw [ht] at this
  exact this
theorem addRaw_sl {A B : List Pc} (hA : Rw A) (hB : Rw B) {x : Rat} (hx : 0 ≤ x) : slAt (addRaw A B) x = slAt A x + slAt B x := by
  obtain ⟨p, hp, hpm, hps⟩ := (addRaw_rw hA hB).at_ex hx
  rw [slAt_of hp]
  have last := start_last hp rfl hA hB
  obtain ⟨t, ht, rfl⟩ := List.mem_map.mp hpm
  simp only at hps last
  have pa := pieceAt_same (R := A) hps fun q hq h => last q (.inl hq) h
  have pb := pieceAt_same (R := B) hps fun q hq h => last q (.inr hq) h
  unfold slAt
  rw [pa, pb]
theorem addRaw_s {A B : List Pc} {p : Pc} (h : p ∈ addRaw A B) : ∃ q, (q ∈ A ∨ q ∈ B) ∧ q.s = p.s := by
  obtain ⟨t, ht, rfl⟩ := List.mem_map.mp h
  exact allS_mem.mp ht
theorem addRaw_len {A B : List Pc} : (addRaw A B).length = (allS A B).length := by unfold addRaw; rw [List.length_map]
/-! normal forms -/
def Nm (R : List Pc) : Prop := ∀ l a b r, R = l ++ a :: b :: r → a.k = b.k → a.at b.s ≠ b.v
theorem Nm.left {l : List Pc} {z : Pc} (h : Nm (l ++ [z])) : Nm l := fun l' a b r e => h l' a b (r ++ [z]) (by rw [e]; simp)
theorem nm_snoc {l : List Pc} {a z : Pc} (h : Nm (l ++ [z])) (hl : l.getLast? = some a) : a.k = z.k → a.at z.s ≠ z.v := by
  have hne : l ≠ [] := fun e => by subst e; simp at hl
  have el : l = l.dropLast ++ [a] := by
    have := List.dropLast_concat_getLast hne
    rw [List.getLast?_eq_some_getLast hne] at hl
    cases hl; exact this.symm
  exact h l.dropLast a z [] (by
    conv => lhs; rw [el]
    simp)
theorem snoc_nm {l : List Pc} {z : Pc} (h : Nm l) (hz : ∀ a, l.getLast? = some a → a.k = z.k → a.at z.s ≠ z.v) : Nm (l ++ [z]) := by
  intro l' a b r e
  cases hr : r using snoc_ind with
  | h0 =>
    subst hr
    have e2 : l ++ [z] = (l' ++ [a]) ++ [b] := by rw [e]; simp
    obtain ⟨e3, e4⟩ := List.append_inj' e2 rfl
    simp at e4
    subst e4
    exact hz a (by rw [e3]; simp)
  | hs r' c _ =>
    subst hr
    have e2 : l ++ [z] = (l' ++ a :: b :: r') ++ [c] := by rw [e]; simp
    obtain ⟨e3, _⟩ := List.append_inj' e2 rfl
    exact h l' a b r' e3
theorem normR_nm {R : List Pc} : Nm (normR R) := by
  induction R using snoc_ind with
  | h0 => intro l a b r e; simp [normR] at e
  | hs l z ih =>
    rw [normR_snoc]
    unfold nstep
    cases hl : (normR l).getLast? with
    | none =>
      have e : normR l = [] := List.getLast?_eq_none_iff.mp hl
      rw [e]
      intro l a b r e
      have := congrArg List.length e
      simp at this; omega
    | some a =>
      simp only
      by_cases c : a.k = z.k ∧ a.at z.s = z.v
      · rw [if_pos c]; exact ih
      · rw [if_neg c]
        exact snoc_nm ih fun b hb e1 e2 => by rw [hl] at hb; cases hb; exact c ⟨e1, e2⟩
theorem nm_norm {R : List Pc} : Nm R → normR R = R := by
  induction R using snoc_ind with
  | h0 => intro _; rfl
  | hs l z ih =>
    intro h
    rw [normR_snoc, ih h.left]
    unfold nstep
    cases hl : l.getLast? with
    | none => rfl
    | some a =>
      simp only
      rw [if_neg fun c => nm_snoc h hl c.1 c.2]
/-! multiples -/
def scP (r : Rat) (p : Pc) : Pc := ⟨p.s, p.v * r, p.k * r⟩
theorem scP_at {r x : Rat} {p : Pc} : (scP r p).at x = r * p.at x := by unfold scP Pc.at; simp only; grind
theorem sc_piece {R : List Pc} {r x : Rat} : pieceAt (R.map (scP r)) x = (pieceAt R x).map (scP r) := by
  unfold pieceAt
  rw [List.filter_map, List.getLast?_map]; rfl
theorem sc_val {R : List Pc} {r x : Rat} : valAt (R.map (scP r)) x = r * valAt R x := by
  unfold valAt
  rw [sc_piece]
  cases pieceAt R x with
  | none => simp
  | some p => exact scP_at
theorem sc_sl {R : List Pc} {r x : Rat} : slAt (R.map (scP r)) x = r * slAt R x := by
  unfold slAt
  rw [sc_piece]
  cases pieceAt R x with
  | none => simp
  | some p => simp only [Option.map_some, scP]; grind
theorem sc_rw {R : List Pc} {r : Rat} (h : Rw R) : Rw (R.map (scP r)) := by
  refine ⟨?_, fun e => h.ne (List.map_eq_nil_iff.mp e), fun p hp => ?_⟩
  · unfold Asc
    rw [List.pairwise_map]
    exact h.asc
  · rw [List.head?_map, Option.map_eq_some_iff] at hp
    obtain ⟨q, hq, rfl⟩ := hp
    exact h.zero q hq
theorem sc_steady {R : List Pc} {r : Rat} (h : Steady R) : Steady (R.map (scP r)) := by
  intro l a b t e
  obtain ⟨L1, L2, e1, e2, e3⟩ := List.map_eq_append_iff.mp e
  obtain ⟨a', L3, e4, e5, e6⟩ := List.map_eq_cons_iff.mp e3
  obtain ⟨b', L4, e7, e8, e9⟩ := List.map_eq_cons_iff.mp e6
  subst e4 e7
  have := h _ a' b' L4 e1
  rw [← e5, ← e8, scP_at]
  show r * a'.at b'.s = b'.v * r
  rw [this]; grind
def sp_scaled : List D → Mem → K1 → Prop := fun ds M q => ∃ R r, ds = [rowD R, rat r] ∧ RwW R ∧ SzR 300 r ∧ (∀ p ∈ R, SzW (scP r p)) ∧ q (rowD (normR (R.map (scP r)))) M
theorem sc_w {R : List Pc} {r : Rat} (h : RwW R) (hs : ∀ p ∈ R, SzW (scP r p)) : RwW (R.map (scP r)) :=
  ⟨sc_rw h.rw, by rw [List.length_map]; exact h.len, fun p hp => by
    obtain ⟨q, hq, rfl⟩ := List.mem_map.mp hp
    exact hs q hq⟩
end TB

namespace TB
open PySem PySem.Spec PyProof.Rows L2
/-! ### data that is like itself -/
mutual
theorem deq_self : ∀ d : D, d.pure = true → deq d d = true
  | .non, _ => rfl
  | .bl b, _ => by simp [deq]
  | .int i, _ => by simp [deq]
  | .str s, _ => by simp [deq]
  | .tup ds, h => by
    simp only [deq]
    exact deqL_self ds (by simpa [D.pure] using h)
  | .lst _, h => by simp [D.pure] at h
  | .scr _ _, h => by simp [D.pure] at h
theorem deqL_self : ∀ ds : List D, D.pureL ds = true → deqL ds ds = true
  | [], _ => rfl
  | d :: ds, h => by
    simp only [D.pureL, Bool.and_eq_true] at h
    simp only [deqL, deq_self d h.1, deqL_self ds h.2, Bool.and_self]
end
theorem eqW_any {d e : D} {M : Mem} {r : Bool → Prop} (h1 : d.pure = true) (h2 : d.depth ≤ 60) (h3 : e.pure = true) (h4 : e.depth ≤ 60) (h : r (deq d e)) : eqW d e M r := by
  have : (d.pure = true ∧ e.pure = true ∧ d.depth ≤ 60 ∧ e.depth ≤ 60) ∧ r (deq d e) := ⟨⟨h1, h3, h2, h4⟩, h⟩
  cases d <;> cases e <;> first | exact this | (simp [D.pure] at h1)
theorem eqW_self {d : D} {M : Mem} {r : Bool → Prop} (h1 : d.pure = true) (h2 : d.depth ≤ 60) (h : r true) : eqW d d M r :=
  eqW_any h1 h2 h1 h2 (by rw [deq_self d h1]; exact h)
theorem row_pure (R : List Pc) : (rowD R).pure = true ∧ (rowD R).depth ≤ 3 := by
  have : D.pureL (R.map pc) = true ∧ D.depthL (R.map pc) ≤ 2 := by
    induction R with
    | nil => exact ⟨rfl, by simp [D.depthL]⟩
    | cons p r ih =>
      have h1 : (pc p).pure = true := rfl
      have h2 : (pc p).depth = 2 := rfl
      refine ⟨by simp only [List.map_cons, D.pureL, h1, ih.1, Bool.and_self], ?_⟩
      have := ih.2
      simp only [List.map_cons, D.depthL, h2]
      omega
  refine ⟨by simp only [rowD, D.pure]; exact this.1, ?_⟩
  have h := this.2
  simp only [rowD, D.depth]; omega
theorem optD_pure {o : Option Rat} : (optD o).pure = true ∧ (optD o).depth ≤ 1 := by
  cases o with
  | none => exact ⟨rfl, by simp [optD, D.depth]⟩
  | some t => exact ⟨rfl, Nat.le_refl _⟩
theorem fit_opt {k : Nat} {o : Option Rat} : fitN (k + 1) (optD o) = true := by
  cases o with
  | none => rfl
  | some t => exact fit_rat
theorem any_false {n : Nat} : (List.replicate n false).any id = false := by simp
theorem rep_snoc {n : Nat} : List.replicate n (D.bl false) ++ [D.bl false] = List.replicate (n + 1) (D.bl false) := List.replicate_succ'.symm
theorem rep_snocT {n : Nat} : List.replicate n (D.bl true) ++ [D.bl true] = List.replicate (n + 1) (D.bl true) := List.replicate_succ'.symm
theorem sub_set {M M' : Mem} {p : Addr} {ds : List D} (h : Sub M M') (hp : M p = Option.none) : Sub M (M'.up p ds) := fun a es e => by
  rw [up_ne (fun z => by subst z; rw [hp] at e; cases e)]; exact h a es e
def halfR : Rat := ⟨1, 2, by decide, by decide⟩
def sevR : Rat := ⟨7, 2, by decide, by decide⟩
theorem rat12 : D.tup [.int 1, .int 2] = rat halfR := rfl
theorem rat72 : D.tup [.int 7, .int 2] = rat sevR := rfl
theorem rat21 : D.tup [.int 2, .int 1] = rat 2 := rfl
theorem half2 : halfR + halfR = 1 := by decide +kernel
theorem half_sz : SzR 2 halfR := ⟨.lit 2 (by decide) (by omega), .lit 2 (by decide) (by omega)⟩
theorem sev_sz : SzR 3 sevR := ⟨.lit 3 (by decide) (by omega), .lit 3 (by decide) (by omega)⟩
theorem one_sz : SzR 1 (1 : Rat) := ⟨.lit 1 (by decide) (by omega), .lit 1 (by decide) (by omega)⟩
theorem two_sz : SzR 2 (2 : Rat) := ⟨.lit 2 (by decide) (by omega), .lit 2 (by decide) (by omega)⟩
theorem div_two {x : Rat} : x / 2 = x * halfR := by
  have : (2 : Rat)⁻¹ = halfR := by decide +kernel
  rw [Rat.div_def, this]
theorem ints_len {α : Type} {f : α → D} {l : List α} : (l.map f).length = l.length := List.length_map ..
/-! ### ratios on a grid -/
def Qz (d B : Nat) (x : Rat) : Prop := ∃ m : Int, x * ((d : Int) : Rat) = (m : Rat) ∧ m.natAbs ≤ B
theorem Qz.add {d B C : Nat} {x y : Rat} (h : Qz d B x) (k : Qz d C y) : Qz d (B + C) (x + y) := by
  obtain ⟨m, e, l⟩ := h
  obtain ⟨n, f, j⟩ := k
  refine ⟨m + n, ?_, by omega⟩
  rw [Rat.add_mul, e, f, ← Rat.intCast_add]
theorem Qz.neg {d B : Nat} {x : Rat} (h : Qz d B x) : Qz d B (-x) := by
  obtain ⟨m, e, l⟩ := h
  exact ⟨-m, by rw [Rat.neg_mul, e, Rat.intCast_neg], by omega⟩
theorem Qz.sub {d B C : Nat} {x y : Rat} (h : Qz d B x) (k : Qz d C y) : Qz d (B + C) (x - y) := by
  rw [Rat.sub_eq_add_neg]; exact h.add k.neg
theorem Qz.mul {d c B C : Nat} {x y : Rat} (h : Qz d B x) (k : Qz c C y) : Qz (d * c) (B * C) (x * y) := by
  obtain ⟨m, e, l⟩ := h
  obtain ⟨n, f, j⟩ := k
  refine ⟨m * n, ?_, by rw [Int.natAbs_mul]; exact Nat.mul_le_mul l j⟩
  have e1 : (((d * c : Nat) : Int) : Rat) = ((d : Int) : Rat) * ((c : Int) : Rat) := by rw [← Rat.intCast_mul]; rfl
  rw [e1, Rat.intCast_mul, ← e, ← f]; grind
theorem Qz.int {B : Nat} {m : Int} (h : m.natAbs ≤ B) : Qz 1 B (m : Rat) := ⟨m, by
  have : (((1 : Nat) : Int) : Rat) = 1 := rfl
  rw [this, Rat.mul_one], h⟩
theorem Qz.zero {d B : Nat} : Qz d B 0 := ⟨0, by simp, by simp⟩
theorem Qz.mono {d B C : Nat} {x : Rat} (h : Qz d B x) (l : B ≤ C) : Qz d C x := by
  obtain ⟨m, e, k⟩ := h; exact ⟨m, e, by omega⟩
theorem Qz.fine {d B : Nat} {x : Rat} (c : Nat) (h : Qz d B x) : Qz (d * c) (B * c) x := by
  obtain ⟨m, e, l⟩ := h
  refine ⟨m * c, ?_, by rw [Int.natAbs_mul]; exact Nat.mul_le_mul l (by simp)⟩
  have e1 : (((d * c : Nat) : Int) : Rat) = ((d : Int) : Rat) * ((c : Int) : Rat) := by rw [← Rat.intCast_mul]; rfl
  rw [e1, Rat.intCast_mul, ← e]; grind
theorem int_ne {d : Int} (hd : d ≠ 0) : ((d : Int) : Rat) ≠ 0 := by
  intro z
  have : ((d : Int) : Rat) = ((0 : Int) : Rat) := z
  exact hd (Rat.intCast_inj.mp this)
theorem Qz.sz {d B n : Nat} {x : Rat} (h : Qz d B x) (hd : 0 < d) (h1 : B < 2 ^ n) (h2 : d < 2 ^ n) : SzR n x := by
  obtain ⟨m, e, l⟩ := h
  have dn : ((d : Int) : Rat) ≠ 0 := int_ne (by omega)
  have : x = Rat.divInt m (d : Int) := by
    rw [Rat.divInt_eq_div, Rat.div_def, ← e, Rat.mul_assoc, Rat.mul_inv_cancel _ dn, Rat.mul_one]
  rw [this]
  exact SzR.divInt (by unfold Sz; omega) (by unfold Sz; omega) (by omega)
theorem qz_div {d B : Nat} {m n c : Int} (hc : 0 < c) (h : m * d = n * c) (nB : n.natAbs ≤ B) : Qz d B (Rat.divInt m c) := by
  refine ⟨n, ?_, nB⟩
  rw [Rat.divInt_eq_div, Rat.div_def]
  have i1 := Rat.mul_inv_cancel _ (int_ne (show c ≠ 0 by omega))
  have h2 : ((m : Int) : Rat) * ((d : Int) : Rat) = ((n : Int) : Rat) * ((c : Int) : Rat) := by
    rw [← Rat.intCast_mul, ← Rat.intCast_mul, h]
  have h3 : (m : Rat) * (c : Rat)⁻¹ * ((d : Int) : Rat) = (m : Rat) * ((d : Int) : Rat) * (c : Rat)⁻¹ := by grind
  rw [h3, h2, Rat.mul_assoc, i1, Rat.mul_one]
theorem den_mul (x : Rat) : x * ((x.den : Int) : Rat) = (x.num : Rat) := by
  have h : (x.num : Rat) * ((x.den : Int) : Rat)⁻¹ = x := by
    rw [← Rat.div_def, ← Rat.divInt_eq_div, Rat.num_divInt_den]
  have i := Rat.inv_mul_cancel _ (int_ne (den_ne x))
  have h2 : x * ((x.den : Int) : Rat) = (x.num : Rat) * ((x.den : Int) : Rat)⁻¹ * ((x.den : Int) : Rat) := by rw [h]
  rw [h2, Rat.mul_assoc, i, Rat.mul_one]
/-- a ratio above nought is not too small -/
theorem pos_ge {g : Nat} {x : Rat} (h : SzR g x) (h0 : 0 < x) : 1 ≤ x * (((2 ^ g : Nat) : Int) : Rat) := by
  have hn : 0 < x.num := by
    have h1 := Rat.num_nonneg.mpr (Rat.le_of_lt h0)
    have h2 : x.num ≠ 0 := fun e => by
      have := Rat.num_eq_zero.mp e
      grind
    omega
  have e := den_mul x
  have h1 : (1 : Rat) ≤ x * ((x.den : Int) : Rat) := by
    rw [e]
    have : ((1 : Int) : Rat) ≤ (x.num : Rat) := Rat.intCast_le_intCast.mpr (by omega)
    exact this
  have h2 : ((x.den : Int) : Rat) ≤ (((2 ^ g : Nat) : Int) : Rat) := Rat.intCast_le_intCast.mpr (by
    have := h.den
    unfold Sz at this
    omega)
  have := mul_le_l h2 (Rat.le_of_lt h0)
  grind
theorem lt_pow {g : Nat} {x : Rat} (h : SzR g x) : x < (((2 ^ g : Nat) : Int) : Rat) := by
  have hd := den_pos x
  by_cases c : 0 ≤ x
  · have e := den_mul x
    have h1 : (1 : Rat) ≤ ((x.den : Int) : Rat) := by
      have : ((1 : Int) : Rat) ≤ ((x.den : Int) : Rat) := Rat.intCast_le_intCast.mpr (by omega)
      exact this
    have h2 : (x.num : Rat) < (((2 ^ g : Nat) : Int) : Rat) := Rat.intCast_lt_intCast.mpr (by
      have := h.num
      unfold Sz at this
      omega)
    have := mul_le_l h1 c
    grind
  · have : (0 : Rat) ≤ (((2 ^ g : Nat) : Int) : Rat) := Rat.intCast_nonneg.mpr (Int.natCast_nonneg _)
    grind
/-! ### ratios told by data -/
def toR : D → Rat
  | .tup [.int a, .int b] => Rat.divInt a b
  | _ => 0
theorem toR_rat {x : Rat} : toR (rat x) = x := by
  show Rat.divInt x.num x.den = x
  exact Rat.num_divInt_den x
theorem isRat_eq {d : D} (h : isRat d = true) : d = rat (toR d) := by
  unfold isRat at h
  split at h
  · rename_i a b
    simp only [Bool.and_eq_true, decide_eq_true_eq] at h
    obtain ⟨hb, hg⟩ := h
    show D.tup [.int a, .int b] = rat (Rat.divInt a b)
    rw [← ratio_pos hb, hg]
    have e1 : a.fdiv (1 : Nat) = a := by show a.fdiv 1 = a; exact Int.fdiv_one a
    have e2 : b.fdiv (1 : Nat) = b := by show b.fdiv 1 = b; exact Int.fdiv_one b
    rw [e1, e2]
  · cases h
/-! ### rows that rise -/
def prv (N : List Pc) (k : Nat) : Option Pc := if k = 0 then none else N[k - 1]?
def jdB (N : List Pc) (k : Nat) : Bool := match prv N k, N[k]? with
  | some a, some p => decide (p.v < a.at p.s)
  | _, _ => false
def negB (N : List Pc) (k : Nat) : Bool := match N[k]? with
  | some p => decide (p.k < 0)
  | none => false
def faB (N : List Pc) (k : Nat) : Bool := negB N k || jdB N k
def risB (N : List Pc) : Bool := !((List.range N.length).any (faB N))
structure Ris (N : List Pc) : Prop where
  k : ∀ p ∈ N, 0 ≤ p.k
  j : ∀ l a b r, N = l ++ a :: b :: r → a.at b.s ≤ b.v
theorem prv_succ {N : List Pc} {k : Nat} : prv N (k + 1) = N[k]? := rfl
theorem jdB_zero {N : List Pc} : jdB N 0 = false := rfl
theorem jdB_succ {N : List Pc} {k : Nat} {a p : Pc} (h0 : N[k]? = some a) (h1 : N[k + 1]? = some p) : jdB N (k + 1) = decide (p.v < a.at p.s) := by
  unfold jdB; rw [prv_succ, h0, h1]
theorem negB_of {N : List Pc} {k : Nat} {p : Pc} (h : N[k]? = some p) : negB N k = decide (p.k < 0) := by unfold negB; rw [h]
theorem ris_iff {N : List Pc} : risB N = true ↔ Ris N := by
  unfold risB
  rw [Bool.not_eq_true', List.any_eq_false]
  constructor
  · intro h
    refine ⟨fun p hp => ?_, fun l a b r e => ?_⟩
    · obtain ⟨k, hk, e⟩ := List.getElem_of_mem hp
      have hg : N[k]? = some p := by rw [List.getElem?_eq_getElem hk, e]
      have := h k (List.mem_range.mpr hk)
      unfold faB at this
      rw [negB_of hg] at this
      simp at this
      grind
    · have h0 : N[l.length]? = some a := by rw [e]; simp
      have h1 : N[l.length + 1]? = some b := by rw [e]; simp
      have := h (l.length + 1) (List.mem_range.mpr (List.getElem?_eq_some_iff.mp h1).1)
      unfold faB at this
      rw [jdB_succ h0 h1] at this
      simp at this
      grind
  · intro h k hk
    have hk := List.mem_range.mp hk
    have hg : N[k]? = some N[k] := List.getElem?_eq_getElem hk
    unfold faB
    rw [negB_of hg]
    have n1 : ¬ (N[k]).k < 0 := by
      have := h.k _ (List.getElem_mem hk)
      grind
    cases k with
    | zero => rw [jdB_zero]; simp [n1]
    | succ k =>
      have h0 : N[k]? = some N[k] := List.getElem?_eq_getElem (by omega)
      rw [jdB_succ h0 hg]
      have := h.j _ _ _ _ (split2 h0 hg)
      simp [n1]
      grind
theorem Ris.left {l : List Pc} {z : Pc} (h : Ris (l ++ [z])) : Ris l := ⟨fun p hp => h.k p (by simp [hp]), fun l' a b r e => h.j l' a b (r ++ [z]) (by rw [e]; simp)⟩
theorem Ris.last {l : List Pc} {a z : Pc} (h : Ris (l ++ [z])) (hl : l.getLast? = some a) : a.at z.s ≤ z.v := by
  have hne : l ≠ [] := fun e => by subst e; simp at hl
  have := List.dropLast_concat_getLast hne
  rw [List.getLast?_eq_some_getLast hne] at hl
  injection hl with hl
  rw [hl] at this
  exact h.j l.dropLast a z [] (by rw [← this]; simp)
theorem ris_mono {N : List Pc} : Asc N → Ris N → ∀ x y, (∃ p ∈ N, p.s ≤ x) → x ≤ y → valAt N x ≤ valAt N y := by
  induction N using snoc_ind with
  | h0 => intro _ _ x y ⟨p, hp, _⟩; simp at hp
  | hs l z ih =>
    intro as h x y ⟨p, hp, hps⟩ le
    have as1 := (List.pairwise_append.mp as).1
    have lt := (List.pairwise_append.mp as).2.2
    have ih := ih as1 h.left
    have zk := h.k z (by simp)
    rw [valAt_snoc, valAt_snoc]
    by_cases c1 : x < z.s
    · have hpl : p ∈ l := by
        rcases List.mem_append.mp hp with hp | hp
        · exact hp
        · simp at hp; subst hp; grind
      rw [if_pos c1]
      by_cases c2 : y < z.s
      · rw [if_pos c2]; exact ih x y ⟨p, hpl, hps⟩ le
      · rw [if_neg c2]
        have h1 := ih x z.s ⟨p, hpl, hps⟩ (Rat.le_of_lt c1)
        cases hl : l.getLast? with
        | none => rw [List.getLast?_eq_none_iff.mp hl] at hpl; simp at hpl
        | some a =>
          have ha := List.mem_of_getLast? hl
          rw [val_last hl (Rat.le_of_lt (lt a ha z (by simp)))] at h1
          have h2 := h.last hl
          have h3 := at_ge zk (show z.s ≤ y by grind)
          rw [at_s] at h3
          grind
    · rw [if_neg c1, if_neg (by grind)]
      exact at_ge zk le
theorem belowAt_idx {N : List Pc} {k : Nat} {a p : Pc} (as : Asc N) (h0 : N[k]? = some a) (h1 : N[k + 1]? = some p) : belowAt N p.s = some a := by
  have e := split2 h0 h1
  have lt : a.s < p.s := by
    rw [e] at as
    exact asc_right as (by simp)
  have as' := as
  rw [e] at as' ⊢
  exact belowAt_mid as' lt fun t ht => by
    simp [bd] at ht
    subst ht
    exact Rat.le_refl
/-- two incomes of which the greater one has less -/
structure FallAt (N : List Pc) (x y : Rat) : Prop where
  x0 : 0 ≤ x
  lt : x < y
  le : valAt N y < valAt N x
theorem not_ris {N : List Pc} {x y : Rat} (hN : Rw N) (h : FallAt N x y) : risB N = false := by
  cases e : risB N with
  | false => rfl
  | true =>
    obtain ⟨p, hp, z⟩ := hN.first
    have := ris_mono hN.asc (ris_iff.mp e) x y ⟨p, hp, by rw [z]; exact h.x0⟩ (Rat.le_of_lt h.lt)
    have := h.le
    grind
theorem split_idx {R : List Pc} {i : Nat} {p : Pc} (h : R[i]? = some p) : R.take i ++ p :: R.drop (i + 1) = R ∧ (R.take i).length = i := by
  have hi := (List.getElem?_eq_some_iff.mp h).1
  have e := (List.getElem?_eq_some_iff.mp h).2
  refine ⟨by rw [← e, ← List.drop_eq_getElem_cons hi, List.take_append_drop], by rw [List.length_take]; omega⟩
theorem fall_slope {N : List Pc} {k : Nat} {p : Pc} {y : Rat} (hN : Rw N) (h : N[k]? = some p) (hk : p.k < 0) (lt : p.s < y) (bl : Bl y (bd (N.drop (k + 1)))) : FallAt N p.s y := by
  obtain ⟨e1, e2⟩ := split_idx h
  refine ⟨hN.nonneg p (List.mem_of_getElem? h), lt, ?_⟩
  have as := hN.asc
  have v1 : valAt N p.s = p.v := val_start as (List.mem_of_getElem? h)
  have v2 : valAt N y = p.at y := by
    rw [← e1] at as ⊢
    exact valAt_of (pieceAt_mid as (Rat.le_of_lt lt) bl)
  rw [v1, v2]
  have := at_gt hk lt
  rw [at_s] at this
  exact this
theorem fall_jump {N : List Pc} {k : Nat} {a p : Pc} {x : Rat} (hN : Rw N) (h0 : N[k]? = some a) (h1 : N[k + 1]? = some p) (ge : a.s ≤ x) (lt : x < p.s) (hv : p.v < a.at x) : FallAt N x p.s := by
  have ha := hN.nonneg a (List.mem_of_getElem? h0)
  refine ⟨by grind, lt, ?_⟩
  have as := hN.asc
  have v1 : valAt N p.s = p.v := val_start as (List.mem_of_getElem? h1)
  have e := split2 h0 h1
  have v2 : valAt N x = a.at x := by
    rw [e] at as ⊢
    exact valAt_of (pieceAt_mid as ge fun t ht => by simp [bd] at ht; subst ht; exact lt)
  rw [v1, v2]
  exact hv
end TB

namespace TB
open PySem PySem.Spec PyProof.Rows L2
/-! ### rows of the laws -/
structure SzG (p : Pc) : Prop where
  s : SzR 10 p.s
  v : SzR 20 p.v
  k : SzR 10 p.k
structure GR (R : List Pc) : Prop where
  rw : Rw R
  len : R.length ≤ 6
  sz : ∀ p ∈ R, SzG p
theorem SzG.w {p : Pc} (h : SzG p) : SzW p := ⟨h.s.mono (by omega), h.v.mono (by omega), h.k.mono (by omega)⟩
theorem SzG.at {p : Pc} {x : Rat} {n : Nat} (sp : SzG p) (hx : SzR n x) : SzR (n + 42) (p.at x) := by
  have h1 : SzR (n + 11) (x - p.s) := hx.subw sp.s (by omega)
  have h2 : SzR (n + 21) (p.k * (x - p.s)) := sp.k.mul h1 (by omega)
  exact sp.v.addw h2 (by omega)
theorem GR.w {R : List Pc} (h : GR R) : RwW R := ⟨h.rw, Nat.le_trans h.len (by decide), fun p hp => (h.sz p hp).w⟩
theorem GR.norm {R : List Pc} (h : GR R) : GR (normR R) := ⟨normR_rw h.rw, Nat.le_trans (normR_sub R).length_le h.len, fun p hp => h.sz p ((normR_sub R).subset hp)⟩
theorem GR.val {R : List Pc} (h : GR R) {x : Rat} {n : Nat} (x0 : 0 ≤ x) (hx : SzR n x) : ∃ p, pieceAt R x = some p ∧ p ∈ R ∧ valAt R x = p.at x ∧ SzR (n + 42) (valAt R x) := by
  obtain ⟨p, hp, hpR, _⟩ := h.rw.at_ex x0
  have e := valAt_of hp
  exact ⟨p, hp, hpR, e, by rw [e]; exact (h.sz p hpR).at hx⟩
/-! ### places -/
def stR (Rs : List (List Pc)) : List Rat := sortR (Rs.flatMap fun R => R.map (·.s))
def midR (S : List Rat) (k : Nat) : Rat := ((S[k]?).getD 0 + (S[k + 1]?).getD 0) * halfR
def midsR (S : List Rat) : List Rat := (List.range (S.length - 1)).map (midR S)
def lastR (S : List Rat) : Rat := S.getLast?.getD 0
def pl1 (S : List Rat) : List Rat := S ++ midsR S ++ [lastR S + 1]
def pl2 (S : List Rat) : List Rat := S ++ midsR S ++ [lastR S + 1, lastR S + sevR]
theorem stR_two {A B : List Pc} : stR [A, B] = allS A B := by unfold stR allS; simp
theorem stR_mem {Rs : List (List Pc)} {x : Rat} : x ∈ stR Rs ↔ ∃ R ∈ Rs, ∃ p ∈ R, p.s = x := by
  unfold stR; rw [sortR_mem, List.mem_flatMap]
  simp only [List.mem_map]
structure StOk (S : List Rat) : Prop where
  ne : S ≠ []
  asc : S.Pairwise (· < ·)
  len : S.length ≤ 12
  ok : ∀ x ∈ S, 0 ≤ x ∧ SzR 10 x
theorem len_flat {Rs : List (List Pc)} {n : Nat} : (∀ R ∈ Rs, R.length ≤ n) → (Rs.flatMap fun R => R.map (·.s)).length ≤ n * Rs.length := by
  induction Rs with
  | nil => intro _; simp
  | cons a r ih =>
    intro h
    have := ih fun R hR => h R (by simp [hR])
    have h2 := h a (by simp)
    rw [List.flatMap_cons, List.length_append, List.length_map, List.length_cons, Nat.mul_add]
    omega
theorem st_ok {Rs : List (List Pc)} (h : ∀ R ∈ Rs, GR R) (ne : Rs ≠ []) (hl : Rs.length ≤ 2) : StOk (stR Rs) := by
  refine ⟨fun e => ?_, sortR_asc, ?_, fun x hx => ?_⟩
  · cases Rs with
    | nil => exact ne rfl
    | cons R r =>
      obtain ⟨p, hp, z⟩ := (h R (by simp)).rw.first
      have : (0 : Rat) ∈ stR (R :: r) := stR_mem.mpr ⟨R, by simp, p, hp, z⟩
      rw [e] at this; simp at this
  · have := len_flat (n := 6) fun R hR => (h R hR).len
    exact Nat.le_trans sortR_len (Nat.le_trans this (by omega))
  · obtain ⟨R, hR, p, hp, rfl⟩ := stR_mem.mp hx
    exact ⟨(h R hR).rw.nonneg p hp, ((h R hR).sz p hp).s⟩
theorem StOk.last {S : List Rat} (h : StOk S) : S.getLast? = some (lastR S) ∧ 0 ≤ lastR S ∧ SzR 10 (lastR S) := by
  have e := List.getLast?_eq_some_getLast h.ne
  have : lastR S = S.getLast h.ne := by unfold lastR; rw [e]; rfl
  rw [this]
  exact ⟨e, h.ok _ (List.getLast_mem h.ne)⟩
theorem StOk.le_last {S : List Rat} (h : StOk S) : ∀ x ∈ S, x ≤ lastR S := by
  intro x hx
  obtain ⟨e, _⟩ := h.last
  have hs := List.dropLast_concat_getLast h.ne
  have el : S.getLast h.ne = lastR S := by
    rw [List.getLast?_eq_some_getLast h.ne] at e; injection e
  rw [el] at hs
  have hx' : x ∈ S.dropLast ++ [lastR S] := by rw [hs]; exact hx
  rcases List.mem_append.mp hx' with hx' | hx'
  · have as := h.asc
    rw [← hs] at as
    exact Rat.le_of_lt ((List.pairwise_append.mp as).2.2 x hx' _ (by simp))
  · simp at hx'; rw [hx']; exact Rat.le_refl
theorem StOk.mid {S : List Rat} (h : StOk S) {k : Nat} : 0 ≤ midR S k ∧ SzR 23 (midR S k) := by
  have ok : ∀ i : Nat, 0 ≤ (S[i]?).getD 0 ∧ SzR 10 ((S[i]?).getD 0) := fun i => by
    cases e : S[i]? with
    | none => exact ⟨Rat.le_refl, SzR.zero.mono (by omega)⟩
    | some x => exact h.ok x (List.mem_of_getElem? e)
  unfold midR
  have n12 : 0 ≤ halfR := by decide +kernel
  refine ⟨Rat.mul_nonneg ?_ n12, (((ok k).2.addw (ok (k + 1)).2 (k := 21) (by omega)).mul half_sz (by omega))⟩
  have := (ok k).1; have := (ok (k + 1)).1; grind
theorem StOk.pl {S : List Rat} (h : StOk S) : ∀ x ∈ pl2 S, 0 ≤ x ∧ SzR 23 x := by
  intro x hx
  obtain ⟨_, l0, ls⟩ := h.last
  have n72 : 0 ≤ sevR := by decide +kernel
  unfold pl2 at hx
  rcases List.mem_append.mp hx with hx | hx
  · rcases List.mem_append.mp hx with hx | hx
    · exact ⟨(h.ok x hx).1, (h.ok x hx).2.mono (by omega)⟩
    · obtain ⟨k, _, rfl⟩ := List.mem_map.mp hx
      exact h.mid
  · simp at hx
    rcases hx with rfl | rfl
    · exact ⟨by grind, (ls.addw one_sz (k := 12) (by omega)).mono (by omega)⟩
    · exact ⟨by grind, (ls.addw sev_sz (k := 14) (by omega)).mono (by omega)⟩
theorem pl_len {S : List Rat} (h : StOk S) : (pl2 S).length ≤ 25 ∧ 3 ≤ (pl2 S).length := by
  have := h.len
  have : 1 ≤ S.length := by
    have := h.ne
    cases S with
    | nil => exact (this rfl).elim
    | cons _ _ => simp
  unfold pl2 midsR
  simp only [List.length_append, List.length_map, List.length_range, List.length_cons, List.length_nil]
  omega
theorem pl1_mem {S : List Rat} {x : Rat} (h : x ∈ pl1 S) : x ∈ pl2 S := by
  unfold pl1 at h; unfold pl2
  rcases List.mem_append.mp h with h | h
  · exact List.mem_append_left _ h
  · simp at h; subst h; exact List.mem_append_right _ (by simp)
theorem pl_drop {S : List Rat} : (pl2 S).dropLast = pl1 S := by
  unfold pl1 pl2
  rw [List.dropLast_append_of_ne_nil (by simp)]; rfl
def apB (A B : List Pc) (x : Rat) : Bool := decide (valAt A x ≠ valAt B x)
def fapR (A B : List Pc) : Option Rat := (pl1 (stR [A, B])).find? (apB A B)
/-! ### falls -/
def FallD (N : List Pc) (d : D) : Prop := (risB N = true ∧ d = .non) ∨ ∃ x y, d = .tup [rat x, rat y] ∧ FallAt N x y ∧ SzR 200 x ∧ SzR 200 y
def fallB (R : List Pc) : D → Bool
  | .tup [x, y] => isRat x && (isRat y && (!decide (toR x < 0) && (decide (toR x < toR y) && decide (valAt R (toR y) < valAt R (toR x)))))
  | _ => false
theorem fallB_rat {R : List Pc} {x y : Rat} : fallB R (.tup [rat x, rat y]) = (!decide (x < 0) && (decide (x < y) && decide (valAt R y < valAt R x))) := by
  show (isRat (rat x) && (isRat (rat y) && (!decide (toR (rat x) < 0) && (decide (toR (rat x) < toR (rat y)) && decide (valAt R (toR (rat y)) < valAt R (toR (rat x))))))) = _
  rw [isRat_rat, isRat_rat, toR_rat, toR_rat]; rfl
theorem fallB_fall {R : List Pc} {d : D} (h : GR R) (hd : fallB R d = true) : risB (normR R) = false := by
  unfold fallB at hd
  split at hd
  · rename_i a b
    simp only [Bool.and_eq_true, Bool.not_eq_true', decide_eq_true_eq, decide_eq_false_iff_not] at hd
    obtain ⟨_, _, h1, h2, h3⟩ := hd
    have nv := (normR_val h.rw.asc).1
    exact not_ris (normR_rw h.rw) (x := toR a) (y := toR b) ⟨by grind, h2, by rw [nv, nv]; exact h3⟩
  · cases hd
theorem fall_on {R : List Pc} {d : D} (h : GR R) (hd : FallD (normR R) d) : (d.isNon = risB (normR R)) ∧ (d.isNon = false → fallB R d = true) := by
  rcases hd with ⟨h1, rfl⟩ | ⟨x, y, rfl, h2, _⟩
  · exact ⟨by rw [h1]; rfl, nofun⟩
  · refine ⟨by rw [not_ris (normR_rw h.rw) h2]; rfl, fun _ => ?_⟩
    have nv := (normR_val h.rw.asc).1
    have l1 := h2.x0
    have l2 := h2.lt
    have l3 := h2.le
    rw [nv, nv] at l3
    rw [fallB_rat]
    simp [l2, l3]; grind
/-! ### contracts -/
def sp_first_apart : List D → Mem → K1 → Prop := fun ds M q => ∃ A B, ds = [rowD A, rowD B] ∧ GR A ∧ GR B ∧ q (optD (fapR A B)) M
def sp_jumps_down : List D → Mem → K1 → Prop := fun ds M q => ∃ N, ∃ k : Nat, ds = [rowD N, .int (k : Nat)] ∧ GR N ∧ k < N.length ∧ q (.bl (jdB N k)) M
def sp_does_rise : List D → Mem → K1 → Prop := fun ds M q => ∃ R, ds = [rowD R] ∧ GR R ∧ q (.bl (risB (normR R))) M
def sp_does_grow : List D → Mem → K1 → Prop := fun ds M q => ∃ R, ds = [rowD R] ∧ GR R ∧ q (.bl (risB (normR R) && !((normR R).any fun p => decide (p.k = 0)))) M
def sp_within : List D → Mem → K1 → Prop := fun ds M q => ∃ N, ∃ k : Nat, ∃ p, ds = [rowD N, .int (k : Nat)] ∧ GR N ∧ N[k]? = some p ∧ ∀ y, p.s < y → Bl y (bd (N.drop (k + 1))) → SzR 30 y → q (rat y) M
def sp_near_below : List D → Mem → K1 → Prop := fun ds M q => ∃ N, ∃ k : Nat, ∃ a p, ds = [rowD N, .int (k + 1 : Nat)] ∧ GR N ∧ N[k]? = some a ∧ N[k + 1]? = some p ∧ p.v < a.at p.s ∧ ∀ x, a.s ≤ x → x < p.s → p.v < a.at x → SzR 200 x → q (rat x) M
def sp_fall_of : List D → Mem → K1 → Prop := fun ds M q => ∃ R, ds = [rowD R] ∧ GR R ∧ ∀ d, FallD (normR R) d → q d M
def sp_is_fall : List D → Mem → K1 → Prop := fun ds M q => ∃ R d, ds = [rowD R, d] ∧ GR R ∧ d.pure = true ∧ (∀ x y, d = .tup [rat x, rat y] → SzR 200 x ∧ SzR 200 y) ∧ (∀ x a b, d = .tup x → D.tup [.int a, .int b] ∈ x → Sz 8100 a ∧ Sz 8100 b) ∧ q (.bl (fallB R d)) M
def sp_law_is_fall := sp_is_fall
def sp_law_is_ratio : List D → Mem → K1 → Prop := fun ds M q => ∃ d, ds = [d] ∧ d.pure = true ∧ (∀ a b, d = .tup [.int a, .int b] → Sz 8100 a ∧ Sz 8100 b) ∧ q (.bl (isRat d)) M
def sp_law_rises := sp_does_rise
def sp_law_normal : List D → Mem → K1 → Prop := fun ds M q => ∃ R, ds = [rowD R] ∧ GR R ∧ q (rowD (normR R)) M
def sp_law_below := sp_law_from_below
def sp_law_rowG : List D → Mem → K1 → Prop := fun ds M q => ∃ b c many st, ds = [.lst b, .int many, .bl st] ∧ 1 ≤ many ∧ many ≤ 5 ∧ BoxAt M b c ∧ ∀ R M', GR R → R.length ≤ 5 → (∀ p ∈ R, Qz 2 80 p.s ∧ Qz 12 5000 p.v ∧ Qz 6 40 p.k) → BoxAt M' b c → Fr b c M M' → q (rowD R) M'
def sp_law_places : List D → Mem → K1 → Prop := fun ds M q => ∃ a Rs, ds = [.lst a] ∧ M a = some (Rs.map rowD) ∧ Rs ≠ [] ∧ Rs.length ≤ 2 ∧ (∀ R ∈ Rs, GR R) ∧ ∀ f, M f = Option.none → q (.lst f) (M.up f ((pl2 (stR Rs)).map rat))
theorem mid_get {S : List Rat} {i : Nat} {x y : Rat} (h0 : S[i]? = some x) (h1 : S[i + 1]? = some y) : (x + y) * halfR = midR S i := by unfold midR; rw [h0, h1]; rfl
theorem mids_len {S : List Rat} : (midsR S).length = S.length - 1 := by unfold midsR; rw [List.length_map, List.length_range]
theorem mids_step {S : List Rat} {i : Nat} : (List.range (i + 1)).map (midR S) = (List.range i).map (midR S) ++ [midR S i] := range_step' where
  range_step' : (List.range (i + 1)).map (midR S) = (List.range i).map (midR S) ++ [midR S i] := by rw [List.range_succ, List.map_append]; rfl
theorem pure_two {d : D} (hp : d.pure = true) (h : ∀ x y, d ≠ .tup [x, y]) : (∃ ds, d = .tup ds ∧ ds.length ≠ 2) ∨ (∀ ds, d ≠ .tup ds) := by
  cases d with
  | tup ds =>
    refine .inl ⟨ds, rfl, fun e => ?_⟩
    match ds, e with
    | [x, y], _ => exact h x y rfl
  | _ => exact .inr nofun
theorem num_lt0 {x : Rat} : decide (x.num < 0) = decide (x < 0) := by
  rw [Bool.eq_iff_iff, decide_eq_true_eq, decide_eq_true_eq]
  have := Rat.num_nonneg (q := x)
  constructor
  · intro h
    have : ¬ 0 ≤ x := fun h2 => by have := this.mpr h2; omega
    grind
  · intro h
    have : ¬ 0 ≤ x.num := fun h2 => by have := this.mp h2; grind
    omega
theorem sortR_snoc {l : List Rat} {r : Rat} : sortR (l ++ [r]) = insR (sortR l) r := by unfold sortR; rw [List.foldl_append]; rfl
theorem stR_step {Rs : List (List Pc)} {i j : Nat} {R : List Pc} (hR : Rs[i]? = some R) : (Rs.take i).flatMap (fun R => R.map (·.s)) ++ ((R.take R.length).map (·.s)) = (Rs.take (i + 1)).flatMap (fun R => R.map (·.s)) := by
  rw [List.take_add_one, hR, List.flatMap_append, List.take_length]; simp
theorem qz_ratio {p b : Int} (h1 : 1 ≤ b) (h3 : b ≤ 3) (hp : p.natAbs ≤ 6) : Qz 6 40 (Rat.divInt p b) := by
  rcases (by omega : b = 1 ∨ b = 2 ∨ b = 3) with rfl | rfl | rfl
  · exact qz_div (n := 6 * p) (by decide) (by show p * 6 = _; omega) (by omega)
  · exact qz_div (n := 3 * p) (by decide) (by show p * 6 = _; omega) (by omega)
  · exact qz_div (n := 2 * p) (by decide) (by show p * 6 = _; omega) (by omega)
theorem qz_wide {p b : Int} (h1 : 1 ≤ b) (h3 : b ≤ 2) (p1 : 1 ≤ p) (hp : p ≤ 8) : Qz 2 16 (Rat.divInt p b) ∧ 0 < Rat.divInt p b := by
  refine ⟨?_, divInt_pos' (by omega) (by omega)⟩
  rcases (by omega : b = 1 ∨ b = 2) with rfl | rfl
  · exact qz_div (n := 2 * p) (by decide) (by show p * 2 = _; omega) (by omega)
  · exact qz_div (n := p) (by decide) (by show p * 2 = _; omega) (by omega)
theorem sIx_last {n : Nat} : HT.sIx n n (some (-1)) = n - 1 := by
  simp [HT.sIx]
  omega
theorem cut_to {α : Type} {l : List α} {m : Nat} (h : m ≤ l.length) : cutD l none (some (m : Int)) = l.take m := by
  unfold cutD
  rw [HT.sIx_nat]
  simp [HT.sIx, Nat.min_eq_left h]
theorem cut_mid {α : Type} {l : List α} {m : Nat} (h : m ≤ l.length - 1) : l.take m ++ cutD l (some (m : Int)) (some (-1)) = l.dropLast := by
  unfold cutD
  rw [HT.sIx_nat, sIx_last, Nat.min_eq_left (by omega), List.dropLast_eq_take]
  conv => rhs; rw [show l.length - 1 = m + (l.length - 1 - m) by omega]
  rw [List.take_add]
theorem head_find {l : List Rat} {f : Rat → Bool} : (l.filter f).head? = l.find? f := by
  induction l with
  | nil => rfl
  | cons a l ih =>
    rw [List.filter_cons, List.find?_cons]
    cases f a <;> simp [ih]
theorem num_gt0 {x : Rat} : decide (0 < x.num) = decide (0 < x) := by
  rw [Bool.eq_iff_iff, decide_eq_true_eq, decide_eq_true_eq]
  have h1 := Rat.num_nonneg (q := x)
  have h2 := Rat.num_eq_zero (q := x)
  constructor
  · intro h
    have : 0 ≤ x := h1.mp (by omega)
    have : x ≠ 0 := fun e => by have := h2.mpr e; omega
    grind
  · intro h
    have : 0 ≤ x.num := h1.mpr (by grind)
    have : x.num ≠ 0 := fun e => by have := h2.mp e; grind
    omega
def twoP (n : Nat) : Rat := (((2 ^ n : Nat) : Int) : Rat)
theorem twoP_pos {n : Nat} : 0 < twoP n := Rat.intCast_pos.mpr (by have := Nat.pow_pos (n := n) (show 0 < 2 by decide); omega)
theorem twoP_succ {n : Nat} : twoP (n + 1) = twoP n * 2 := by
  unfold twoP
  rw [Nat.pow_succ]
  have : (((2 ^ n * 2 : Nat) : Int) : Rat) = (((2 ^ n : Nat) : Int) : Rat) * ((2 : Int) : Rat) := by rw [← Rat.intCast_mul]; rfl
  rw [this]; rfl
theorem twoP_sz {n : Nat} : SzR (n + 1) (twoP n) := sz_int (by unfold Sz; rw [Int.natAbs_natCast]; exact Nat.pow_lt_pow_right (by decide) (by omega)) (by omega)
/-- what the loop of the drawn row keeps -/
structure RowG (R : List Pc) (x v : Rat) : Prop where
  asc : Asc R
  zero : ∀ p, R.head? = some p → p.s = 0
  lt : ∀ p ∈ R, p.s < x
  x0 : R = [] → x = 0
  sz : ∀ p ∈ R, Qz 2 (16 * R.length) p.s ∧ Qz 12 (1000 * R.length) p.v ∧ Qz 6 40 p.k
  xs : Qz 2 (16 * R.length) x
  vs : Qz 12 (48 + 900 * R.length) v
end TB

namespace TB
open PySem PySem.Spec PyProof.Rows L2
/-! EngP: averages, drawn steady rows, rows in other money -/
theorem avg_lt {a b x y : Rat} (ha : 0 < a) (hb : 0 < b) : x / b < y / a ↔ x * a < y * b := by
  have i1 := Rat.mul_inv_cancel a (by grind)
  have i2 := Rat.mul_inv_cancel b (by grind)
  have hp := Rat.mul_pos ha hb
  have e1 : x / b * (a * b) = x * a := by rw [Rat.div_def]; grind
  have e2 : y / a * (a * b) = y * b := by rw [Rat.div_def]; grind
  constructor
  · intro h
    have := Rat.mul_pos (show 0 < y / a - x / b by grind) hp
    grind
  · intro h
    by_cases z : x / b < y / a
    · exact z
    · exfalso
      have := Rat.mul_nonneg (show 0 ≤ x / b - y / a by grind) (Rat.le_of_lt hp)
      grind
structure DipAt (N : List Pc) (a b : Rat) : Prop where
  a0 : 0 < a
  ab : a < b
  h : valAt N b * a < valAt N a * b
theorem steady_of {R : List Pc} (h : steadyB R = true) : Steady R := by
  intro l a b r e
  have h0 : R[l.length]? = some a := by rw [e]; simp
  have h1 : R[l.length + 1]? = some b := by rw [e]; simp
  have := List.all_eq_true.mp h l.length (List.mem_range.mpr (by have := (List.getElem?_eq_some_iff.mp h1).1; omega))
  rw [stF_eq h0 h1] at this
  simpa using this
theorem up_of {R : List Pc} (h : upB R = true) : ∀ l a b r, R = l ++ a :: b :: r → a.k < b.k := by
  intro l a b r e
  have h0 : R[l.length]? = some a := by rw [e]; simp
  have h1 : R[l.length + 1]? = some b := by rw [e]; simp
  have := List.all_eq_true.mp h l.length (List.mem_range.mpr (by have := (List.getElem?_eq_some_iff.mp h1).1; omega))
  rw [upF_eq h0 h1] at this
  simpa using this
theorem up_pair : ∀ R : List Pc, (∀ l a b r, R = l ++ a :: b :: r → a.k < b.k) → R.Pairwise fun a b => a.k < b.k
  | [], _ => List.Pairwise.nil
  | [p], _ => by simp
  | p :: b :: r, h => by
    have ih := up_pair (b :: r) fun l x y t e => h (p :: l) x y t (by rw [e]; rfl)
    have h0 := h [] p b r rfl
    refine List.pairwise_cons.mpr ⟨fun q hq => ?_, ih⟩
    rcases List.mem_cons.mp hq with rfl | hq
    · exact h0
    · have := (List.pairwise_cons.mp ih).1 q hq
      grind
def marB (N : List Pc) : Bool := steadyB N && upB N
theorem mar_cx {N : List Pc} (hN : Rw N) (h : marB N = true) : Steady N ∧ N.Pairwise fun a b => a.k < b.k := by
  unfold marB at h
  simp only [Bool.and_eq_true] at h
  exact ⟨steady_of h.1, up_pair N (up_of h.2)⟩
/-! ### averages that rise -/
def dsB (N : List Pc) (k : Nat) : Bool := match N[k]? with
  | some p => decide (p.k * p.s < p.v)
  | none => false
def avF (N : List Pc) (k : Nat) : Bool := dsB N k || jdB N k
def avB (N : List Pc) : Bool := !((List.range N.length).any (avF N))
theorem dsB_of {N : List Pc} {k : Nat} {p : Pc} (h : N[k]? = some p) : dsB N k = decide (p.k * p.s < p.v) := by unfold dsB; rw [h]
structure Av (N : List Pc) : Prop where
  k : ∀ p ∈ N, p.v ≤ p.k * p.s
  j : ∀ l a b r, N = l ++ a :: b :: r → a.at b.s ≤ b.v
theorem av_of {N : List Pc} (h : avB N = true) : Av N := by
  unfold avB at h
  rw [Bool.not_eq_true', List.any_eq_false] at h
  refine ⟨fun p hp => ?_, fun l a b r e => ?_⟩
  · obtain ⟨k, hk, e⟩ := List.getElem_of_mem hp
    have hg : N[k]? = some p := by rw [List.getElem?_eq_getElem hk, e]
    have := h k (List.mem_range.mpr hk)
    unfold avF at this
    rw [dsB_of hg] at this
    simp at this
    grind
  · have h0 : N[l.length]? = some a := by rw [e]; simp
    have h1 : N[l.length + 1]? = some b := by rw [e]; simp
    have := h (l.length + 1) (List.mem_range.mpr (List.getElem?_eq_some_iff.mp h1).1)
    unfold avF at this
    rw [jdB_succ h0 h1] at this
    simp at this
    grind
theorem Av.left {l : List Pc} {z : Pc} (h : Av (l ++ [z])) : Av l := ⟨fun p hp => h.k p (by simp [hp]), fun l' a b r e => h.j l' a b (r ++ [z]) (by rw [e]; simp)⟩
theorem Av.last {l : List Pc} {a z : Pc} (h : Av (l ++ [z])) (hl : l.getLast? = some a) : a.at z.s ≤ z.v := by
  have hne : l ≠ [] := fun e => by subst e; simp at hl
  have := List.dropLast_concat_getLast hne
  rw [List.getLast?_eq_some_getLast hne] at hl
  injection hl with hl
  rw [hl] at this
  exact h.j l.dropLast a z [] (by rw [← this]; simp)
theorem av_in {p : Pc} {x y : Rat} (h : p.v ≤ p.k * p.s) (le : x ≤ y) : p.at x * y ≤ p.at y * x := by
  have := Rat.mul_nonneg (show 0 ≤ p.k * p.s - p.v by grind) (show 0 ≤ y - x by grind)
  unfold Pc.at
  grind
theorem av_mono {N : List Pc} : Asc N → Av N → ∀ x y, (∃ p ∈ N, p.s ≤ x) → 0 < x → x ≤ y → valAt N x * y ≤ valAt N y * x := by
  induction N using snoc_ind with
  | h0 => intro _ _ x y ⟨p, hp, _⟩; simp at hp
  | hs l z ih =>
    intro as h x y ⟨p, hp, hps⟩ x0 le
    have as1 := (List.pairwise_append.mp as).1
    have lt := (List.pairwise_append.mp as).2.2
    have ih := ih as1 h.left
    have zk := h.k z (by simp)
    rw [valAt_snoc, valAt_snoc]
    by_cases c1 : x < z.s
    · have hpl : p ∈ l := by
        rcases List.mem_append.mp hp with hp | hp
        · exact hp
        · simp at hp; subst hp; grind
      rw [if_pos c1]
      by_cases c2 : y < z.s
      · rw [if_pos c2]; exact ih x y ⟨p, hpl, hps⟩ x0 le
      · rw [if_neg c2]
        have h1 := ih x z.s ⟨p, hpl, hps⟩ x0 (Rat.le_of_lt c1)
        cases hl : l.getLast? with
        | none => rw [List.getLast?_eq_none_iff.mp hl] at hpl; simp at hpl
        | some a =>
          have ha := List.mem_of_getLast? hl
          rw [val_last hl (Rat.le_of_lt (lt a ha z (by simp)))] at h1
          have h2 := h.last hl
          have h3 := av_in zk (show z.s ≤ y by grind)
          rw [at_s] at h3
          have z0 : 0 < z.s := by grind
          have y0 : 0 < y := by grind
          have m1 := mul_le_l h1 (Rat.le_of_lt y0)
          have m2 := mul_le_l h2 (show 0 ≤ x * y from Rat.mul_nonneg (Rat.le_of_lt x0) (Rat.le_of_lt y0))
          have m3 := mul_le_l h3 (Rat.le_of_lt x0)
          by_cases c : valAt l x * y ≤ z.at y * x
          · exact c
          · exfalso
            have := Rat.mul_pos (show 0 < valAt l x * y - z.at y * x by grind) z0
            grind
    · rw [if_neg c1, if_neg (by grind)]
      exact av_in zk le
theorem no_dip {N : List Pc} {a b : Rat} (hN : Rw N) (h : avB N = true) : ¬ DipAt N a b := by
  rintro ⟨a0, ab, hd⟩
  obtain ⟨f, hf, hz⟩ := hN.first
  have := av_mono hN.asc (av_of h) a b ⟨f, hf, by rw [hz]; exact Rat.le_of_lt a0⟩ a0 (Rat.le_of_lt ab)
  grind
def VK (d : D) : Prop := d.pure = true ∧ ∀ l a b, d = .tup l → D.tup [.int a, .int b] ∈ l → Sz 400 a ∧ Sz 400 b
theorem VK.r {l : List D} {r : Rat} (h : VK (.tup l)) (hr : rat r ∈ l) : SzR 400 r := ⟨(h.2 l _ _ rfl hr).1, (h.2 l _ _ rfl hr).2⟩
theorem VK.tup {l : List Rat} (h : ∀ r ∈ l, SzR 400 r) : VK (.tup (l.map rat)) := by
  refine ⟨?_, fun m a b e hm => ?_⟩
  · simp only [D.pure]; exact (rats_ok l).1
  · injection e with e
    subst e
    obtain ⟨r, hr, e⟩ := List.mem_map.mp hm
    unfold rat at e
    injection e with e
    injection e with e1 e
    injection e with e2 e
    injection e1 with e1
    injection e2 with e2
    subst e1 e2
    exact ⟨(h r hr).num, (h r hr).den⟩
def dipQ (R : List Pc) (a b : Rat) : Bool := decide (0 < a) && (decide (a < b) && decide (valAt R b / b < valAt R a / a))
def dipB (R : List Pc) : D → Bool
  | .tup [x, y] => isRat x && (isRat y && dipQ R (toR x) (toR y))
  | _ => false
def fine2 : D → Bool
  | .tup [x, y] => isRat x && (isRat y && (!decide (toR x < 0) && decide (toR x < toR y)))
  | _ => false
theorem dipQ_iff {R : List Pc} {a b : Rat} : dipQ R a b = true ↔ DipAt R a b := by
  unfold dipQ
  simp only [Bool.and_eq_true, decide_eq_true_eq]
  constructor
  · rintro ⟨h1, h2, h3⟩
    exact ⟨h1, h2, (avg_lt h1 (by grind)).mp h3⟩
  · rintro ⟨h1, h2, h3⟩
    exact ⟨h1, h2, (avg_lt h1 (by grind)).mpr h3⟩
theorem dip_val {R : List Pc} {a b : Rat} (h : Asc R) : DipAt (normR R) a b ↔ DipAt R a b := by
  have nv := (normR_val h).1
  constructor
  · rintro ⟨h1, h2, h4⟩; rw [nv, nv] at h4; exact ⟨h1, h2, h4⟩
  · rintro ⟨h1, h2, h4⟩; exact ⟨h1, h2, by rw [nv, nv]; exact h4⟩
theorem dipB_no {R : List Pc} {d : D} (hw : Rw R) (hd : dipB R d = true) : avB (normR R) = false := by
  unfold dipB at hd
  split at hd
  · simp only [Bool.and_eq_true] at hd
    cases e : avB (normR R) with
    | false => rfl
    | true => exact (no_dip (normR_rw hw) e ((dip_val hw.asc).mpr (dipQ_iff.mp hd.2.2))).elim
  · cases hd
theorem dipB_rat {R : List Pc} {a b : Rat} : dipB R (.tup [rat a, rat b]) = dipQ R a b := by
  show (isRat (rat a) && (isRat (rat b) && dipQ R (toR (rat a)) (toR (rat b)))) = _
  rw [isRat_rat, isRat_rat, toR_rat, toR_rat]; rfl
theorem fine2_rat {a b : Rat} : fine2 (.tup [rat a, rat b]) = (!decide (a < 0) && decide (a < b)) := by
  show (isRat (rat a) && (isRat (rat b) && _)) = _
  rw [isRat_rat, isRat_rat, toR_rat, toR_rat]; rfl
def DipD (N : List Pc) (d : D) : Prop := (avB N = true ∧ d = .non) ∨ ∃ a b, d = .tup [rat a, rat b] ∧ DipAt N a b ∧ SzR 390 a ∧ SzR 390 b
theorem v_dip {N : List Pc} {d : D} (h : DipD N d) : VK d := by
  rcases h with ⟨_, rfl⟩ | ⟨a, b, rfl, _, s1, s2⟩
  · exact ⟨rfl, nofun⟩
  · exact VK.tup (l := [a, b]) fun r hr => by
      simp at hr
      rcases hr with rfl | rfl
      · exact s1.mono (by omega)
      · exact s2.mono (by omega)
theorem dip_on {R : List Pc} {d : D} (hw : Rw R) (hd : DipD (normR R) d) : d.isNon = avB (normR R) ∧ (d.isNon = false → dipB R d = true) := by
  rcases hd with ⟨h1, rfl⟩ | ⟨a, b, rfl, h2, _⟩
  · exact ⟨by rw [h1]; rfl, nofun⟩
  · refine ⟨?_, fun _ => by rw [dipB_rat]; exact dipQ_iff.mpr ((dip_val hw.asc).mp h2)⟩
    cases e : avB (normR R) with
    | false => rfl
    | true => exact (no_dip (normR_rw hw) e h2).elim
/-! ### rows in other money -/
def sclP (p : Rat) (q : Pc) : Pc := ⟨q.s * p, q.v * p, q.k⟩
def scl (p : Rat) (R : List Pc) : List Pc := R.map (sclP p)
theorem mul_lt_r {a b c : Rat} (hc : 0 < c) : a * c < b * c ↔ a < b := by
  constructor
  · intro h
    by_cases z : a < b
    · exact z
    · have := Rat.mul_nonneg (show 0 ≤ a - b by grind) (Rat.le_of_lt hc); grind
  · intro h
    have := Rat.mul_pos (show 0 < b - a by grind) hc; grind
theorem mul_eq_r {a b c : Rat} (hc : 0 < c) : a * c = b * c ↔ a = b := by
  constructor
  · intro h
    rcases (by grind : a < b ∨ a = b ∨ b < a) with z | z | z
    · have := (mul_lt_r hc).mpr z; grind
    · exact z
    · have := (mul_lt_r hc).mpr z; grind
  · rintro rfl; rfl
theorem sclP_at {p x : Rat} {q : Pc} : (sclP p q).at (x * p) = q.at x * p := by
  unfold Pc.at sclP; grind
theorem scl_asc {p : Rat} {R : List Pc} (hp : 0 < p) (h : Asc R) : Asc (scl p R) := by
  unfold Asc scl
  rw [List.pairwise_map]
  exact h.imp fun {a b} lt => (mul_lt_r hp).mpr lt
theorem scl_rw {p : Rat} {R : List Pc} (hp : 0 < p) (h : Rw R) : Rw (scl p R) := by
  refine ⟨scl_asc hp h.asc, fun e => h.ne (List.map_eq_nil_iff.mp e), fun q hq => ?_⟩
  unfold scl at hq
  rw [List.head?_map, Option.map_eq_some_iff] at hq
  obtain ⟨r, hr, rfl⟩ := hq
  show r.s * p = 0
  rw [h.zero r hr, Rat.zero_mul]
theorem scl_norm {p : Rat} (hp : 0 < p) {R : List Pc} : normR (scl p R) = scl p (normR R) := by
  induction R using snoc_ind with
  | h0 => rfl
  | hs l z ih =>
    have e : scl p (l ++ [z]) = scl p l ++ [sclP p z] := by unfold scl; simp
    rw [e, normR_snoc, normR_snoc, ih]
    unfold nstep
    have el : (scl p (normR l)).getLast? = (normR l).getLast?.map (sclP p) := by unfold scl; rw [List.getLast?_map]
    rw [el]
    cases (normR l).getLast? with
    | none => unfold scl; simp
    | some a =>
      simp only [Option.map_some]
      have h1 : (sclP p a).at (sclP p z).s = a.at z.s * p := sclP_at
      have h2 : ((sclP p a).k = (sclP p z).k ∧ (sclP p a).at (sclP p z).s = (sclP p z).v) ↔ (a.k = z.k ∧ a.at z.s = z.v) := by
        rw [h1]
        show (a.k = z.k ∧ a.at z.s * p = z.v * p) ↔ _
        rw [mul_eq_r hp]
      by_cases c : a.k = z.k ∧ a.at z.s = z.v
      · rw [if_pos c, if_pos (h2.mpr c)]
      · rw [if_neg c, if_neg (fun h => c (h2.mp h))]; unfold scl; simp
theorem scl_val {p x : Rat} (hp : 0 < p) {R : List Pc} : valAt (scl p R) (x * p) = valAt R x * p := by
  induction R using snoc_ind with
  | h0 => show (0 : Rat) = 0 * p; rw [Rat.zero_mul]
  | hs l z ih =>
    have e : scl p (l ++ [z]) = scl p l ++ [sclP p z] := by unfold scl; simp
    rw [e, valAt_snoc, valAt_snoc]
    have h1 : x * p < (sclP p z).s ↔ x < z.s := mul_lt_r hp
    by_cases c : x < z.s
    · rw [if_pos c, if_pos (h1.mpr c), ih]
    · rw [if_neg c, if_neg (fun h => c (h1.mp h)), sclP_at]
theorem scl_get {p : Rat} {R : List Pc} {k : Nat} : (scl p R)[k]? = R[k]?.map (sclP p) := by unfold scl; rw [List.getElem?_map]
theorem scl_len {p : Rat} {R : List Pc} : (scl p R).length = R.length := by unfold scl; rw [List.length_map]
theorem scl_stF {p : Rat} (hp : 0 < p) {R : List Pc} {k : Nat} : stF (scl p R) k = stF R k := by
  unfold stF
  rw [scl_get, scl_get]
  cases h0 : R[k]? with
  | none => rfl
  | some a =>
    cases h1 : R[k + 1]? with
    | none => rfl
    | some b =>
      simp only [Option.map_some]
      have h1 : (sclP p a).at (sclP p b).s = a.at b.s * p := sclP_at
      rw [h1, Bool.eq_iff_iff, decide_eq_true_eq, decide_eq_true_eq]
      exact mul_eq_r hp
theorem scl_upF {p : Rat} {R : List Pc} {k : Nat} : upF (scl p R) k = upF R k := by
  unfold upF
  rw [scl_get, scl_get]
  cases h0 : R[k]? <;> cases h1 : R[k + 1]? <;> rfl
theorem scl_marB {p : Rat} (hp : 0 < p) {R : List Pc} : marB (scl p R) = marB R := by
  unfold marB steadyB upB
  rw [scl_len]
  congr 1
  · congr 1; funext k; exact scl_stF hp
  · congr 1; funext k; exact scl_upF
theorem scl_avB {p : Rat} (hp : 0 < p) {R : List Pc} : avB (scl p R) = avB R := by
  unfold avB
  rw [scl_len]
  congr 1
  congr 1
  funext k
  unfold avF
  congr 1
  · unfold dsB
    rw [scl_get]
    cases h0 : R[k]? with
    | none => rfl
    | some a =>
      simp only [Option.map_some]
      rw [Bool.eq_iff_iff, decide_eq_true_eq, decide_eq_true_eq]
      have : (sclP p a).k * (sclP p a).s = a.k * a.s * p := by show a.k * (a.s * p) = _; grind
      rw [this]
      exact mul_lt_r hp
  · cases k with
    | zero => rw [jdB_zero, jdB_zero]
    | succ k =>
      cases h0 : R[k]? with
      | none =>
        have h1 : R[k + 1]? = none := by rw [List.getElem?_eq_none_iff] at h0 ⊢; omega
        unfold jdB
        simp [scl_get, h0, h1]
      | some a =>
        cases h1 : R[k + 1]? with
        | none => unfold jdB; simp [scl_get, h0, h1]
        | some b =>
          rw [jdB_succ h0 h1, jdB_succ (a := sclP p a) (p := sclP p b) (by rw [scl_get, h0]; rfl) (by rw [scl_get, h1]; rfl)]
          have h1 : (sclP p a).at (sclP p b).s = a.at b.s * p := sclP_at
          rw [h1, Bool.eq_iff_iff, decide_eq_true_eq, decide_eq_true_eq]
          exact mul_lt_r hp
theorem scl_scl {p q : Rat} {R : List Pc} : scl q (scl p R) = scl (p * q) R := by
  unfold scl
  rw [List.map_map]
  apply List.map_congr_left
  intro a _
  show (⟨a.s * p * q, a.v * p * q, a.k⟩ : Pc) = ⟨a.s * (p * q), a.v * (p * q), a.k⟩
  rw [Rat.mul_assoc, Rat.mul_assoc]
theorem scl_one {R : List Pc} : scl 1 R = R := by
  unfold scl
  conv => rhs; rw [← List.map_id R]
  apply List.map_congr_left
  intro a _
  show (⟨a.s * 1, a.v * 1, a.k⟩ : Pc) = a
  rw [Rat.mul_one, Rat.mul_one]
theorem rat_inv {p : Rat} (hp : 0 < p) : D.tup [.int (p.den : Int), .int p.num] = rat p⁻¹ := by
  have hn : 0 < p.num := by
    have := num_gt0 (x := p)
    rw [decide_eq_true hp] at this
    exact of_decide_eq_true this
  have e : p⁻¹ = ⟨(p.den : Int), p.num.natAbs, by omega, by simpa using p.reduced.symm⟩ := by
    rw [Rat.inv_def]
    rw [← Rat.num_divInt_den (⟨(p.den : Int), p.num.natAbs, by omega, by simpa using p.reduced.symm⟩ : Rat)]
    congr 1
    show p.num = ((p.num.natAbs : Nat) : Int)
    omega
  rw [e]
  unfold rat
  show D.tup [.int (p.den : Int), .int p.num] = .tup [.int (p.den : Int), .int ((p.num.natAbs : Nat) : Int)]
  have : ((p.num.natAbs : Nat) : Int) = p.num := by omega
  rw [this]
theorem SzR.inv {n : Nat} {p : Rat} (hp : 0 < p) (h : SzR n p) : SzR n p⁻¹ := by
  have e := rat_inv hp
  unfold rat at e
  injection e with e
  injection e with e1 e
  injection e with e2 e
  injection e1 with e1
  injection e2 with e2
  exact ⟨by rw [← e1]; exact h.den, by rw [← e2]; exact h.num⟩
theorem sumR_mul {p : Rat} {l : List Rat} {f : Rat → Rat} : sumR (l.map fun x => p * f x) = p * sumR (l.map f) := by
  induction l using snoc_ind with
  | h0 => show (0 : Rat) = p * 0; rw [Rat.mul_zero]
  | hs l z ih => rw [List.map_append, List.map_append, List.map_cons, List.map_nil, List.map_cons, List.map_nil, sumR_snoc, sumR_snoc, ih, Rat.mul_add]
theorem sumR_le {l : List Rat} {f g : Rat → Rat} (h : ∀ x ∈ l, f x ≤ g x) : sumR (l.map f) ≤ sumR (l.map g) := by
  induction l using snoc_ind with
  | h0 => exact Rat.le_refl
  | hs l z ih =>
    rw [List.map_append, List.map_append, List.map_cons, List.map_nil, List.map_cons, List.map_nil, sumR_snoc, sumR_snoc]
    have := ih fun x hx => h x (by simp [hx])
    have := h z (by simp)
    grind
/-! ### drawn steady rows -/
structure StdR (many low high : Int) (asc : Bool) (R : List Pc) : Prop where
  rw : Rw R
  st : Steady R
  len : (R.length : Int) ≤ many
  ks : ∀ p ∈ R, ∃ j : Int, low ≤ j ∧ j ≤ high ∧ p.k = Rat.divInt j 10
  qs : ∀ p ∈ R, Qz 2 (24 * R.length) p.s ∧ Qz 20 (40 + 480 * R.length) p.v
  up : asc = true → R.Pairwise fun a b => a.k < b.k
  ne : ∀ l a b r, R = l ++ a :: b :: r → a.k ≠ b.k
  v0 : ∀ p, R.head? = some p → (asc = true → p.v = 0) ∧ Qz 1 2 p.v
theorem StdR.gr {many low high : Int} {asc : Bool} {R : List Pc} (h : StdR many low high asc R) (hm : many ≤ 6) (hl : -20 ≤ low) (hh : high ≤ 20) : GR R := by
  have hlen : R.length ≤ 6 := by have := h.len; omega
  refine ⟨h.rw, hlen, fun p hp => ⟨((h.qs p hp).1.mono (C := 200) (by omega)).sz (by decide) (by decide) (by decide), ((h.qs p hp).2.mono (C := 4000) (by omega)).sz (by decide) (by decide) (by decide), ?_⟩⟩
  obtain ⟨j, h1, h2, e⟩ := h.ks p hp
  rw [e]
  exact (SzR.divInt (n := 6) (.lit 6 (by omega) (by omega)) (.lit 6 (by decide) (by omega)) (by decide)).mono (by omega)
theorem dipB_ne {R : List Pc} {es : List D} (h : es.length ≠ 2) : dipB R (.tup es) = false := by
  unfold dipB
  split
  · rename_i e; injection e with e; subst e; simp at h
  · rfl
theorem val_mid {N : List Pc} {k : Nat} {p : Pc} {x : Rat} (as : Asc N) (h : N[k]? = some p) (ge : p.s ≤ x) (bl : Bl x (bd (N.drop (k + 1)))) : valAt N x = p.at x := by
  obtain ⟨e1, e2⟩ := split_idx h
  rw [← e1] at as ⊢
  exact valAt_of (pieceAt_mid as ge bl)
theorem val_before {N : List Pc} {k : Nat} {a p : Pc} {x : Rat} (as : Asc N) (h0 : N[k]? = some a) (h1 : N[k + 1]? = some p) (ge : a.s ≤ x) (lt : x < p.s) : valAt N x = a.at x :=
  val_mid as h0 ge fun t ht => by
    have : bd (N.drop (k + 1)) = some p.s := by unfold bd; rw [List.head?_drop, h1]; rfl
    rw [this] at ht; injection ht with ht; rw [← ht]; exact lt
theorem small_lt {n d g m : Nat} {w W D G : Rat} (w0 : 0 < w) (e : w * twoP n ≤ W) (sW : SzR m W) (sD : SzR d D) (sG : SzR g G) (g0 : 0 < G) (hn : g + d + m ≤ n) : D * w < G := by
  have a1 := lt_pow sW
  have a2 := lt_pow sD
  have a3 := pos_ge sG g0
  have t : ∀ i : Nat, (((2 ^ i : Nat) : Int) : Rat) = twoP i := fun _ => rfl
  rw [t] at a1 a2 a3
  have pp : ∀ i j : Nat, twoP (i + j) = twoP i * twoP j := fun i j => by
    unfold twoP; rw [Nat.pow_add]
    have : (((2 ^ i * 2 ^ j : Nat) : Int)) = ((2 ^ i : Nat) : Int) * ((2 ^ j : Nat) : Int) := by simp
    rw [this, Rat.intCast_mul]
  have p1 : ∀ i : Nat, 1 ≤ twoP i := fun i => by
    have : ((1 : Int) : Rat) ≤ twoP i := Rat.intCast_le_intCast.mpr (by have := Nat.pow_pos (n := i) (show 0 < 2 by decide); omega)
    exact this
  by_cases c : D * w < G
  · exact c
  · exfalso
    obtain ⟨r, rfl⟩ : ∃ r, n = g + (d + m) + r := ⟨n - (g + (d + m)), by omega⟩
    have hd := twoP_pos (n := d)
    have hm := twoP_pos (n := m)
    have hg := twoP_pos (n := g)
    have hr := p1 r
    have f1 : D * w < twoP d * w := by
      have := Rat.mul_pos (show 0 < twoP d - D by grind) w0
      grind
    have f2 : G < twoP d * w := by grind
    have f3 : G * (twoP g * (twoP d * twoP m) * twoP r) < twoP d * twoP m := by
      rw [pp, pp, pp] at e
      have h1 : G * (twoP g * (twoP d * twoP m) * twoP r) < twoP d * w * (twoP g * (twoP d * twoP m) * twoP r) := by
        have := Rat.mul_pos (show 0 < twoP d * w - G by grind) (Rat.mul_pos (Rat.mul_pos hg (Rat.mul_pos hd hm)) (show 0 < twoP r by grind))
        grind
      have h2 : w * (twoP g * (twoP d * twoP m) * twoP r) < twoP m := by grind
      have h3 := Rat.mul_pos hd (show 0 < twoP m - w * (twoP g * (twoP d * twoP m) * twoP r) by grind)
      grind
    have f4 : twoP d * twoP m ≤ G * (twoP g * (twoP d * twoP m) * twoP r) := by
      have h1 := Rat.mul_nonneg (show 0 ≤ G * twoP g - 1 by grind) (Rat.le_of_lt (Rat.mul_pos (Rat.mul_pos hd hm) (show 0 < twoP r by grind)))
      have h2 := Rat.mul_nonneg (Rat.le_of_lt (Rat.mul_pos hd hm)) (show 0 ≤ twoP r - 1 by grind)
      grind
    grind
theorem at_subw {p : Pc} {x w : Rat} : p.at (x - w) = p.at x - p.k * w := by unfold Pc.at; grind
theorem dip1 {N : List Pc} {k : Nat} {a p : Pc} {w : Rat} (hN : Rw N) (h0 : N[k]? = some a) (h1 : N[k + 1]? = some p) (w0 : 0 < w) (le : w ≤ p.s - a.s) (lt : w < p.s) (h : (a.k * p.s - p.v) * w < (a.at p.s - p.v) * p.s) : DipAt N (p.s - w) p.s := by
  refine ⟨by grind, by grind, ?_⟩
  have v1 := val_before hN.asc h0 h1 (show a.s ≤ p.s - w by grind) (by grind)
  have v2 : valAt N p.s = p.v := val_start hN.asc (List.mem_of_getElem? h1)
  rw [v1, v2, at_subw]
  generalize a.at p.s = A at *
  grind
theorem dip2 {N : List Pc} {k : Nat} {p : Pc} {y m : Rat} (hN : Rw N) (h0 : N[k]? = some p) (lt : p.s < y) (bl : Bl y (bd (N.drop (k + 1)))) (lm : p.s < m) (ly : m < y) (h : p.k * p.s < p.v) : DipAt N m y := by
  have a0 := hN.nonneg p (List.mem_of_getElem? h0)
  refine ⟨by grind, ly, ?_⟩
  have v1 := val_mid hN.asc h0 (Rat.le_of_lt lt) bl
  have v2 := val_mid hN.asc h0 (Rat.le_of_lt lm) fun t ht => by have := bl t ht; grind
  rw [v1, v2]
  have := Rat.mul_pos (show 0 < p.v - p.k * p.s by grind) (show 0 < y - m by grind)
  unfold Pc.at
  grind
theorem pureL_mem : ∀ {es : List D}, D.pureL es = true → ∀ r ∈ es, r.pure = true
  | [], _, _, h => by simp at h
  | a :: es, h, r, hr => by
    simp only [D.pureL, Bool.and_eq_true] at h
    rcases List.mem_cons.mp hr with rfl | hr
    · exact h.1
    · exact pureL_mem h.2 r hr
theorem nodup_le : ∀ {l m : List Int}, l.Pairwise (· < ·) → (∀ k ∈ l, k ∈ m) → l.length ≤ m.length
  | [], _, _, _ => by simp
  | a :: l, m, hl, hm => by
    have h1 := List.pairwise_cons.mp hl
    have ha := hm a (by simp)
    have := nodup_le (l := l) (m := m.erase a) h1.2 fun k hk => by
      have := h1.1 k hk
      exact (List.mem_erase_of_ne (by omega)).mpr (hm k (by simp [hk]))
    rw [List.length_erase_of_mem ha] at this
    have : 1 ≤ m.length := List.length_pos_of_mem ha
    simp only [List.length_cons]
    omega
theorem intsOf_ints : ∀ ns : List Int, intsOf (ns.map D.int) = some ns
  | [] => rfl
  | n :: ns => by simp [intsOf, intsOf_ints ns]
/-- what the loop of the steady row keeps -/
structure StI (ns : List Int) (i : Nat) (R : List Pc) (x v : Rat) : Prop where
  len : R.length = i
  asc : Asc R
  lt : ∀ p ∈ R, p.s < x
  x0 : R = [] → x = 0
  zero : ∀ p, R.head? = some p → p.s = 0
  st : Steady R
  last : ∀ a, R.getLast? = some a → a.at x = v
  ks : ∀ (k : Nat) (p : Pc), R[k]? = some p → ∃ j : Int, ns[k]? = some j ∧ p.k = Rat.divInt j 10
  qs : ∀ p ∈ R, Qz 2 (24 * i) p.s ∧ Qz 20 (40 + 480 * i) p.v
  qx : Qz 2 (24 * i) x
  qv : Qz 20 (40 + 480 * i) v
theorem snoc_steady' {l : List Pc} {z : Pc} (h : Steady l) (hz : ∀ a, l.getLast? = some a → a.at z.s = z.v) : Steady (l ++ [z]) := snoc_steady h hz
theorem divInt10 {a b : Int} : Rat.divInt a 10 < Rat.divInt b 10 ↔ a < b := by
  have h : ∀ c : Int, Rat.divInt c 10 = (c : Rat) * (10 : Rat)⁻¹ := fun c => by
    rw [Rat.divInt_eq_div, Rat.div_def]; rfl
  have p : (0 : Rat) < (10 : Rat)⁻¹ := by decide +kernel
  rw [h a, h b, mul_lt_r p]
  exact Rat.intCast_lt_intCast
theorem std_of {ns : List Int} {R : List Pc} {x v : Rat} {many low high : Int} {asc : Bool} {u : Rat} (h : StI ns ns.length R x v) (h0 : ns ≠ []) (hm : (ns.length : Int) ≤ many) (hr : ∀ j ∈ ns, low ≤ j ∧ j ≤ high)
    (hup : asc = true → ns.Pairwise (· < ·)) (hne : ∀ k a b, ns[k]? = some a → ns[k + 1]? = some b → a ≠ b) (hv : ∀ p, R.head? = some p → p.v = u) (hu : (asc = true → u = 0) ∧ Qz 1 2 u) : StdR many low high asc R := by
  refine ⟨⟨h.asc, fun e => h0 (List.eq_nil_of_length_eq_zero (by rw [← h.len, e]; rfl)), h.zero⟩, h.st, by rw [h.len]; exact hm, fun p hp => ?_, fun p hp => ?_, fun ha => ?_, fun l a b r e => ?_, fun p hp => by rw [hv p hp]; exact hu⟩
  · obtain ⟨k, hk, e⟩ := List.getElem_of_mem hp
    obtain ⟨j, hj, e2⟩ := h.ks k p (by rw [List.getElem?_eq_getElem hk, e])
    exact ⟨j, (hr j (List.mem_of_getElem? hj)).1, (hr j (List.mem_of_getElem? hj)).2, e2⟩
  · rw [h.len]; exact h.qs p hp
  · rw [List.pairwise_iff_getElem]
    intro k j hk hj lt
    obtain ⟨a, ha1, ha2⟩ := h.ks k _ (List.getElem?_eq_getElem hk)
    obtain ⟨b, hb1, hb2⟩ := h.ks j _ (List.getElem?_eq_getElem hj)
    rw [ha2, hb2, divInt10]
    have := List.pairwise_iff_getElem.mp (hup ha) k j (List.getElem?_eq_some_iff.mp ha1).1 (List.getElem?_eq_some_iff.mp hb1).1 lt
    rwa [(List.getElem?_eq_some_iff.mp ha1).2, (List.getElem?_eq_some_iff.mp hb1).2] at this
  · have g0 : R[l.length]? = some a := by rw [e]; simp
    have g1 : R[l.length + 1]? = some b := by rw [e]; simp
    obtain ⟨j, hj, e1⟩ := h.ks _ _ g0
    obtain ⟨j', hj', e2⟩ := h.ks _ _ g1
    have := hne _ _ _ hj hj'
    rw [e1, e2]
    intro e
    rcases (by omega : j < j' ∨ j' < j) with z | z
    · have := divInt10.mpr z; grind
    · have := divInt10.mpr z; grind
/-- slopes without repeats -/
structure DdI (ns : List Int) (i : Nat) (ms : List Int) : Prop where
  len : ms.length ≤ i
  mem : ∀ j ∈ ms, j ∈ ns
  ne : ∀ (k : Nat) (a b : Int), ms[k]? = some a → ms[k + 1]? = some b → a ≠ b
  last : i ≠ 0 → ms.getLast? = ns[i - 1]?
theorem dd_add {ns ms : List Int} {i : Nat} {x : Int} (h : DdI ns i ms) (hx : ns[i]? = some x) (hn : i ≠ 0 → ∀ a, ns[i - 1]? = some a → a ≠ x) : DdI ns (i + 1) (ms ++ [x]) := by
  refine ⟨by have := h.len; simp; omega, fun j hj => ?_, fun k a b ha hb => ?_, fun _ => by simp [hx]⟩
  · rcases List.mem_append.mp hj with hj | hj
    · exact h.mem j hj
    · simp at hj; rw [hj]; exact List.mem_of_getElem? hx
  · rcases Nat.lt_or_ge (k + 1) ms.length with lt | ge
    · rw [List.getElem?_append_left (by omega)] at ha hb
      exact h.ne k a b ha hb
    · rw [List.getElem?_append_right ge] at hb
      have hb0 : k + 1 - ms.length = 0 := by
        have := (List.getElem?_eq_some_iff.mp hb).1
        simp at this
        omega
      rw [hb0] at hb
      simp at hb
      subst hb
      have hk : k < ms.length := by omega
      rw [List.getElem?_append_left hk] at ha
      have hl := h.len
      have hla : ms.getLast? = some a := by
        rw [List.getLast?_eq_getElem?, show ms.length - 1 = k by omega]; exact ha
      have := h.last (by omega)
      rw [hla] at this
      exact hn (by omega) a this.symm
theorem dd_skip {ns ms : List Int} {i : Nat} {x : Int} (h : DdI ns i ms) (hx : ns[i]? = some x) (he : ns[i - 1]? = some x) (hi : i ≠ 0) : DdI ns (i + 1) ms :=
  ⟨Nat.le_succ_of_le h.len, h.mem, h.ne, fun _ => by rw [h.last hi, he]; simp [hx]⟩
def sp_law_divN : List D → Mem → K1 → Prop := fun ds M q => ∃ a b, ds = [.int a, .int b] ∧ 0 ≤ a ∧ 0 ≤ b ∧ Sz 8200 a ∧ Sz 8200 b ∧ q (.int (Int.gcd a b)) M
theorem sp_law_divN_eq {a b : Int} {M : Mem} {q : K1} : sp_law_divN [.int a, .int b] M q = (0 ≤ a ∧ 0 ≤ b ∧ Sz 8200 a ∧ Sz 8200 b ∧ q (.int (Int.gcd a b)) M) := propext ⟨fun ⟨_, _, e, h⟩ => by cases e; exact h, fun h => ⟨_, _, rfl, h⟩⟩
/-! ### contracts -/
def sp_average : List D → Mem → K1 → Prop := fun ds M q => ∃ R x, ds = [rowD R, rat x] ∧ RwW R ∧ 0 < x ∧ SzR 400 x ∧ q (rat (valAt R x / x)) M
def sp_is_dip : List D → Mem → K1 → Prop := fun ds M q => ∃ R d, ds = [rowD R, d] ∧ RwW R ∧ VK d ∧ q (.bl (dipB R d)) M
def sp_is_marginal : List D → Mem → K1 → Prop := fun ds M q => ∃ R, ds = [rowD R] ∧ RwW R ∧ q (.bl (marB (normR R))) M
def sp_is_average : List D → Mem → K1 → Prop := fun ds M q => ∃ R, ds = [rowD R] ∧ RwW R ∧ q (.bl (avB (normR R))) M
def sp_dips : List D → Mem → K1 → Prop := fun ds M q => ∃ N, ∃ k : Nat, ds = [rowD N, .int (k : Nat)] ∧ RwW N ∧ k < N.length ∧ q (.bl (dsB N k)) M
def sp_jumpsW : List D → Mem → K1 → Prop := fun ds M q => ∃ N, ∃ k : Nat, ds = [rowD N, .int (k : Nat)] ∧ RwW N ∧ k < N.length ∧ q (.bl (jdB N k)) M
def sp_dip_of : List D → Mem → K1 → Prop := fun ds M q => ∃ R, ds = [rowD R] ∧ GR R ∧ ∀ d, DipD (normR R) d → q d M
def sp_law_minus := sp_minus
def sp_law_total := sp_sum_of
def sp_law_some : List D → Mem → K1 → Prop := fun ds M q => ∃ b c low high, ds = [.lst b, .int low, .int high] ∧ low ≤ high ∧ Sz 12 low ∧ Sz 12 high ∧ BoxAt M b c ∧ ∀ m k M', low ≤ m → m ≤ high → 1 ≤ k → k ≤ 4 → BoxAt M' b c → Fr b c M M' → q (rat (Rat.divInt m k)) M'
def sp_law_steady : List D → Mem → K1 → Prop := fun ds M q => ∃ b c many low high asc, ds = [.lst b, .int many, .int low, .int high, .bl asc] ∧ 1 ≤ many ∧ many ≤ 6 ∧ -20 ≤ low ∧ low ≤ high ∧ high ≤ 20 ∧ BoxAt M b c ∧ ∀ R M', StdR many low high asc R → BoxAt M' b c → Fr b c M M' → q (rowD R) M'
def sp_same : List D → Mem → K1 → Prop := fun ds M q => ∃ A B, ds = [rowD A, rowD B] ∧ RwW A ∧ RwW B ∧ q (.bl (deq (rowD (normR A)) (rowD (normR B)))) M
def sp_priced : List D → Mem → K1 → Prop := fun ds M q => ∃ R p, ds = [rowD R, rat p] ∧ RwW R ∧ SzR 1000 p ∧ RwW (scl p R) ∧ q (rowD (normR (scl p R))) M
end TB

namespace TB
open PySem PySem.Spec PyProof.Rows L2
/-! EngM: values that are spoilt; the greatest and the least of some ratios -/
/-- a value whose whole numbers, lengths and depth are bounded; s: whole numbers and tuples alone -/
def fD (s : Bool) (n L : Nat) : Nat → D → Bool
  | _, .non => !s
  | _, .bl _ => !s
  | _, .int i => decide (i.natAbs < 2 ^ n)
  | _, .str x => !s && PyData.strOk x
  | _, .lst _ => false
  | _, .scr _ _ => false
  | 0, .tup _ => false
  | k + 1, .tup ds => decide (ds.length ≤ L) && ds.all (fD s n L k)
theorem fD_tup {s : Bool} {n L k : Nat} {ds : List D} : fD s n L (k + 1) (.tup ds) = true ↔ ds.length ≤ L ∧ ∀ d ∈ ds, fD s n L k d = true := by
  simp [fD]
theorem fD_mono {s s' : Bool} {n n' L L' : Nat} (hs : s' = true → s = true) (hn : n ≤ n') (hL : L ≤ L') : ∀ {k k' : Nat} {d : D}, k ≤ k' → fD s n L k d = true → fD s' n' L' k' d = true := by
  have hp : 2 ^ n ≤ 2 ^ n' := Nat.pow_le_pow_right (by decide) hn
  intro k
  induction k with
  | zero =>
    intro k' d hk h
    cases d with
    | tup ds => simp [fD] at h
    | int i => cases k' <;> (simp [fD] at h ⊢; omega)
    | non => cases s <;> cases s' <;> cases k' <;> simp_all [fD]
    | bl b => cases s <;> cases s' <;> cases k' <;> simp_all [fD]
    | str x => cases s <;> cases s' <;> cases k' <;> simp_all [fD]
    | lst a => simp [fD] at h
    | scr a ns => simp [fD] at h
  | succ k ih =>
    intro k' d hk h
    cases d with
    | tup ds =>
      obtain ⟨k'', rfl⟩ : ∃ k'', k' = k'' + 1 := ⟨k' - 1, by omega⟩
      rw [fD_tup] at h ⊢
      exact ⟨by omega, fun d hd => ih (by omega) (h.2 d hd)⟩
    | int i => cases k' <;> (simp [fD] at h ⊢; omega)
    | non => cases s <;> cases s' <;> cases k' <;> simp_all [fD]
    | bl b => cases s <;> cases s' <;> cases k' <;> simp_all [fD]
    | str x => cases s <;> cases s' <;> cases k' <;> simp_all [fD]
    | lst a => simp [fD] at h
    | scr a ns => simp [fD] at h
theorem fD_pure {s : Bool} {n L : Nat} : ∀ {k : Nat} {d : D}, fD s n L k d = true → d.pure = true ∧ d.depth ≤ k := by
  intro k
  induction k with
  | zero =>
    intro d h
    cases d with
    | tup ds => simp [fD] at h
    | str x => simp [fD] at h; exact ⟨by simp only [D.pure]; exact h.2, by simp [D.depth]⟩
    | lst a => simp [fD] at h
    | scr a ns => simp [fD] at h
    | _ => exact ⟨rfl, by simp [D.depth]⟩
  | succ k ih =>
    intro d h
    cases d with
    | tup ds =>
      rw [fD_tup] at h
      have key : ∀ es : List D, (∀ d ∈ es, fD s n L k d = true) → D.pureL es = true ∧ D.depthL es ≤ k := by
        intro es
        induction es with
        | nil => intro _; exact ⟨rfl, by simp [D.depthL]⟩
        | cons a r ihr =>
          intro he
          have h1 := ih (he a (by simp))
          have h2 := ihr fun d hd => he d (by simp [hd])
          simp only [D.pureL, D.depthL, Bool.and_eq_true]
          exact ⟨⟨h1.1, h2.1⟩, by have := h1.2; have := h2.2; omega⟩
      have := key ds h.2
      exact ⟨by simp only [D.pure]; exact this.1, by simp only [D.depth]; omega⟩
    | str x => simp [fD] at h; exact ⟨by simp only [D.pure]; exact h.2, by simp [D.depth]⟩
    | lst a => simp [fD] at h
    | scr a ns => simp [fD] at h
    | _ => exact ⟨rfl, by simp [D.depth]⟩
theorem fD_rat {s : Bool} {n L k : Nat} {x : Rat} (h : SzR n x) (hL : 2 ≤ L) : fD s n L (k + 1) (rat x) = true := by
  unfold rat
  rw [fD_tup]
  refine ⟨by simpa using hL, fun d hd => ?_⟩
  have h1 : x.num.natAbs < 2 ^ n := h.num
  have h2 : ((x.den : Int)).natAbs < 2 ^ n := h.den
  simp at hd
  rcases hd with rfl | rfl <;> cases k <;> (simp only [fD, decide_eq_true_eq]; assumption)
theorem cut_len {α : Type} {l : List α} {a b : Option Int} : (cutD l a b).length ≤ l.length := by
  unfold cutD
  rw [List.length_take, List.length_drop]
  omega
theorem cut_mem {α : Type} {l : List α} {a b : Option Int} {x : α} (h : x ∈ cutD l a b) : x ∈ l := by
  unfold cutD at h
  exact List.mem_of_mem_drop (List.mem_of_mem_take h)
def sp_law_spoilt (k : Nat) : List D → Mem → K1 → Prop := fun ds M q => k ≠ 0 ∧ ∃ b c d n L, ds = [.lst b, d] ∧ TapeAt M b c ∧ fD true n L (k - 1) d = true ∧ 1 ≤ n ∧ n ≤ 4000 ∧ 2 ≤ L ∧ L ≤ 1000 ∧
  ∀ e M', fD false (n + 1) (L + 1) (k + 1) e = true → TapeAt M' b c → Fr b c M M' → q e M'
theorem sp_law_spoilt_eq {k : Nat} {b : Addr} {d : D} {M : Mem} {q : K1} : sp_law_spoilt (k + 1) [.lst b, d] M q = ∃ c n L, TapeAt M b c ∧ fD true n L k d = true ∧ 1 ≤ n ∧ n ≤ 4000 ∧ 2 ≤ L ∧ L ≤ 1000 ∧
  ∀ e M', fD false (n + 1) (L + 1) (k + 2) e = true → TapeAt M' b c → Fr b c M M' → q e M' :=
  propext ⟨fun ⟨_, _, c, _, n, L, e, h⟩ => by cases e; exact ⟨c, n, L, h⟩, fun ⟨c, n, L, h⟩ => ⟨Nat.succ_ne_zero _, b, c, d, n, L, rfl, h⟩⟩
def sp_law_max : List D → Mem → K1 → Prop := fun ds M q => ∃ a x xs, ds = [.lst a] ∧ M a = some (List.map rat (x :: xs)) ∧ (∀ y ∈ x :: xs, SzR 4000 y) ∧ ∀ y ∈ x :: xs, (∀ z ∈ x :: xs, z ≤ y) → q (rat y) M
def sp_law_least : List D → Mem → K1 → Prop := fun ds M q => ∃ a x xs, ds = [.lst a] ∧ M a = some (List.map rat (x :: xs)) ∧ (∀ y ∈ x :: xs, SzR 4000 y) ∧ ∀ y ∈ x :: xs, (∀ z ∈ x :: xs, y ≤ z) → q (rat y) M
end TB

namespace TB
open PySem PySem.Spec PyProof.Rows L2
/-! Eng1: environments of unknown slots, lists that are made, sizes by search -/
/-- two environments that differ in the slots W alone -/
def fxL : Nat → List Nat → En → En → Prop
  | _, _, [], [] => True
  | k, W, x :: xs, y :: ys => (W.contains k = true ∨ y = x) ∧ fxL (k + 1) W xs ys
  | _, _, _, _ => False
def Fx (W : List Nat) (ρ ρ' : En) : Prop := fxL 0 W ρ ρ'
theorem fxL_get : ∀ {ρ ρ' : En} {k : Nat} {W : List Nat} {j : Nat}, fxL k W ρ ρ' → W.contains (k + j) = false → get ρ' j = get ρ j
  | [], [], _, _, _, _, _ => rfl
  | x :: xs, y :: ys, k, W, 0, h, hj => by
    rcases h.1 with h | h
    · rw [Nat.add_zero] at hj; rw [h] at hj; cases hj
    · simp only [get]; exact h
  | x :: xs, y :: ys, k, W, j + 1, h, hj => by
    simp only [get]
    exact fxL_get h.2 (by rw [← hj]; congr 1; omega)
  | [], _ :: _, _, _, _, h, _ => h.elim
  | _ :: _, [], _, _, _, h, _ => h.elim
theorem fxL_len : ∀ {ρ ρ' : En} {k : Nat} {W : List Nat}, fxL k W ρ ρ' → ρ'.length = ρ.length
  | [], [], _, _, _ => rfl
  | x :: xs, y :: ys, k, W, h => by simp [fxL_len h.2]
  | [], _ :: _, _, _, h => h.elim
  | _ :: _, [], _, _, h => h.elim
theorem fxL_refl : ∀ {ρ : En} {k : Nat} {W : List Nat}, fxL k W ρ ρ
  | [], _, _ => trivial
  | x :: xs, k, W => ⟨.inr rfl, fxL_refl⟩
theorem fxL_trans : ∀ {ρ ρ' ρ'' : En} {k : Nat} {W W' V : List Nat}, fxL k W ρ ρ' → fxL k W' ρ' ρ'' → (W ++ W').all (fun j => V.contains j) = true → fxL k V ρ ρ''
  | [], [], [], _, _, _, _, _, _, _ => trivial
  | x :: xs, y :: ys, z :: zs, k, W, W', V, h, h', e => by
    refine ⟨?_, fxL_trans h.2 h'.2 e⟩
    rw [List.all_append, Bool.and_eq_true, List.all_eq_true, List.all_eq_true] at e
    rcases h.1 with a | a
    · exact .inl (e.1 k (by simpa using a))
    · rcases h'.1 with b | b
      · exact .inl (e.2 k (by simpa using b))
      · exact .inr (b.trans a)
  | [], _ :: _, _, _, _, _, _, h, _, _ => h.elim
  | _ :: _, [], _, _, _, _, _, h, _, _ => h.elim
  | [], [], _ :: _, _, _, _, _, _, h, _ => h.elim
  | _ :: _, _ :: _, [], _, _, _, _, _, h, _ => h.elim
theorem Fx.get {W : List Nat} {ρ ρ' : En} {j : Nat} {x : Option D} (h : Fx W ρ ρ') (e : TB.get ρ j = x) (hj : W.contains j = false := by decide) : TB.get ρ' j = x := by
  rw [← e]; exact fxL_get h (by rw [Nat.zero_add]; exact hj)
theorem Fx.len {W : List Nat} {ρ ρ' : En} {n : Nat} (h : Fx W ρ ρ') (e : ρ.length = n) : ρ'.length = n := by rw [← e]; exact fxL_len h
theorem Fx.refl {W : List Nat} {ρ : En} : Fx W ρ ρ := fxL_refl
theorem Fx.trans {W W' V : List Nat} {ρ ρ' ρ'' : En} (h : Fx W ρ ρ') (h' : Fx W' ρ' ρ'') (e : (W ++ W').all (fun j => V.contains j) = true := by decide) : Fx V ρ ρ'' := fxL_trans h h' e
theorem Fx.mono {W V : List Nat} {ρ ρ' : En} (h : Fx W ρ ρ') (e : W.all (fun j => V.contains j) = true := by decide) : Fx V ρ ρ' := h.trans (.refl (W := [])) (by rw [List.append_nil]; exact e)
theorem len_succ {ρ : En} {n : Nat} (h : ρ.length = n + 1) : ∃ x r, ρ = x :: r ∧ r.length = n := by
  cases ρ with
  | nil => simp at h
  | cons x r => exact ⟨x, r, rfl, by simpa using h⟩
theorem len_zero {ρ : En} (h : ρ.length = 0) : ρ = [] := List.length_eq_zero_iff.mp h
/-! ### what a comprehension makes -/
def Wm {α : Type} (xs : List α) (g : α → D) (M : Mem) : Nat → List D → Mem → Prop := fun i acc M' => M' = M ∧ acc = (xs.take i).map g
theorem Wm.zero {α : Type} {xs : List α} {g : α → D} {M : Mem} : Wm xs g M 0 [] M := ⟨rfl, rfl⟩
theorem Wm.step {α : Type} {xs : List α} {g : α → D} {M M' : Mem} {i : Nat} {acc : List D} {x : α} {y : D} (h : Wm xs g M i acc M') (hx : xs[i]? = some x) (e : y = g x) : Wm xs g M (i + 1) (acc ++ [y]) M' :=
  ⟨h.1, by rw [h.2, map_step hx, e]⟩
theorem Wm.done {α : Type} {xs : List α} {g : α → D} {M M' : Mem} {n : Nat} {acc : List D} (h : Wm xs g M n acc M') (e : n = xs.length) : M' = M ∧ acc = xs.map g := ⟨h.1, by rw [h.2, e, List.take_length]⟩
def Wf {α : Type} (xs : List α) (p : α → Bool) (g : α → D) (M : Mem) : Nat → List D → Mem → Prop := fun i acc M' => M' = M ∧ acc = ((xs.take i).filter p).map g
theorem Wf.zero {α : Type} {xs : List α} {p : α → Bool} {g : α → D} {M : Mem} : Wf xs p g M 0 [] M := ⟨rfl, rfl⟩
theorem Wf.step {α : Type} {xs : List α} {p : α → Bool} {g : α → D} {M M' : Mem} {i : Nat} {acc : List D} {x : α} {y : D} (h : Wf xs p g M i acc M') (hx : xs[i]? = some x) (hp : p x = true) (e : y = g x) : Wf xs p g M (i + 1) (acc ++ [y]) M' :=
  ⟨h.1, by rw [h.2, fm_step hx, hp, e]; simp⟩
theorem Wf.skip {α : Type} {xs : List α} {p : α → Bool} {g : α → D} {M M' : Mem} {i : Nat} {acc : List D} {x : α} (h : Wf xs p g M i acc M') (hx : xs[i]? = some x) (hp : p x = false) : Wf xs p g M (i + 1) acc M' :=
  ⟨h.1, by rw [h.2, fm_step hx, hp]; simp⟩
theorem Wf.done {α : Type} {xs : List α} {p : α → Bool} {g : α → D} {M M' : Mem} {n : Nat} {acc : List D} (h : Wf xs p g M n acc M') (e : n = xs.length) : M' = M ∧ acc = (xs.filter p).map g := ⟨h.1, by rw [h.2, e, List.take_length]⟩
theorem mp_get {α : Type} {xs : List α} {f : α → D} {i : Nat} {d : D} (h : (xs.map f)[i]? = some d) : ∃ x, xs[i]? = some x ∧ d = f x := by
  rw [List.getElem?_map, Option.map_eq_some_iff] at h
  obtain ⟨x, h1, h2⟩ := h
  exact ⟨x, h1, h2.symm⟩
theorem rng_get {n i : Nat} {d : D} {lo : Int} (h : (rngD lo n)[i]? = some d) : i < n ∧ d = .int (lo + i) ∧ (List.range n)[i]? = some i := by
  unfold rngD at h
  obtain ⟨x, h1, h2⟩ := mp_get h
  have := List.getElem?_eq_some_iff.mp h1
  obtain ⟨h3, h4⟩ := this
  rw [List.length_range] at h3
  rw [List.getElem_range] at h4
  subst h4
  exact ⟨h3, h2, h1⟩
/-- a list made at a new place -/
theorem Sub.keepU {M : Mem} {a p : Addr} {ds es : List D} (hp : M p = Option.none) (h : M a = some ds) : (M.up p es) a = some ds := by rw [up_ne (ne_some h hp)]; exact h
theorem part_isRat {n L k : Nat} {d : D} (hd : fD false n L k d = true) (h : isRat d = true) : ∃ x, d = rat x ∧ toR d = x ∧ SzR n x := by
  have e := isRat_eq h
  refine ⟨toR d, e, rfl, ?_⟩
  rw [e] at hd
  unfold rat at hd
  cases k with
  | zero => simp [fD] at hd
  | succ k =>
    rw [fD_tup] at hd
    have h1 := hd.2 (.int (toR d).num) (by simp)
    have h2 := hd.2 (.int ((toR d).den : Int)) (by simp)
    exact ⟨by cases k <;> (simp only [fD, decide_eq_true_eq] at h1; exact h1), by cases k <;> (simp only [fD, decide_eq_true_eq] at h2; exact h2)⟩
theorem deq_ratio {a b : Int} (hb : 0 < b) : deq (rat (Rat.divInt a b)) (.tup [.int a, .int b]) = decide (Int.gcd a b = 1) := by
  by_cases c : Int.gcd a b = 1
  · have e := ratio_pos (p := a) hb
    have e1 : ((1 : Nat) : Int) = 1 := rfl
    rw [c, e1, Int.fdiv_one, Int.fdiv_one] at e
    rw [← e, decide_eq_true c]
    exact deq_self _ rfl
  · rw [decide_eq_false c]
    cases e : deq (rat (Rat.divInt a b)) (.tup [.int a, .int b]) with
    | false => rfl
    | true =>
      exfalso
      apply c
      generalize Rat.divInt a b = z at *
      simp only [rat, deq, deqL, Bool.and_true, Bool.and_eq_true, beq_iff_eq] at e
      rw [← e.1, ← e.2]
      have := z.reduced
      unfold Nat.Coprime at this
      unfold Int.gcd
      simpa using this
theorem fD_some {s : Bool} {n L k : Nat} {es : List D} (h : fD s n L k (.tup es) = true) : ∃ j, k = j + 1 ∧ es.length ≤ L ∧ ∀ d ∈ es, fD s n L j d = true := by
  cases k with
  | zero => simp [fD] at h
  | succ k => exact ⟨k, rfl, fD_tup.mp h⟩
theorem cut_from {α : Type} {l : List α} {m : Nat} (h : m ≤ l.length) : cutD l (some (m : Int)) none = l.drop m := by
  have e : HT.sIx l.length 0 (some (m : Int)) = m := by
    simp only [HT.sIx]
    rw [if_neg (by omega)]
    omega
  have e2 : HT.sIx l.length l.length none = l.length := rfl
  unfold cutD
  rw [e, e2, List.take_of_length_le (by rw [List.length_drop]; omega)]
theorem zip_map2 {α β : Type} {f : α → D} {g : β → D} : ∀ (xs : List α) (ys : List β), zipD (xs.map f) (ys.map g) = (xs.zip ys).map fun x => .tup [f x.1, g x.2]
  | [], _ => by simp [zipD]
  | _ :: _, [] => by simp [zipD]
  | x :: xs, y :: ys => by simp [zipD, zip_map2 xs ys]
theorem isRats {es : List D} (h : es.all isRat = true) : es = (es.map toR).map rat := by
  induction es with
  | nil => rfl
  | cons e r ih =>
    rw [List.all_cons, Bool.and_eq_true] at h
    rw [List.map_cons, List.map_cons, ← ih h.2, ← isRat_eq h.1]
theorem isRats_sz {n L k : Nat} {es : List D} (h : es.all isRat = true) (hd : ∀ d ∈ es, fD false n L k d = true) : ∀ x ∈ es.map toR, SzR n x := fun x hx => by
  obtain ⟨d, hm, rfl⟩ := List.mem_map.mp hx
  obtain ⟨y, _, e, s⟩ := part_isRat (hd d hm) (List.all_eq_true.mp h d hm)
  rw [e]; exact s
theorem at_map {α : Type} {l : List α} {f : α → D} {k : Nat} {x : α} {i : Int} (h : l[k]? = some x) (e : i = (k : Int)) : atI (l.map f) i = some (f x) := by
  rw [e, atNat, List.getElem?_map, h]; rfl
end TB

namespace TB
open PySem PySem.Spec PyProof.Rows L2
/-! Eng2: values that are bent (box kind) -/
theorem strOk_any {s : String} : PyData.strOk (Str.ofString s) = true := by
  rw [Str.ofString_eq_toList]
  unfold PyData.strOk
  simp only [List.all_toArray, List.all_map, List.all_eq_true, Function.comp_apply, decide_eq_true_eq]
  intro c _
  have := c.valid
  unfold Char.toNat
  rcases this with h | h <;> (simp at h ⊢; omega)
/-- whole numbers, None, True, False and tuples -/
def fB (n L : Nat) : Nat → D → Bool
  | _, .non => true
  | _, .bl _ => true
  | _, .int i => decide (i.natAbs < 2 ^ n)
  | _, .str _ => false
  | _, .lst _ => false
  | _, .scr _ _ => false
  | 0, .tup _ => false
  | k + 1, .tup ds => decide (ds.length ≤ L) && ds.all (fB n L k)
theorem fB_tup {n L k : Nat} {ds : List D} : fB n L (k + 1) (.tup ds) = true ↔ ds.length ≤ L ∧ ∀ d ∈ ds, fB n L k d = true := by simp [fB]
theorem fB_fD {n n' L L' : Nat} (hn : n ≤ n') (hL : L ≤ L') : ∀ {k k' : Nat} {d : D}, k ≤ k' → fB n L k d = true → fD false n' L' k' d = true := by
  have hp : 2 ^ n ≤ 2 ^ n' := Nat.pow_le_pow_right (by decide) hn
  intro k
  induction k with
  | zero =>
    intro k' d hk h
    cases d with
    | int i => cases k' <;> (simp [fB, fD] at h ⊢; omega)
    | non => cases k' <;> rfl
    | bl b => cases k' <;> rfl
    | _ => simp [fB] at h
  | succ k ih =>
    intro k' d hk h
    cases d with
    | tup ds =>
      obtain ⟨k'', rfl⟩ : ∃ k'', k' = k'' + 1 := ⟨k' - 1, by omega⟩
      rw [fB_tup] at h
      rw [fD_tup]
      exact ⟨by omega, fun d hd => ih (by omega) (h.2 d hd)⟩
    | int i => cases k' <;> (simp [fB, fD] at h ⊢; omega)
    | non => cases k' <;> rfl
    | bl b => cases k' <;> rfl
    | _ => simp [fB] at h
theorem fB_mono {n n' L L' : Nat} (hn : n ≤ n') (hL : L ≤ L') : ∀ {k k' : Nat} {d : D}, k ≤ k' → fB n L k d = true → fB n' L' k' d = true := by
  have hp : 2 ^ n ≤ 2 ^ n' := Nat.pow_le_pow_right (by decide) hn
  intro k
  induction k with
  | zero =>
    intro k' d hk h
    cases d with
    | int i => cases k' <;> (simp [fB] at h ⊢; omega)
    | non => cases k' <;> rfl
    | bl b => cases k' <;> rfl
    | _ => simp [fB] at h
  | succ k ih =>
    intro k' d hk h
    cases d with
    | tup ds =>
      obtain ⟨k'', rfl⟩ : ∃ k'', k' = k'' + 1 := ⟨k' - 1, by omega⟩
      rw [fB_tup] at h ⊢
      exact ⟨by omega, fun d hd => ih (by omega) (h.2 d hd)⟩
    | int i => cases k' <;> (simp [fB] at h ⊢; omega)
    | non => cases k' <;> rfl
    | bl b => cases k' <;> rfl
    | _ => simp [fB] at h
theorem fB_rat {n L k : Nat} {x : Rat} (h : SzR n x) (hL : 2 ≤ L) : fB n L (k + 1) (rat x) = true := by
  unfold rat
  rw [fB_tup]
  refine ⟨by simpa using hL, fun d hd => ?_⟩
  have h1 : x.num.natAbs < 2 ^ n := h.num
  have h2 : ((x.den : Int)).natAbs < 2 ^ n := h.den
  simp at hd
  rcases hd with rfl | rfl <;> cases k <;> (simp only [fB, decide_eq_true_eq]; assumption)
theorem fB_rats {n L k : Nat} {xs : List Rat} (h : ∀ x ∈ xs, SzR n x) (hl : xs.length ≤ L) (h2 : 2 ≤ L) : fB n L (k + 2) (.tup (xs.map rat)) = true := by
  rw [fB_tup]
  refine ⟨by rw [List.length_map]; exact hl, fun d hd => ?_⟩
  obtain ⟨x, hx, rfl⟩ := List.mem_map.mp hd
  exact fB_rat (h x hx) h2
theorem fD_rats {s : Bool} {n L k : Nat} {xs : List Rat} (h : ∀ x ∈ xs, SzR n x) (hl : xs.length ≤ L) (h2 : 2 ≤ L) : fD s n L (k + 2) (.tup (xs.map rat)) = true := by
  rw [fD_tup]
  refine ⟨by rw [List.length_map]; exact hl, fun d hd => ?_⟩
  obtain ⟨x, hx, rfl⟩ := List.mem_map.mp hd
  exact fD_rat (h x hx) h2
def sp_law_bent (k : Nat) : List D → Mem → K1 → Prop := fun ds M q => k ≠ 0 ∧ ∃ b c d n L, ds = [.lst b, d] ∧ BoxAt M b c ∧ fB n L (k - 1) d = true ∧ 1 ≤ n ∧ n ≤ 1900 ∧ 2 ≤ L ∧ L ≤ 1000 ∧
  ∀ e M', fD false (n + 2) (L + 1) (k + 1) e = true → BoxAt M' b c → Fr b c M M' → q e M'
theorem sp_law_bent_eq {k : Nat} {b : Addr} {d : D} {M : Mem} {q : K1} : sp_law_bent (k + 1) [.lst b, d] M q = ∃ c n L, BoxAt M b c ∧ fB n L k d = true ∧ 1 ≤ n ∧ n ≤ 1900 ∧ 2 ≤ L ∧ L ≤ 1000 ∧
  ∀ e M', fD false (n + 2) (L + 1) (k + 2) e = true → BoxAt M' b c → Fr b c M M' → q e M' :=
  propext ⟨fun ⟨_, _, c, _, n, L, e, h⟩ => by cases e; exact ⟨c, n, L, h⟩, fun ⟨c, n, L, h⟩ => ⟨Nat.succ_ne_zero _, b, c, d, n, L, rfl, h⟩⟩
theorem cut_last_len2 {α : Type} {l : List α} {m : Nat} : (cutD l none (some (m : Int))).length ≤ m := by
  unfold cutD
  rw [HT.sIx_nat, List.length_take]
  have : HT.sIx l.length 0 none = 0 := rfl
  rw [this]
  omega
theorem sub_box {M1 M2 : Mem} {b c : Addr} (h : BoxAt M1 b c) (s : Sub M1 M2) : BoxAt M2 b c := by
  obtain ⟨n, cells, cur, seed, h1, h2, r⟩ := h
  exact ⟨n, cells, cur, seed, s _ _ h1, s _ _ h2, r⟩
theorem bl_map {α : Type} {f : α → Bool} {xs : List α} : xs.map (fun x => D.bl (f x)) = (xs.map f).map D.bl := by rw [List.map_map]; rfl
theorem all_id {α : Type} {f : α → Bool} {xs : List α} : (xs.map f).all id = xs.all f := by rw [List.all_map]; rfl
theorem any_id {α : Type} {f : α → Bool} {xs : List α} : (xs.map f).any id = xs.any f := by rw [List.any_map]; rfl
theorem toR_rats {ps : List Rat} : (ps.map rat).map toR = ps := by
  rw [List.map_map]
  have : (toR ∘ rat) = id := by funext x; exact toR_rat
  rw [this, List.map_id]
theorem isRat_rats {ps : List Rat} : (ps.map rat).all isRat = true := by
  rw [List.all_map, List.all_eq_true]
  intro x _
  exact isRat_rat
theorem fit_rats {k : Nat} {xs : List Rat} (hl : xs.length ≤ 1000000) : fitN (k + 2) (.tup (xs.map rat)) = true := by
  simp only [fitN, Bool.and_eq_true, decide_eq_true_eq, List.all_eq_true, List.length_map]
  refine ⟨hl, fun d hd => ?_⟩
  obtain ⟨x, hx, rfl⟩ := List.mem_map.mp hd
  exact fit_rat
theorem fit_two {k : Nat} {a b : D} (ha : fitN k a = true) (hb : fitN k b = true) : fitN (k + 1) (.tup [a, b]) = true := by
  simp [fitN, ha, hb]
def rq (ps : List Rat) (j : Nat) : Rat := (ps[j]?).getD 0
theorem rq_of {ps : List Rat} {j : Nat} (hj : j < ps.length) : ps[j]? = some (rq ps j) := by
  unfold rq; rw [List.getElem?_eq_getElem hj]; rfl
theorem at_rq {ps : List Rat} {j : Nat} (hj : j < ps.length) {i : Int} (e : i = (j : Int)) : atI (ps.map rat) i = some (rat (rq ps j)) := at_map (rq_of hj) e
theorem rq_mem {ps : List Rat} {j : Nat} (hj : j < ps.length) : rq ps j ∈ ps := List.mem_of_getElem? (rq_of hj)
end TB

namespace TB
open PySem PySem.Spec PyProof.Rows L2
/-! Eng3: layers of losses -/
/-! ### lattices -/
def Qn (d B : Nat) (x : Rat) : Prop := ∃ m : Nat, x * ((d : Int) : Rat) = ((m : Int) : Rat) ∧ m ≤ B
theorem Qn.add {d B C : Nat} {x y : Rat} (h : Qn d B x) (k : Qn d C y) : Qn d (B + C) (x + y) := by
  obtain ⟨m, e, l⟩ := h
  obtain ⟨n, f, j⟩ := k
  refine ⟨m + n, ?_, by omega⟩
  rw [Rat.add_mul, e, f, ← Rat.intCast_add]
  rfl
theorem Qn.mul {d c B C : Nat} {x y : Rat} (h : Qn d B x) (k : Qn c C y) : Qn (d * c) (B * C) (x * y) := by
  obtain ⟨m, e, l⟩ := h
  obtain ⟨n, f, j⟩ := k
  refine ⟨m * n, ?_, Nat.mul_le_mul l j⟩
  have e1 : (((d * c : Nat) : Int) : Rat) = ((d : Int) : Rat) * ((c : Int) : Rat) := by rw [← Rat.intCast_mul]; rfl
  have e2 : (((m * n : Nat) : Int) : Rat) = ((m : Int) : Rat) * ((n : Int) : Rat) := by rw [← Rat.intCast_mul]; rfl
  rw [e1, e2, ← e, ← f]; grind
theorem Qn.sub {d B : Nat} {x y : Rat} (hd : 0 < d) (h : Qn d B x) (k : Qn d B y) (le : y ≤ x) : Qn d B (x - y) := by
  obtain ⟨m, e, l⟩ := h
  obtain ⟨n, f, j⟩ := k
  have h1 : ((n : Int) : Rat) ≤ ((m : Int) : Rat) := by
    rw [← e, ← f]
    refine mul_le_l le ?_
    have := Rat.intCast_nonneg (a := (d : Int)) |>.mpr (by omega)
    exact this
  have h2 : (n : Int) ≤ (m : Int) := Rat.intCast_le_intCast.mp h1
  refine ⟨m - n, ?_, by omega⟩
  have e3 : (((m - n : Nat) : Int) : Rat) = ((m : Int) : Rat) - ((n : Int) : Rat) := by
    rw [← Rat.intCast_sub]; congr 1; omega
  rw [e3, ← e, ← f]; grind
theorem Qn.zero {d B : Nat} : Qn d B 0 := ⟨0, by simp, by omega⟩
theorem Qn.mono {d B C : Nat} {x : Rat} (h : Qn d B x) (l : B ≤ C) : Qn d C x := by
  obtain ⟨m, e, k⟩ := h; exact ⟨m, e, by omega⟩
theorem Qn.sz {d B n : Nat} {x : Rat} (h : Qn d B x) (hd : 0 < d) (h1 : B < 2 ^ n) (h2 : d < 2 ^ n) : SzR n x := by
  obtain ⟨m, e, l⟩ := h
  have dn : ((d : Int) : Rat) ≠ 0 := by
    intro z
    have : ((d : Int) : Rat) = ((0 : Int) : Rat) := z
    have := Rat.intCast_inj.mp this
    omega
  have : x = Rat.divInt (m : Int) (d : Int) := by
    rw [Rat.divInt_eq_div, Rat.div_def, ← e, Rat.mul_assoc, Rat.mul_inv_cancel _ dn, Rat.mul_one]
  rw [this]
  exact SzR.divInt (by unfold Sz; omega) (by unfold Sz; omega) (by omega)
theorem Qn.nn {d B : Nat} {x : Rat} (hd : 0 < d) (h : Qn d B x) : 0 ≤ x := by
  obtain ⟨m, e, l⟩ := h
  by_cases c : 0 ≤ x
  · exact c
  · exfalso
    have h1 : (0 : Rat) < ((d : Int) : Rat) := Rat.intCast_pos.mpr (by omega)
    have h2 : (0 : Rat) ≤ ((m : Int) : Rat) := Rat.intCast_nonneg.mpr (by omega)
    have := Rat.mul_pos (show 0 < -x by grind) h1
    grind
/-! ### layers -/
structure Ly where
  b : Rat
  e : Option Rat
  p : Rat
def lyD (L : Ly) : D := .tup [rat L.b, optD L.e, rat L.p]
def lysD (Ls : List Ly) : D := .tup (Ls.map lyD)
def Ly.top (L : Ly) (x : Rat) : Rat := match L.e with
  | none => x
  | some t => if t < x then t else x
def Ly.rch (L : Ly) (x : Rat) : Rat := if L.b < L.top x then L.top x - L.b else 0
def Ly.on (L : Ly) (x : Rat) : Bool := !decide (x < L.b) && (match L.e with
  | none => true
  | some t => decide (x < t))
def Ly.pt (L : Ly) (x : Rat) : Rat := if L.on x = true then L.p else 0
def borneR (Ls : List Ly) (x : Rat) : Rat := sumR (Ls.map fun L => L.p * L.rch x)
def partsR (Ls : List Ly) (x : Rat) : Rat := sumR (Ls.map fun L => L.pt x)
structure LyOk (L : Ly) : Prop where
  b : Qn 2 22 L.b
  e : ∀ t, L.e = some t → L.b < t ∧ Qn 2 30 t
  p : Qn 4 4 L.p
structure LysOk (Ls : List Ly) : Prop where
  len : Ls.length ≤ 5
  ok : ∀ L ∈ Ls, LyOk L
structure SzL (L : Ly) : Prop where
  b : SzR 8 L.b
  b0 : 0 ≤ L.b
  e : ∀ t, L.e = some t → L.b < t ∧ SzR 8 t
  p : SzR 12 L.p
  p0 : 0 ≤ L.p ∧ L.p ≤ 1
structure LysW (Ls : List Ly) : Prop where
  len : Ls.length ≤ 5
  ok : ∀ L ∈ Ls, SzL L
theorem Qn4_le {x : Rat} (h : Qn 4 4 x) : x ≤ 1 := by
  obtain ⟨m, e, l⟩ := h
  have h2 : ((m : Int) : Rat) ≤ ((4 : Int) : Rat) := Rat.intCast_le_intCast.mpr (by omega)
  have : ((4 : Nat) : Int) = (4 : Int) := rfl
  rw [this] at e
  have e4 : ((4 : Int) : Rat) = 4 := rfl
  rw [e4] at e h2
  grind
theorem LyOk.w {L : Ly} (h : LyOk L) : SzL L := ⟨h.b.sz (by decide) (by decide) (by decide), h.b.nn (by decide), fun t ht => ⟨(h.e t ht).1, (h.e t ht).2.sz (by decide) (by decide) (by decide)⟩, h.p.sz (by decide) (by decide) (by decide), h.p.nn (by decide), Qn4_le h.p⟩
theorem LysOk.w {Ls : List Ly} (h : LysOk Ls) : LysW Ls := ⟨h.len, fun L hL => (h.ok L hL).w⟩
def lyRaw (L : Ly) : List Pc := ((if 0 < L.b then [(⟨0, 0, 0⟩ : Pc)] else []) ++ [⟨L.b, 0, L.p⟩]) ++ (match L.e with
  | none => []
  | some t => [⟨t, L.p * (t - L.b), 0⟩])
def rowL (L : Ly) : List Pc := normR (lyRaw L)
def rowsL (Ls : List Ly) : List Pc := Ls.foldl (fun F L => normR (addRaw F (rowL L))) [⟨0, 0, 0⟩]
def keptR (Ls : List Ly) : List Pc := normR (addRaw [⟨0, 0, 1⟩] (normR ((rowsL Ls).map (scP (-1)))))
theorem rowsL_snoc {Ls : List Ly} {L : Ly} : rowsL (Ls ++ [L]) = normR (addRaw (rowsL Ls) (rowL L)) := by unfold rowsL; rw [List.foldl_append]; rfl
theorem val_nil {x : Rat} : valAt [] x = 0 := rfl
theorem sl_nil {x : Rat} : slAt [] x = 0 := rfl
theorem one_asc {p : Pc} : Asc [p] := by simp [Asc]
theorem one_steady {p : Pc} : Steady [p] := fun l a b r e => by
  have := congrArg List.length e
  simp at this; omega
/-- the row of one layer before its normal form -/
theorem lyRaw_ok {L : Ly} (h : SzL L) : Rw (lyRaw L) ∧ Steady (lyRaw L) ∧ (∀ x, 0 ≤ x → valAt (lyRaw L) x = L.p * L.rch x ∧ slAt (lyRaw L) x = L.pt x) ∧ (lyRaw L).length ≤ 3 ∧ ∀ p ∈ lyRaw L, p.s = 0 ∨ p.s = L.b ∨ L.e = some p.s := by
  have hb := h.b0
  have key : ∀ (Z : List Pc), Z = (if 0 < L.b then [(⟨0, 0, 0⟩ : Pc)] else []) → Asc (Z ++ [⟨L.b, 0, L.p⟩]) ∧ Steady (Z ++ [⟨L.b, 0, L.p⟩]) ∧ (∀ p, (Z ++ [(⟨L.b, 0, L.p⟩ : Pc)]).head? = some p → p.s = 0) ∧ (∀ x, 0 ≤ x → x < L.b → valAt Z x = 0 ∧ slAt Z x = 0) ∧ (∀ p ∈ Z, p.s = 0 ∧ p.s < L.b) ∧ Z.length ≤ 1 := by
    intro Z hZ
    by_cases c : 0 < L.b
    · rw [if_pos c] at hZ
      subst hZ
      refine ⟨?_, ?_, ?_, ?_, ?_, by simp⟩
      · unfold Asc; simp; exact c
      · refine snoc_steady one_steady fun a ha => ?_
        simp at ha; subst ha
        unfold Pc.at; simp only; grind
      · intro p hp; simp at hp; subst hp; rfl
      · intro x x0 xb
        have e : ([(⟨0, 0, 0⟩ : Pc)]) = [] ++ [⟨0, 0, 0⟩] := rfl
        rw [e, valAt_snoc, slAt_snoc]
        rw [if_neg (show ¬ x < (⟨0, 0, 0⟩ : Pc).s by show ¬ x < 0; grind), if_neg (show ¬ x < (⟨0, 0, 0⟩ : Pc).s by show ¬ x < 0; grind)]
        refine ⟨?_, rfl⟩
        unfold Pc.at; simp only; grind
      · intro p hp; simp at hp; subst hp; exact ⟨rfl, c⟩
    · rw [if_neg c] at hZ
      subst hZ
      refine ⟨one_asc, one_steady, ?_, ?_, ?_, by simp⟩
      · intro p hp; simp at hp; subst hp; show L.b = 0; grind
      · intro x x0 xb; exact ⟨rfl, rfl⟩
      · intro p hp; simp at hp
  obtain ⟨k1, k2, k3, k4, k5, k6⟩ := key _ rfl
  have vz : ∀ x, 0 ≤ x → valAt ((if 0 < L.b then [(⟨0, 0, 0⟩ : Pc)] else []) ++ [⟨L.b, 0, L.p⟩]) x = (if x < L.b then 0 else L.p * (x - L.b)) ∧ slAt ((if 0 < L.b then [(⟨0, 0, 0⟩ : Pc)] else []) ++ [⟨L.b, 0, L.p⟩]) x = (if x < L.b then 0 else L.p) := by
    intro x x0
    rw [valAt_snoc, slAt_snoc]
    simp only
    by_cases c : x < L.b
    · rw [if_pos c, if_pos c, if_pos c, if_pos c]; exact k4 x x0 c
    · rw [if_neg c, if_neg c, if_neg c, if_neg c]
      refine ⟨?_, rfl⟩
      unfold Pc.at; simp only; grind
  unfold lyRaw
  generalize (if 0 < L.b then [(⟨0, 0, 0⟩ : Pc)] else []) = Z at *
  cases he : L.e with
  | none =>
    simp only [List.append_nil]
    refine ⟨⟨k1, by simp, k3⟩, k2, fun x x0 => ?_, by simp; omega, ?_⟩
    · obtain ⟨v1, v2⟩ := vz x x0
      rw [v1, v2]
      unfold Ly.rch Ly.pt Ly.on Ly.top
      simp only [he]
      by_cases c : x < L.b
      · rw [if_pos c, if_pos c, if_neg (show ¬ L.b < x by grind), decide_eq_true c]; simp
      · rw [if_neg c, if_neg c, decide_eq_false c]
        simp only [Bool.not_false, Bool.and_true, if_true, and_true]
        by_cases d : L.b < x
        · rw [if_pos d]
        · rw [if_neg d]; have : x = L.b := by grind
          rw [this]; grind
    · intro p hp
      rcases List.mem_append.mp hp with hp | hp
      · exact .inl (k5 p hp).1
      · simp at hp; subst hp; exact .inr (.inl rfl)
  | some t =>
    obtain ⟨bt, _⟩ := h.e t he
    have hlast : ∀ p ∈ Z ++ [(⟨L.b, 0, L.p⟩ : Pc)], p.s < t := fun p hp => by
      rcases List.mem_append.mp hp with hp | hp
      · have := (k5 p hp).2; grind
      · simp at hp; subst hp; exact bt
    refine ⟨⟨?_, by simp, ?_⟩, ?_, fun x x0 => ?_, by simp; omega, ?_⟩
    · unfold Asc at *
      rw [List.pairwise_append]
      exact ⟨k1, by simp, fun a ha b hb => by simp at hb; subst hb; exact hlast a ha⟩
    · intro p hp
      refine k3 p ?_
      rw [List.head?_append] at hp
      cases hz : (Z ++ [(⟨L.b, 0, L.p⟩ : Pc)]).head? with
      | none => simp at hz
      | some q => rw [hz] at hp; exact hp
    · refine snoc_steady k2 fun a ha => ?_
      simp at ha; subst ha
      unfold Pc.at; simp only; grind
    · obtain ⟨v1, v2⟩ := vz x x0
      rw [valAt_snoc, slAt_snoc, v1, v2]
      unfold Ly.rch Ly.pt Ly.on Ly.top
      simp only [he]
      by_cases c : x < t
      · rw [if_pos c, if_pos c, if_neg (show ¬ t < x by grind), decide_eq_true c]
        by_cases c2 : x < L.b
        · rw [if_pos c2, if_pos c2, if_neg (show ¬ L.b < x by grind), decide_eq_true c2]; simp
        · rw [if_neg c2, if_neg c2, decide_eq_false c2]
          simp only [Bool.not_false, Bool.and_true, if_true, and_true]
          by_cases d : L.b < x
          · rw [if_pos d]
          · rw [if_neg d]; have : x = L.b := by grind
            rw [this]; grind
      · rw [if_neg c, if_neg c, decide_eq_false c]
        simp only [Bool.and_false, Bool.false_eq_true, if_false, and_true]
        have e1 : (if t < x then t else x) = t := by split <;> grind
        rw [e1, if_pos bt]
        unfold Pc.at; simp only; grind
    · intro p hp
      rcases List.mem_append.mp hp with hp | hp
      · rcases List.mem_append.mp hp with hp | hp
        · exact .inl (k5 p hp).1
        · simp at hp; subst hp; exact .inr (.inl rfl)
      · simp at hp; subst hp; exact .inr (.inr rfl)
/-- what is so of the row of some layers -/
structure Rg (Ls : List Ly) (R : List Pc) : Prop where
  rw : Rw R
  st : Steady R
  val : ∀ x, 0 ≤ x → valAt R x = borneR Ls x
  sl : ∀ x, 0 ≤ x → slAt R x = partsR Ls x
  s : ∀ p ∈ R, p.s = 0 ∨ ∃ L ∈ Ls, p.s = L.b ∨ L.e = some p.s
  len : R.length ≤ 1 + 3 * Ls.length
theorem rowL_ok {L : Ly} (h : SzL L) : Rw (rowL L) ∧ Steady (rowL L) ∧ (∀ x, 0 ≤ x → valAt (rowL L) x = L.p * L.rch x ∧ slAt (rowL L) x = L.pt x) ∧ (rowL L).length ≤ 3 ∧ ∀ p ∈ rowL L, p.s = 0 ∨ p.s = L.b ∨ L.e = some p.s := by
  obtain ⟨h1, h2, h3, h4, h5⟩ := lyRaw_ok h
  unfold rowL
  refine ⟨normR_rw h1, normR_steady h1.asc h2, fun x x0 => ?_, Nat.le_trans (normR_sub _).length_le h4, fun p hp => h5 p ((normR_sub _).subset hp)⟩
  rw [(normR_val h1.asc).1, normR_sl h1.asc]
  exact h3 x x0
theorem borne_snoc {Ls : List Ly} {L : Ly} {x : Rat} : borneR (Ls ++ [L]) x = borneR Ls x + L.p * L.rch x := by unfold borneR; rw [List.map_append]; exact sumR_snoc
theorem parts_snoc {Ls : List Ly} {L : Ly} {x : Rat} : partsR (Ls ++ [L]) x = partsR Ls x + L.pt x := by unfold partsR; rw [List.map_append]; exact sumR_snoc
theorem rg_raw {Ls : List Ly} {L : Ly} {R : List Pc} (h : Rg Ls R) (hL : SzL L) : Rg (Ls ++ [L]) (addRaw R (rowL L)) := by
  obtain ⟨h1, h2, h3, h4, h5⟩ := rowL_ok hL
  refine ⟨addRaw_rw h.rw h1, addRaw_steady h.rw h1 h.st h2, fun x x0 => ?_, fun x x0 => ?_, fun p hp => ?_, ?_⟩
  · rw [addRaw_val h.rw h1 x0, borne_snoc, h.val x x0, (h3 x x0).1]
  · rw [addRaw_sl h.rw h1 x0, parts_snoc, h.sl x x0, (h3 x x0).2]
  · obtain ⟨q, hq, e⟩ := addRaw_s hp
    rw [← e]
    rcases hq with hq | hq
    · rcases h.s q hq with h | ⟨L', hL', h⟩
      · exact .inl h
      · exact .inr ⟨L', by simp [hL'], h⟩
    · rcases h5 q hq with h | h
      · exact .inl h
      · exact .inr ⟨L, by simp, h⟩
  · rw [addRaw_len]
    have : (allS R (rowL L)).length ≤ (R ++ rowL L).length := by
      unfold allS; exact Nat.le_trans sortR_len (by rw [List.length_map]; exact Nat.le_refl _)
    rw [List.length_append] at this
    have := h.len
    simp only [List.length_append, List.length_cons, List.length_nil]
    omega
theorem rg_norm {Ls : List Ly} {R : List Pc} (h : Rg Ls R) : Rg Ls (normR R) :=
  ⟨normR_rw h.rw, normR_steady h.rw.asc h.st, fun x x0 => by rw [(normR_val h.rw.asc).1]; exact h.val x x0, fun x x0 => by rw [normR_sl h.rw.asc]; exact h.sl x x0, fun p hp => h.s p ((normR_sub _).subset hp), Nat.le_trans (normR_sub _).length_le h.len⟩
theorem rg_nil : Rg [] [⟨0, 0, 0⟩] := by
  refine ⟨⟨one_asc, by simp, fun p hp => by simp at hp; subst hp; rfl⟩, one_steady, fun x x0 => ?_, fun x x0 => ?_, fun p hp => by simp at hp; subst hp; exact .inl rfl, by simp⟩
  · have e : ([(⟨0, 0, 0⟩ : Pc)]) = [] ++ [⟨0, 0, 0⟩] := rfl
    rw [e, valAt_snoc, if_neg (show ¬ x < (⟨0, 0, 0⟩ : Pc).s by show ¬ x < 0; grind)]
    have : borneR [] x = 0 := rfl
    rw [this]
    unfold Pc.at; simp only; grind
  · have e : ([(⟨0, 0, 0⟩ : Pc)]) = [] ++ [⟨0, 0, 0⟩] := rfl
    rw [e, slAt_snoc, if_neg (show ¬ x < (⟨0, 0, 0⟩ : Pc).s by show ¬ x < 0; grind)]
    rfl
theorem rg_rows {Ls : List Ly} : (∀ L ∈ Ls, SzL L) → Rg Ls (rowsL Ls) := by
  induction Ls using snoc_ind with
  | h0 => intro _; exact rg_nil
  | hs l L ih =>
    intro h
    rw [rowsL_snoc]
    exact rg_norm (rg_raw (ih fun L hL => h L (by simp [hL])) (h L (by simp)))
theorem rch_q {L : Ly} {x : Rat} (h : LyOk L) (hx : Qn 2 30 x) : Qn 2 30 (L.rch x) := by
  unfold Ly.rch
  split
  · rename_i c
    refine Qn.sub (by decide) ?_ (h.b.mono (by decide)) (Rat.le_of_lt c)
    unfold Ly.top
    cases he : L.e with
    | none => exact hx
    | some t =>
      simp only
      split
      · exact (h.e t he).2
      · exact hx
  · exact Qn.zero
theorem pt_q {L : Ly} {x : Rat} (h : LyOk L) : Qn 4 4 (L.pt x) := by
  unfold Ly.pt
  split
  · exact h.p
  · exact Qn.zero
theorem borne_q {Ls : List Ly} {x : Rat} (hx : Qn 2 30 x) : (∀ L ∈ Ls, LyOk L) → Qn 8 (120 * Ls.length) (borneR Ls x) := by
  induction Ls using snoc_ind with
  | h0 => intro _; exact Qn.zero
  | hs l L ih =>
    intro h
    rw [borne_snoc]
    have h1 := ih fun L hL => h L (by simp [hL])
    have h2 := (h L (by simp)).p.mul (rch_q (h L (by simp)) hx)
    exact (h1.add h2).mono (by simp; omega)
theorem parts_q {Ls : List Ly} {x : Rat} : (∀ L ∈ Ls, LyOk L) → Qn 4 (4 * Ls.length) (partsR Ls x) := by
  induction Ls using snoc_ind with
  | h0 => intro _; exact Qn.zero
  | hs l L ih =>
    intro h
    rw [parts_snoc]
    exact ((ih fun L hL => h L (by simp [hL])).add (pt_q (h L (by simp)))).mono (by simp; omega)
theorem val_of_start {R : List Pc} {p : Pc} (as : Asc R) (hp : p ∈ R) : p.v = valAt R p.s ∧ p.k = slAt R p.s := by
  have h := pieceAt_start as hp
  rw [valAt_of h, slAt_of h, at_s]
  exact ⟨rfl, rfl⟩
theorem start_q {Ls : List Ly} {x : Rat} (h : ∀ L ∈ Ls, LyOk L) (hx : x = 0 ∨ ∃ L ∈ Ls, x = L.b ∨ L.e = some x) : Qn 2 30 x := by
  rcases hx with rfl | ⟨L, hL, rfl | e⟩
  · exact Qn.zero
  · exact (h L hL).b.mono (by decide)
  · exact ((h L hL).e _ e).2
theorem rg_sz {Ls : List Ly} {R : List Pc} (h : LysOk Ls) (hR : Rg Ls R) : ∀ p ∈ R, SzR 6 p.s ∧ SzR 10 p.v ∧ SzR 6 p.k := by
  intro p hp
  have q := start_q h.ok (hR.s p hp)
  obtain ⟨e1, e2⟩ := val_of_start hR.rw.asc hp
  have n0 := q.nn (by decide)
  have := h.len
  refine ⟨q.sz (by decide) (by decide) (by decide), ?_, ?_⟩
  · rw [e1, hR.val _ n0]
    exact ((borne_q q h.ok).mono (by omega : _ ≤ 600)).sz (by decide) (by decide) (by decide)
  · rw [e2, hR.sl _ n0]
    exact ((parts_q h.ok).mono (by omega : _ ≤ 20)).sz (by decide) (by decide) (by decide)
theorem rw_line {v k : Rat} : Rw [⟨0, v, k⟩] := ⟨one_asc, by simp, fun p hp => by simp at hp; subst hp; rfl⟩
theorem line_val {v k x : Rat} (h : 0 ≤ x) : valAt [⟨0, v, k⟩] x = v + k * x ∧ slAt [⟨0, v, k⟩] x = k := by
  have e : ([(⟨0, v, k⟩ : Pc)]) = [] ++ [⟨0, v, k⟩] := rfl
  rw [e, valAt_snoc, slAt_snoc, if_neg (show ¬ x < (⟨0, v, k⟩ : Pc).s by show ¬ x < 0; grind), if_neg (show ¬ x < (⟨0, v, k⟩ : Pc).s by show ¬ x < 0; grind)]
  refine ⟨?_, rfl⟩
  unfold Pc.at; simp only; grind
/-! ### where too much is borne -/
def edgL (L : Ly) : List Rat := match L.e with
  | none => [L.b]
  | some t => [L.b, t]
def edgesR (Ls : List Ly) : List Rat := sortR (0 :: Ls.flatMap edgL)
def ftm (Ls : List Ly) : Option Rat := (edgesR Ls).find? fun x => decide (1 < partsR Ls x)
theorem edg_mem {L : Ly} {x : Rat} : x ∈ edgL L ↔ x = L.b ∨ L.e = some x := by
  unfold edgL
  cases L.e with
  | none => simp
  | some t => simp; exact ⟨fun h => h.imp id fun e => e.symm, fun h => h.imp id fun e => e.symm⟩
theorem edges_mem {Ls : List Ly} {x : Rat} : x ∈ edgesR Ls ↔ x = 0 ∨ ∃ L ∈ Ls, x = L.b ∨ L.e = some x := by
  unfold edgesR
  rw [sortR_mem, List.mem_cons, List.mem_flatMap]
  refine or_congr Iff.rfl ⟨?_, ?_⟩
  · rintro ⟨L, h1, h2⟩; exact ⟨L, h1, edg_mem.mp h2⟩
  · rintro ⟨L, h1, h2⟩; exact ⟨L, h1, edg_mem.mpr h2⟩
theorem edges_nn {Ls : List Ly} (h : ∀ L ∈ Ls, SzL L) {x : Rat} (hx : x ∈ edgesR Ls) : 0 ≤ x := by
  rcases edges_mem.mp hx with rfl | ⟨L, hL, rfl | e⟩
  · exact Rat.le_refl
  · exact (h L hL).b0
  · have := ((h L hL).e x e).1; have := (h L hL).b0; grind
theorem find_asc {l : List Rat} {f : Rat → Bool} {x : Rat} : AscR l → l.find? f = some x → f x = true ∧ x ∈ l ∧ ∀ y ∈ l, y < x → f y = false := by
  intro as h
  obtain ⟨h1, a, b, h2, h3⟩ := List.find?_eq_some_iff_append.mp h
  refine ⟨h1, by rw [h2]; simp, fun y hy hlt => ?_⟩
  rw [h2] at hy
  rcases List.mem_append.mp hy with hy | hy
  · have := h3 y hy; simpa using this
  · exfalso
    rw [h2] at as
    rcases List.mem_cons.mp hy with e | hy
    · grind
    · have := (List.pairwise_cons.mp (List.pairwise_append.mp as).2.1).1 y hy
      grind
/-- the first piece that falls begins where first too much is borne -/
theorem qn_div {d B : Nat} {m n c : Int} (hc : 0 < c) (h : m * d = n * c) (n0 : 0 ≤ n) (nB : n ≤ B) : Qn d B (Rat.divInt m c) := by
  refine ⟨n.toNat, ?_, by omega⟩
  have e : ((n.toNat : Int)) = n := by omega
  rw [e, Rat.divInt_eq_div, Rat.div_def]
  have cn : ((c : Int) : Rat) ≠ 0 := by
    intro z
    have : ((c : Int) : Rat) = ((0 : Int) : Rat) := z
    have := Rat.intCast_inj.mp this
    omega
  have i1 := Rat.mul_inv_cancel _ cn
  have h2 : ((m : Int) : Rat) * ((d : Int) : Rat) = ((n : Int) : Rat) * ((c : Int) : Rat) := by
    rw [← Rat.intCast_mul, ← Rat.intCast_mul, h]
  have h3 : (m : Rat) * (c : Rat)⁻¹ * ((d : Int) : Rat) = (m : Rat) * ((d : Int) : Rat) * (c : Rat)⁻¹ := by grind
  rw [h3, h2, Rat.mul_assoc, i1, Rat.mul_one]
theorem rch_sz {L : Ly} {n : Nat} {x : Rat} (h : SzL L) (hx : SzR n x) (hn : 8 ≤ n) : SzR n (L.top x) ∧ SzR (n + 9) (L.top x - L.b) ∧ SzR (n + 9) (L.rch x) ∧ SzR (n + 21) (L.p * L.rch x) ∧ SzR (n + 21) (L.p * (L.top x - L.b)) := by
  have h1 : SzR n (L.top x) := by
    unfold Ly.top
    cases he : L.e with
    | none => exact hx
    | some t =>
      simp only
      split
      · exact ((h.e t he).2).mono hn
      · exact hx
  have h2 : SzR (n + 9) (L.top x - L.b) := h1.subw h.b (by omega)
  have h3 : SzR (n + 9) (L.rch x) := by
    unfold Ly.rch
    split
    · exact h2
    · exact SzR.zero.mono (by omega)
  exact ⟨h1, h2, h3, h.p.mul h3 (by omega), h.p.mul h2 (by omega)⟩
theorem borne_parts {Ls : List Ly} {n : Nat} {x : Rat} (h : LysW Ls) (hx : SzR n x) (hn : 8 ≤ n) : (∀ r ∈ Ls.map (fun L => L.p * L.rch x), SzR (n + 21) r) ∧ ∀ i, SzR ((n + 22) * 5 + 1) (sumR ((Ls.map fun L => L.p * L.rch x).take i)) := by
  have h1 : ∀ r ∈ Ls.map (fun L => L.p * L.rch x), SzR (n + 21) r := fun r hr => by
    obtain ⟨L, hL, rfl⟩ := List.mem_map.mp hr
    exact (rch_sz (h.ok L hL) hx hn).2.2.2.1
  exact ⟨h1, szR_part (n := 5) h1 (by rw [List.length_map]; exact h.len) (Nat.le_refl _)⟩
theorem borne_sz {Ls : List Ly} {n : Nat} {x : Rat} (h : LysW Ls) (hx : SzR n x) (hn : 8 ≤ n) : SzR ((n + 22) * 5 + 1) (borneR Ls x) := by
  have := (borne_parts h hx hn).2 (Ls.map fun L => L.p * L.rch x).length
  rw [List.take_length] at this
  exact this
theorem lys_get {Ls : List Ly} {i : Nat} {d : D} (h : (Ls.map lyD)[i]? = some d) : ∃ L, d = lyD L ∧ Ls[i]? = some L := by
  rw [List.getElem?_map, Option.map_eq_some_iff] at h
  obtain ⟨L, h1, rfl⟩ := h
  exact ⟨L, rfl, h1⟩
def sp_reached : List D → Mem → K1 → Prop := fun ds M q => ∃ L x, ds = [lyD L, rat x] ∧ SzL L ∧ SzR 100 x ∧ q (rat (L.rch x)) M
def sp_borne : List D → Mem → K1 → Prop := fun ds M q => ∃ Ls x, ds = [lysD Ls, rat x] ∧ LysW Ls ∧ SzR 100 x ∧ q (rat (borneR Ls x)) M
def sp_layer_row : List D → Mem → K1 → Prop := fun ds M q => ∃ L, ds = [lyD L] ∧ SzL L ∧ q (rowD (rowL L)) M
def sp_row_of : List D → Mem → K1 → Prop := fun ds M q => ∃ Ls, ds = [lysD Ls] ∧ LysOk Ls ∧ q (rowD (rowsL Ls)) M
def sp_edges_of : List D → Mem → K1 → Prop := fun ds M q => ∃ Ls, ds = [lysD Ls] ∧ LysW Ls ∧ ∀ a, M a = Option.none → q (.lst a) (M.up a ((edgesR Ls).map rat))
def sp_parts_at : List D → Mem → K1 → Prop := fun ds M q => ∃ Ls x, ds = [lysD Ls, rat x] ∧ LysW Ls ∧ SzR 100 x ∧ ∀ a, M a = Option.none → q (.lst a) (M.up a ((Ls.map fun L => L.pt x).map rat))
def sp_first_too_much : List D → Mem → K1 → Prop := fun ds M q => ∃ Ls, ds = [lysD Ls] ∧ LysW Ls ∧ q (optD (ftm Ls)) M
def sp_law_layers : List D → Mem → K1 → Prop := fun ds M q => ∃ b c many, ds = [.lst b, .int many] ∧ 0 ≤ many ∧ many ≤ 5 ∧ BoxAt M b c ∧ ∀ Ls M', LysOk Ls → BoxAt M' b c → Fr b c M M' → q (lysD Ls) M'
def sp_law_borne := sp_borne
def sp_law_edges := sp_edges_of
end TB

namespace TB
open PySem PySem.Spec PyProof.Rows L2
/-! Eng4: couples -/
/-- rows of bounded size -/
structure RwN (n : Nat) (R : List Pc) : Prop where
  rw : Rw R
  len : R.length ≤ 60
  sz : ∀ p ∈ R, SzR n p.s ∧ SzR n p.v ∧ SzR n p.k
theorem RwN.w {n : Nat} {R : List Pc} (h : RwN n R) (hn : n ≤ 300) : RwW R := ⟨h.rw, h.len, fun p hp => ⟨(h.sz p hp).1.mono (by omega), (h.sz p hp).2.1.mono (by omega), (h.sz p hp).2.2.mono hn⟩⟩
theorem RwN.mono {m n : Nat} {R : List Pc} (h : RwN m R) (hn : m ≤ n) : RwN n R := ⟨h.rw, h.len, fun p hp => ⟨(h.sz p hp).1.mono hn, (h.sz p hp).2.1.mono hn, (h.sz p hp).2.2.mono hn⟩⟩
theorem RwN.norm {n : Nat} {R : List Pc} (h : RwN n R) : RwN n (normR R) := ⟨normR_rw h.rw, Nat.le_trans (normR_sub R).length_le h.len, fun p hp => h.sz p ((normR_sub R).subset hp)⟩
theorem GR.n {R : List Pc} (h : GR R) : RwN 20 R := ⟨h.rw, Nat.le_trans h.len (by decide), fun p hp => ⟨(h.sz p hp).s.mono (by omega), (h.sz p hp).v, (h.sz p hp).k.mono (by omega)⟩⟩
theorem RwN.val {n m : Nat} {R : List Pc} (h : RwN n R) {x : Rat} (x0 : 0 ≤ x) (hx : SzR m x) : ∃ p, pieceAt R x = some p ∧ p ∈ R ∧ valAt R x = p.at x ∧ SzR (m + 3 * n + 2) (valAt R x) := by
  obtain ⟨p, hp, hpR, _⟩ := h.rw.at_ex x0
  have e := valAt_of hp
  obtain ⟨s1, s2, s3⟩ := h.sz p hpR
  refine ⟨p, hp, hpR, e, ?_⟩
  rw [e]
  have h1 : SzR (m + n + 1) (x - p.s) := hx.subw s1 (by omega)
  have h2 : SzR (m + 2 * n + 1) (p.k * (x - p.s)) := s3.mul h1 (by omega)
  exact s2.addw h2 (by omega)
def apR (R : List Pc) (x y : Rat) : Rat := valAt R x + valAt R y
def lsR (R J : List Pc) (x y : Rat) : Rat := valAt J (x + y) - apR R x y
def splR (R : List Pc) : List Pc := normR (scl 2 R)
def cpl (x y : Rat) : Rat × Rat := if y < x then (y, x) else (x, y)
def cplD (p : Rat × Rat) : D := .tup [rat p.1, rat p.2]
def incB (d : D) : Bool := isRat d && !decide (toR d < 0)
def cplB : D → Bool
  | .tup [a, b] => incB a && (incB b && !decide (toR b < toR a))
  | _ => false
def xyOf : D → Rat × Rat
  | .tup [a, b] => (toR a, toR b)
  | _ => (0, 0)
def partsB (R : List Pc) : D → Bool
  | .tup [p, q] => cplB p && (cplB q && (decide ((xyOf p).1 + (xyOf p).2 = (xyOf q).1 + (xyOf q).2) && !decide (apR R (xyOf p).1 (xyOf p).2 = apR R (xyOf q).1 (xyOf q).2)))
  | _ => false
theorem apR_sz {n m k : Nat} {R : List Pc} {x y : Rat} (h : RwN n R) (x0 : 0 ≤ x) (y0 : 0 ≤ y) (hx : SzR m x) (hy : SzR m y) (e : 2 * (m + 3 * n + 2) + 1 ≤ k) : SzR k (apR R x y) := by
  obtain ⟨_, _, _, _, s1⟩ := h.val x0 hx
  obtain ⟨_, _, _, _, s2⟩ := h.val y0 hy
  exact s1.add s2 e
theorem scl2_n {R : List Pc} (h : RwN 90 R) : RwN 93 (scl 2 R) := by
  have s2 : SzR 2 (2 : Rat) := two_sz
  refine ⟨scl_rw (by decide +kernel) h.rw, by unfold scl; rw [List.length_map]; exact h.len, fun p hp => ?_⟩
  unfold scl at hp
  obtain ⟨q, hq, rfl⟩ := List.mem_map.mp hp
  obtain ⟨a, b, c⟩ := h.sz q hq
  exact ⟨a.mul s2 (by omega), b.mul s2 (by omega), c.mono (by omega)⟩
theorem spl_n {R : List Pc} (h : RwN 90 R) : RwN 93 (splR R) := (scl2_n h).norm
theorem spl_val {R : List Pc} (h : Rw R) (z : Rat) : valAt (splR R) z = 2 * valAt R (z * halfR) := by
  have r2 := scl_rw (p := 2) (by decide +kernel) h
  unfold splR
  rw [(normR_val r2.asc).1]
  have e : z = z * halfR * 2 := by have := half2; grind
  conv => lhs; rw [e]
  rw [scl_val (by decide +kernel)]
  grind
theorem cplB_all {a b : D} : cplB (.tup [a, b]) = (([a, b].all incB) && !decide (toR b < toR a)) := by
  show (incB a && (incB b && !decide (toR b < toR a))) = _
  simp [Bool.and_assoc]
theorem cplB_len {es : List D} (h : es.length ≠ 2) : cplB (.tup es) = false := by
  match es, h with
  | [], _ => rfl
  | [_], _ => rfl
  | [_, _], h => exact (h rfl).elim
  | _ :: _ :: _ :: _, _ => rfl
theorem incB_rat {n L k : Nat} {d : D} (hd : fD false n L k d = true) (h : incB d = true) : ∃ x, d = rat x ∧ toR d = x ∧ SzR n x ∧ 0 ≤ x := by
  unfold incB at h
  rw [Bool.and_eq_true] at h
  obtain ⟨x, rfl, ex, sx⟩ := part_isRat hd h.1
  have := h.2
  rw [ex] at this
  simp at this
  exact ⟨x, rfl, ex, sx, by grind⟩
/-! promises -/
def sp_apart : List D → Mem → K1 → Prop := fun ds M q => ∃ R x y, ds = [rowD R, rat x, rat y] ∧ RwN 100 R ∧ 0 ≤ x ∧ 0 ≤ y ∧ SzR 300 x ∧ SzR 300 y ∧ q (rat (apR R x y)) M
def sp_law_apart := sp_apart
def sp_together : List D → Mem → K1 → Prop := fun ds M q => ∃ J x y, ds = [rowD J, rat x, rat y] ∧ RwN 100 J ∧ 0 ≤ x ∧ 0 ≤ y ∧ SzR 300 x ∧ SzR 300 y ∧ q (rat (valAt J (x + y))) M
def sp_lost : List D → Mem → K1 → Prop := fun ds M q => ∃ R J x y, ds = [rowD R, rowD J, rat x, rat y] ∧ RwN 100 R ∧ RwN 100 J ∧ 0 ≤ x ∧ 0 ≤ y ∧ SzR 300 x ∧ SzR 300 y ∧ q (rat (lsR R J x y)) M
def sp_split_row : List D → Mem → K1 → Prop := fun ds M q => ∃ R, ds = [rowD R] ∧ RwN 90 R ∧ q (rowD (splR R)) M
def sp_couple_of : List D → Mem → K1 → Prop := fun ds M q => ∃ x y, ds = [rat x, rat y] ∧ SzR 4000 x ∧ SzR 4000 y ∧ q (cplD (cpl x y)) M
def sp_share_kept : List D → Mem → K1 → Prop := fun ds M q => ∃ R x y, ds = [rowD R, rat x, rat y] ∧ RwN 100 R ∧ 0 ≤ x ∧ 0 ≤ y ∧ SzR 300 x ∧ SzR 300 y ∧ q (rat (if x + y = 0 then 0 else apR R x y / (x + y))) M
def sp_is_pieceF : List D → Mem → K1 → Prop := fun ds M q => ∃ v n L k, ds = [.tup [rat 0, v, rat 0]] ∧ fD false n L k v = true ∧ q (.bl (isRat v)) M
def sp_is_row1 : List D → Mem → K1 → Prop := fun ds M q => ∃ v n L k, ds = [.tup [.tup [rat 0, v, rat 0]]] ∧ fD false n L k v = true ∧ q (.bl (isRat v)) M
def sp_is_earned : List D → Mem → K1 → Prop := fun ds M q => ∃ d n L k, ds = [d] ∧ fD false n L k d = true ∧ n ≤ 3900 ∧ q (.bl (incB d)) M
def sp_is_couple : List D → Mem → K1 → Prop := fun ds M q => ∃ d n L k, ds = [d] ∧ fD false n L k d = true ∧ n ≤ 3900 ∧ q (.bl (cplB d)) M
def sp_law_is_income := sp_is_earned
def sp_law_is_couple := sp_is_couple
def sp_law_is_ratioF : List D → Mem → K1 → Prop := fun ds M q => ∃ d n L k, ds = [d] ∧ fD false n L k d = true ∧ n ≤ 3900 ∧ q (.bl (isRat d)) M
def sp_law_bentB (k : Nat) : List D → Mem → K1 → Prop := fun ds M q => k ≠ 0 ∧ ∃ b c d n L, ds = [.lst b, d] ∧ BoxAt M b c ∧ fB n L (k - 1) d = true ∧ 1 ≤ n ∧ n ≤ 1900 ∧ 2 ≤ L ∧ L ≤ 1000 ∧
  ∀ e M', fD false (n + 12) (L + 1) (k + 1) e = true → BoxAt M' b c → Fr b c M M' → q e M'
theorem sp_law_bentB_eq {k : Nat} {b : Addr} {d : D} {M : Mem} {q : K1} : sp_law_bentB (k + 1) [.lst b, d] M q = ∃ c n L, BoxAt M b c ∧ fB n L k d = true ∧ 1 ≤ n ∧ n ≤ 1900 ∧ 2 ≤ L ∧ L ≤ 1000 ∧
  ∀ e M', fD false (n + 12) (L + 1) (k + 2) e = true → BoxAt M' b c → Fr b c M M' → q e M' :=
  propext ⟨fun ⟨_, _, c, _, n, L, e, h⟩ => by cases e; exact ⟨c, n, L, h⟩, fun ⟨c, n, L, h⟩ => ⟨Nat.succ_ne_zero _, b, c, d, n, L, rfl, h⟩⟩
end TB

namespace TB
open PySem PySem.Spec PyProof.Rows L2
/-! Eng5: corners of couples -/
def ltC (a b : Rat × Rat) : Prop := a.1 < b.1 ∨ (a.1 = b.1 ∧ a.2 < b.2)
instance : DecidableRel ltC := fun a b => by unfold ltC; infer_instance
theorem ltC_irr {a : Rat × Rat} : ¬ ltC a a := by unfold ltC; grind
theorem ltC_tr {a b c : Rat × Rat} (h1 : ltC a b) (h2 : ltC b c) : ltC a c := by unfold ltC at *; grind
theorem ltC_ne {a b : Rat × Rat} (h : ltC a b) : a ≠ b := fun e => ltC_irr (e ▸ h)
theorem ltC_tri (a b : Rat × Rat) : ltC a b ∨ a = b ∨ ltC b a := by
  unfold ltC
  obtain ⟨a1, a2⟩ := a
  obtain ⟨b1, b2⟩ := b
  simp only [Prod.mk.injEq]
  grind
/-! ascending couples -/
def insC (F : List (Rat × Rat)) (r : Rat × Rat) : List (Rat × Rat) :=
  let n := (F.filter fun o => decide (ltC o r)).length
  if n = F.length ∨ F[n]? ≠ some r then F.take n ++ [r] ++ F.drop n else F
def sortC (l : List (Rat × Rat)) : List (Rat × Rat) := l.foldl insC []
abbrev AscC (l : List (Rat × Rat)) : Prop := l.Pairwise ltC
theorem filtC_take : ∀ {F : List (Rat × Rat)} {r : Rat × Rat}, AscC F → F.filter (fun o => decide (ltC o r)) = F.take (F.filter fun o => decide (ltC o r)).length
  | [], r, _ => rfl
  | a :: F, r, h => by
    obtain ⟨h1, h2⟩ := List.pairwise_cons.mp h
    by_cases c : ltC a r
    · rw [List.filter_cons, if_pos (by simpa using c), List.length_cons, List.take_succ_cons]
      congr 1
      exact filtC_take h2
    · have e : F.filter (fun o => decide (ltC o r)) = [] := by
        rw [List.filter_eq_nil_iff]
        intro b hb
        have := h1 b hb
        have : ¬ ltC b r := by grind [→ ltC_tr, ltC_irr, → ltC_ne, ltC_tri]
        simp [this]
      rw [List.filter_cons, if_neg (by simpa using c), e]
      rfl
theorem insC_lt {F : List (Rat × Rat)} {r x : Rat × Rat} (h : AscC F) (hx : x ∈ F.take (F.filter fun o => decide (ltC o r)).length) : ltC x r := by
  rw [← filtC_take h] at hx
  simpa using (List.mem_filter.mp hx).2
theorem insC_ge {F : List (Rat × Rat)} {r x : Rat × Rat} (h : AscC F) (hx : x ∈ F.drop (F.filter fun o => decide (ltC o r)).length) : ¬ ltC x r := by
  by_cases c : ltC x r
  · exfalso
    have hF : x ∈ F := List.mem_of_mem_drop hx
    have h1 : x ∈ F.filter fun o => decide (ltC o r) := List.mem_filter.mpr ⟨hF, by simpa using c⟩
    rw [filtC_take h] at h1
    have := (List.pairwise_append.mp ((List.take_append_drop (F.filter fun o => decide (ltC o r)).length F).symm ▸ h : AscC (F.take _ ++ F.drop _))).2.2 x h1 x hx
    grind [→ ltC_tr, ltC_irr, → ltC_ne, ltC_tri]
  · grind [→ ltC_tr, ltC_irr, → ltC_ne, ltC_tri]
theorem insC_asc {F : List (Rat × Rat)} {r : Rat × Rat} (h : AscC F) : AscC (insC F r) := by
  unfold insC
  simp only
  generalize hn : (F.filter fun o => decide (ltC o r)).length = n
  by_cases c : n = F.length ∨ F[n]? ≠ some r
  · rw [if_pos c]
    have hF : AscC (F.take n ++ F.drop n) := by rw [List.take_append_drop]; exact h
    obtain ⟨h1, h2, h3⟩ := List.pairwise_append.mp hF
    have lt : ∀ x ∈ F.take n, ltC x r := fun x hx => by subst hn; exact insC_lt h hx
    have gt : ∀ x ∈ F.drop n, ltC r x := fun x hx => by
      have ge : ¬ ltC x r := by subst hn; exact insC_ge h hx
      have ne : x ≠ r := fun e => by
        subst e
        rcases c with c | c
        · rw [c, List.drop_length] at hx; simp at hx
        · have hl : n < F.length := by
            by_cases z : n < F.length
            · exact z
            · rw [List.drop_eq_nil_of_le (by omega)] at hx; simp at hx
          rw [List.drop_eq_getElem_cons hl] at hx h2
          rcases List.mem_cons.mp hx with e | hx'
          · exact c (by rw [e]; simp [hl])
          · have h4 := (List.pairwise_cons.mp h2).1 x hx'
            have h5 : ¬ ltC F[n] x := by
              have : F[n] ∈ F.drop n := List.mem_iff_getElem.mpr ⟨0, by simp; omega, by simp⟩
              subst hn
              exact insC_ge h this
            grind [→ ltC_tr, ltC_irr, → ltC_ne, ltC_tri]
      grind [→ ltC_tr, ltC_irr, → ltC_ne, ltC_tri]
    unfold AscC
    rw [List.append_assoc, List.pairwise_append]
    refine ⟨h1, ?_, fun a ha b hb => ?_⟩
    · rw [List.singleton_append, List.pairwise_cons]
      exact ⟨gt, h2⟩
    · rcases List.mem_append.mp hb with hb | hb
      · simp at hb; subst hb; exact lt a ha
      · exact h3 a ha b hb
  · rw [if_neg c]; exact h
theorem insC_mem {F : List (Rat × Rat)} {r x : Rat × Rat} : x ∈ insC F r ↔ x ∈ F ∨ x = r := by
  unfold insC
  simp only
  generalize (F.filter fun o => decide (ltC o r)).length = n
  by_cases c : n = F.length ∨ F[n]? ≠ some r
  · rw [if_pos c]
    have : x ∈ F ↔ x ∈ F.take n ∨ x ∈ F.drop n := by rw [← List.mem_append, List.take_append_drop]
    rw [this]
    simp only [List.mem_append, List.mem_singleton]
    grind [→ ltC_tr, ltC_irr, → ltC_ne, ltC_tri]
  · rw [if_neg c]
    simp only [not_or, Classical.not_not] at c
    have : r ∈ F := List.mem_of_getElem? c.2
    grind [→ ltC_tr, ltC_irr, → ltC_ne, ltC_tri]
theorem foldl_insC : ∀ (l F : List (Rat × Rat)), AscC F → AscC (l.foldl insC F) ∧ (∀ x, x ∈ l.foldl insC F ↔ x ∈ F ∨ x ∈ l)
  | [], F, h => ⟨h, fun x => by simp⟩
  | a :: l, F, h => by
    obtain ⟨h1, h2⟩ := foldl_insC l (insC F a) (insC_asc h)
    refine ⟨h1, fun x => ?_⟩
    rw [List.foldl_cons, h2, insC_mem, List.mem_cons]
    grind [→ ltC_tr, ltC_irr, → ltC_ne, ltC_tri]
theorem sortC_asc {l : List (Rat × Rat)} : AscC (sortC l) := (foldl_insC l [] (by simp)).1
theorem sortC_mem {l : List (Rat × Rat)} {x : Rat × Rat} : x ∈ sortC l ↔ x ∈ l := by
  have := (foldl_insC l [] (by simp)).2 x
  unfold sortC
  simpa using this
theorem insC_len {F : List (Rat × Rat)} {r : Rat × Rat} : (insC F r).length ≤ F.length + 1 := by
  unfold insC
  simp only
  generalize (F.filter fun o => decide (ltC o r)).length = n
  split
  · simp [List.length_take, List.length_drop]; omega
  · omega
theorem foldl_insC_len : ∀ (l F : List (Rat × Rat)), (l.foldl insC F).length ≤ F.length + l.length
  | [], F => by simp
  | a :: l, F => by
    have := foldl_insC_len l (insC F a)
    have := @insC_len F a
    rw [List.foldl_cons, List.length_cons]
    omega
theorem sortC_len {l : List (Rat × Rat)} : (sortC l).length ≤ l.length := by
  have := foldl_insC_len l []
  simpa [sortC] using this
theorem ascC_ext : ∀ {l m : List (Rat × Rat)}, AscC l → AscC m → (∀ x, x ∈ l ↔ x ∈ m) → l = m
  | [], [], _, _, _ => rfl
  | [], b :: m, _, _, h => by have := (h b).mpr (by simp); simp at this
  | a :: l, [], _, _, h => by have := (h a).mp (by simp); simp at this
  | a :: l, b :: m, hl, hm, h => by
    obtain ⟨l1, l2⟩ := List.pairwise_cons.mp hl
    obtain ⟨m1, m2⟩ := List.pairwise_cons.mp hm
    have e : a = b := by
      have h1 := (h a).mp (by simp)
      have h2 := (h b).mpr (by simp)
      rcases List.mem_cons.mp h1 with e | h1
      · exact e
      · rcases List.mem_cons.mp h2 with e | h2
        · exact e.symm
        · have := m1 a h1; have := l1 b h2; grind [→ ltC_tr, ltC_irr, → ltC_ne, ltC_tri]
    subst e
    congr 1
    refine ascC_ext l2 m2 fun x => ?_
    constructor
    · intro hx
      rcases List.mem_cons.mp ((h x).mp (by simp [hx])) with e | h1
      · have := l1 x hx; grind [→ ltC_tr, ltC_irr, → ltC_ne, ltC_tri]
      · exact h1
    · intro hx
      rcases List.mem_cons.mp ((h x).mpr (by simp [hx])) with e | h1
      · have := m1 x hx; grind [→ ltC_tr, ltC_irr, → ltC_ne, ltC_tri]
      · exact h1
/-! steady rows between their starts -/
theorem seg_lin {R : List Pc} (h : Rw R) (st : Steady R) {u v : Rat} (u0 : 0 ≤ u) (no : ∀ p ∈ R, ¬ (u < p.s ∧ p.s < v)) : ∃ a k : Rat, ∀ t, u ≤ t → t ≤ v → valAt R t = a + k * (t - u) := by
  obtain ⟨p, hp, hpR, hpu⟩ := h.at_ex u0
  obtain ⟨l, r, e, _, bl⟩ := pieceAt_split h.asc hp
  refine ⟨p.at u, p.k, fun t h1 h2 => ?_⟩
  have key : p.at t = p.at u + p.k * (t - u) := by unfold Pc.at; grind
  rw [← key]
  by_cases c : ∀ q ∈ R, q.s ≤ t → q.s ≤ u
  · rw [← pieceAt_same h1 c] at hp
    exact valAt_of hp
  · have ⟨q, hq, q1, q2⟩ : ∃ q ∈ R, q.s ≤ t ∧ ¬ q.s ≤ u := Classical.byContradiction fun hn => c fun q hq h1 => Classical.byContradiction fun h2 => hn ⟨q, hq, h1, h2⟩
    subst e
    have as := h.asc
    have hqr : q ∈ r := by
      rcases List.mem_append.mp hq with hq | hq
      · have := asc_left as hq; exact absurd hpu (by grind)
      · rcases List.mem_cons.mp hq with hq | hq
        · subst hq; exact absurd hpu q2
        · exact hq
    cases r with
    | nil => simp at hqr
    | cons b r =>
      have b1 : u < b.s := bl b.s rfl
      have b2 : b.s ≤ q.s := bd_le (l := l) (p := p) as hqr rfl
      have b3 := no b (by simp)
      have e : t = b.s := by grind
      subst e
      rw [valAt_of (pieceAt_start as (show b ∈ l ++ p :: b :: r by simp)), st l p b r rfl]
      unfold Pc.at; grind
theorem last_le {P : List Rat} {t a : Rat} (ha : a ∈ P) (h : a ≤ t) : ∃ u ∈ P, u ≤ t ∧ ∀ p ∈ P, p ≤ t → p ≤ u := by
  induction P generalizing a with
  | nil => simp at ha
  | cons b P ih =>
    by_cases c : ∃ x ∈ P, x ≤ t
    · obtain ⟨x, hx, hxt⟩ := c
      obtain ⟨u, hu, h1, h2⟩ := ih hx hxt
      by_cases d : b ≤ t ∧ u < b
      · exact ⟨b, by simp, d.1, fun p hp hpt => by
          rcases List.mem_cons.mp hp with rfl | hp
          · exact Rat.le_refl
          · have := h2 p hp hpt; grind⟩
      · exact ⟨u, by simp [hu], h1, fun p hp hpt => by
          rcases List.mem_cons.mp hp with rfl | hp
          · grind
          · exact h2 p hp hpt⟩
    · rcases List.mem_cons.mp ha with rfl | ha
      · exact ⟨a, by simp, h, fun p hp hpt => by
          rcases List.mem_cons.mp hp with rfl | hp
          · exact Rat.le_refl
          · exact absurd ⟨p, hp, hpt⟩ c⟩
      · exact absurd ⟨a, ha, h⟩ c
theorem next_ge {P : List Rat} {t a : Rat} (ha : a ∈ P) (h : t ≤ a) : ∃ u ∈ P, t ≤ u ∧ ∀ p ∈ P, t ≤ p → u ≤ p := by
  obtain ⟨u, hu, h1, h2⟩ := last_le (P := P.map fun x => -x) (t := -t) (a := -a) (List.mem_map.mpr ⟨a, ha, rfl⟩) (by grind)
  obtain ⟨w, hw, rfl⟩ := List.mem_map.mp hu
  exact ⟨w, hw, by grind, fun p hp hpt => by have := h2 (-p) (List.mem_map.mpr ⟨p, hp, rfl⟩) (by grind); grind⟩
theorem max1 {g : Rat → Rat} {P : List Rat} {a b t : Rat} (ha : a ∈ P) (hb : b ∈ P) (hat : a ≤ t) (htb : t ≤ b)
    (aff : ∀ u v, a ≤ u → u ≤ v → v ≤ b → (∀ p ∈ P, ¬ (u < p ∧ p < v)) → ∃ c k : Rat, ∀ s, u ≤ s → s ≤ v → g s = c + k * (s - u)) : ∃ p ∈ P, a ≤ p ∧ p ≤ b ∧ g t ≤ g p := by
  obtain ⟨u, hu, u1, u2⟩ := last_le ha hat
  obtain ⟨v, hv, v1, v2⟩ := next_ge hb htb
  have au := u2 a ha hat
  have vb := v2 b hb htb
  obtain ⟨c, k, h⟩ := aff u v au (by grind) vb fun p hp hc => by
    rcases Rat.le_total (a := p) (b := t) with h | h
    · have := u2 p hp h; grind
    · have := v2 p hp h; grind
  have hgt := h t u1 v1
  have hgu := h u Rat.le_refl (by grind)
  have hgv := h v (by grind) Rat.le_refl
  by_cases hk : 0 ≤ k
  · refine ⟨v, hv, by grind, vb, ?_⟩
    have := Rat.mul_nonneg hk (show 0 ≤ v - t by grind)
    grind
  · refine ⟨u, hu, au, by grind, ?_⟩
    have := Rat.mul_nonneg (show 0 ≤ -k by grind) (show 0 ≤ t - u by grind)
    grind
/-! corners -/
def isCor (R J : List Pc) (most x y : Rat) : Prop := (∃ p ∈ R, x = p.s) ∧ ((∃ q ∈ R, y = q.s) ∨ (∃ q ∈ J, x + y = q.s) ∨ x + y = most) ∧ 0 ≤ y ∧ x + y ≤ most
theorem ls_symm {R J : List Pc} {x y : Rat} : lsR R J x y = lsR R J y x := by unfold lsR apR; rw [Rat.add_comm x y]; grind
theorem ls_cpl {R J : List Pc} {x y : Rat} : lsR R J (cpl x y).1 (cpl x y).2 = lsR R J x y := by
  unfold cpl; split
  · exact ls_symm
  · rfl
structure Row2 (R : List Pc) : Prop where
  rw : Rw R
  st : Steady R
theorem Row2.z {R : List Pc} (h : Row2 R) : ∃ p ∈ R, p.s = 0 := h.rw.first
theorem lin_mul {g h : Rat → Rat} {u v c1 k1 c2 k2 : Rat} (h1 : ∀ s, u ≤ s → s ≤ v → g s = c1 + k1 * (s - u)) (h2 : ∀ s, u ≤ s → s ≤ v → h s = c2 + k2 * (s - u)) (A B D : Rat) :
    ∃ c k : Rat, ∀ s, u ≤ s → s ≤ v → D + A * g s + B * h s = c + k * (s - u) :=
  ⟨D + A * c1 + B * c2, A * k1 + B * k2, fun s a b => by rw [h1 s a b, h2 s a b]; grind⟩
/-- along a line of one sum -/
theorem cor1 {R : List Pc} (hR : Row2 R) (J : List Pc) (σ : Rat) {x y : Rat} (x0 : 0 ≤ x) (y0 : 0 ≤ y) : ∃ p ∈ R, p.s ≤ x + y ∧ σ * lsR R J x y ≤ σ * lsR R J p.s (x + y - p.s) := by
  obtain ⟨z, hz, z0⟩ := hR.z
  have key := max1 (g := fun t => σ * lsR R J t (x + y - t)) (P := R.map (·.s) ++ R.map fun p => x + y - p.s) (a := 0) (b := x + y) (t := x)
    (by simp; exact .inl ⟨z, hz, z0⟩) (by simp; exact .inr ⟨z, hz, by grind⟩) x0 (by grind) ?_
  · obtain ⟨p, hp, p1, p2, h⟩ := key
    have e1 : x + y - x = y := by grind
    simp only [e1] at h
    rcases List.mem_append.mp hp with hp | hp
    · obtain ⟨q, hq, rfl⟩ := List.mem_map.mp hp
      exact ⟨q, hq, p2, h⟩
    · obtain ⟨q, hq, rfl⟩ := List.mem_map.mp hp
      have e2 : x + y - (x + y - q.s) = q.s := by grind
      rw [e2, ls_symm (x := x + y - q.s)] at h
      exact ⟨q, hq, by grind, h⟩
  · intro u v u0 uv vb no
    obtain ⟨c1, k1, h1⟩ := seg_lin hR.rw hR.st (u := u) (v := v) u0 fun p hp hc => no p.s (by simp; exact .inl ⟨p, hp, rfl⟩) hc
    obtain ⟨c2, k2, h2⟩ := seg_lin hR.rw hR.st (u := x + y - v) (v := x + y - u) (by grind) fun p hp hc => no (x + y - p.s) (by simp; exact .inr ⟨p, hp, rfl⟩) ⟨by grind, by grind⟩
    have h3 : ∀ s, u ≤ s → s ≤ v → valAt R (x + y - s) = (c2 + k2 * (v - u)) + (-k2) * (s - u) := fun s a b => by
      rw [h2 (x + y - s) (by grind) (by grind)]; grind
    obtain ⟨c, k, h⟩ := lin_mul h1 h3 (-σ) (-σ) (σ * valAt J (x + y))
    refine ⟨c, k, fun s a b => ?_⟩
    rw [← h s a b]
    show σ * (valAt J (s + (x + y - s)) - (valAt R s + valAt R (x + y - s))) = _
    rw [show s + (x + y - s) = x + y by grind]
    grind
/-- along a line of one income -/
theorem cor2 {R J : List Pc} (hR : Row2 R) (hJ : Row2 J) (σ : Rat) {x y most : Rat} (x0 : 0 ≤ x) (y0 : 0 ≤ y) (hm : x + y ≤ most) : ∃ w, ((∃ q ∈ R, w = q.s) ∨ (∃ q ∈ J, x + w = q.s) ∨ x + w = most) ∧ 0 ≤ w ∧ x + w ≤ most ∧ σ * lsR R J x y ≤ σ * lsR R J x w := by
  obtain ⟨z, hz, z0⟩ := hR.z
  have key := max1 (g := fun t => σ * lsR R J x t) (P := R.map (·.s) ++ (J.map (fun q => q.s - x) ++ [most - x])) (a := 0) (b := most - x) (t := y)
    (by simp; exact .inl ⟨z, hz, z0⟩) (by simp) y0 (by grind) ?_
  · obtain ⟨w, hw, w0, w1, h⟩ := key
    refine ⟨w, ?_, w0, by grind, h⟩
    rcases List.mem_append.mp hw with hw | hw
    · obtain ⟨q, hq, rfl⟩ := List.mem_map.mp hw
      exact .inl ⟨q, hq, rfl⟩
    · rcases List.mem_append.mp hw with hw | hw
      · obtain ⟨q, hq, rfl⟩ := List.mem_map.mp hw
        exact .inr (.inl ⟨q, hq, by grind⟩)
      · simp at hw; exact .inr (.inr (by grind))
  · intro u v u0 uv vb no
    obtain ⟨c1, k1, h1⟩ := seg_lin hR.rw hR.st (u := u) (v := v) u0 fun p hp hc => no p.s (by simp; exact .inl ⟨p, hp, rfl⟩) hc
    obtain ⟨c2, k2, h2⟩ := seg_lin hJ.rw hJ.st (u := x + u) (v := x + v) (by grind) fun p hp hc => no (p.s - x) (by simp; exact .inr (.inl ⟨p, hp, rfl⟩)) ⟨by grind, by grind⟩
    have h3 : ∀ s, u ≤ s → s ≤ v → valAt J (x + s) = c2 + k2 * (s - u) := fun s a b => by
      rw [h2 (x + s) (by grind) (by grind)]; grind
    obtain ⟨c, k, h⟩ := lin_mul h1 h3 (-σ) σ (-σ * valAt R x)
    refine ⟨c, k, fun s a b => ?_⟩
    rw [← h s a b]
    show σ * (valAt J (x + s) - (valAt R x + valAt R s)) = _
    grind
theorem corner {R J : List Pc} (hR : Row2 R) (hJ : Row2 J) (σ : Rat) {x y most : Rat} (x0 : 0 ≤ x) (y0 : 0 ≤ y) (hm : x + y ≤ most) : ∃ x' y', isCor R J most x' y' ∧ σ * lsR R J x y ≤ σ * lsR R J x' y' := by
  obtain ⟨p, hp, h1, h2⟩ := cor1 hR J σ x0 y0
  have p0 := hR.rw.nonneg p hp
  obtain ⟨w, h3, h4, h5, h6⟩ := cor2 hR hJ σ (y := x + y - p.s) (most := most) p0 (by grind) (by grind)
  exact ⟨p.s, w, ⟨⟨p, hp, rfl⟩, h3, h4, h5⟩, Rat.le_trans h2 h6⟩
/-! all couples -/
def lastK (R : List Pc) : Rat := (R.getLast?.map (·.k)).getD 0
theorem past {R : List Pc} (h : Row2 R) {e t u : Rat} (he : ∀ p ∈ R, p.s ≤ e) (h1 : e ≤ u) (h2 : u ≤ t) : valAt R t = valAt R u + lastK R * (t - u) := by
  have hne := h.rw.ne
  have el : R = R.dropLast ++ [R.getLast hne] := (List.dropLast_concat_getLast hne).symm
  have ek : lastK R = (R.getLast hne).k := by unfold lastK; rw [List.getLast?_eq_some_getLast hne]; rfl
  have hs := he _ (List.getLast_mem hne)
  have key : ∀ x, e ≤ x → valAt R x = (R.getLast hne).at x := fun x hx => by
    have as := h.rw.asc
    rw [el] at as
    have := pieceAt_mid (l := R.dropLast) (r := []) (x := x) as (by grind) (fun u hu => by simp [bd] at hu)
    rw [← el] at this
    exact valAt_of this
  rw [ek, key t (by grind), key u h1]
  unfold Pc.at; grind
theorem ls_past {R J : List Pc} (hR : Row2 R) (hJ : Row2 J) {e x y z : Rat} (eR : ∀ p ∈ R, p.s ≤ e) (eJ : ∀ p ∈ J, p.s ≤ e) (x0 : 0 ≤ x) (h1 : e ≤ y) (h2 : y ≤ z) :
    lsR R J x z = lsR R J x y + (lastK J - lastK R) * (z - y) := by
  unfold lsR apR
  rw [past hR eR h1 h2, past hJ eJ (show e ≤ x + y by grind) (show x + y ≤ x + z by grind)]
  grind
theorem nobody {R J : List Pc} (hR : Row2 R) (hJ : Row2 J) {σ e : Rat} (e0 : 0 ≤ e) (eR : ∀ p ∈ R, p.s ≤ e) (eJ : ∀ p ∈ J, p.s ≤ e)
    (hc : ∀ x y, isCor R J (e + e) x y → σ * lsR R J x y ≤ 0) (hk : σ * (lastK J - lastK R) ≤ 0) {x y : Rat} (x0 : 0 ≤ x) (y0 : 0 ≤ y) : σ * lsR R J x y ≤ 0 := by
  have low : ∀ x y, 0 ≤ x → 0 ≤ y → x ≤ e → y ≤ e → σ * lsR R J x y ≤ 0 := fun x y x0 y0 h1 h2 => by
    obtain ⟨a, b, h3, h4⟩ := corner hR hJ σ x0 y0 (show x + y ≤ e + e by grind)
    exact Rat.le_trans h4 (hc a b h3)
  have step : ∀ x y, 0 ≤ x → e ≤ y → σ * lsR R J x y ≤ σ * lsR R J x e := fun x y x0 h1 => by
    rw [ls_past hR hJ eR eJ x0 Rat.le_refl h1]
    have := Rat.mul_nonneg (show 0 ≤ -(σ * (lastK J - lastK R)) by grind) (show 0 ≤ y - e by grind)
    grind
  have mid : ∀ x y, 0 ≤ x → 0 ≤ y → y ≤ e → σ * lsR R J x y ≤ 0 := fun x y x0 y0 h => by
    rcases Rat.le_total (a := x) (b := e) with h1 | h1
    · exact low x y x0 y0 h1 h
    · rw [ls_symm]
      exact Rat.le_trans (step y x y0 h1) (low y e y0 e0 h Rat.le_refl)
  rcases Rat.le_total (a := y) (b := e) with h1 | h1
  · exact mid x y x0 y0 h1
  · exact Rat.le_trans (step x y x0 h1) (mid x e x0 e0 Rat.le_refl)
/-! what the functions reckon -/
def foundR (N K : List Pc) (most : Rat) : List (Rat × Rat) :=
  N.flatMap fun p => (N.map fun q => cpl p.s q.s) ++ ((K.map (·.s) ++ [most]).filter (fun z => !decide (z < p.s))).map fun z => cpl p.s (z - p.s)
def corR (N K : List Pc) (most : Rat) : List (Rat × Rat) := sortC ((foundR N K most).filter fun c => !decide (most < c.1 + c.2))
theorem cpl_sum2 {x y : Rat} : (cpl x y).1 + (cpl x y).2 = x + y := by
  unfold cpl; split <;> simp only <;> grind
theorem corR_mem {N K : List Pc} (hN : Rw N) {most : Rat} {c : Rat × Rat} : c ∈ corR N K most ↔ ∃ x y, isCor N K most x y ∧ c = cpl x y := by
  unfold corR
  rw [sortC_mem, List.mem_filter]
  unfold foundR
  simp only [List.mem_flatMap, List.mem_append, List.mem_map, List.mem_filter, List.mem_singleton]
  constructor
  · rintro ⟨⟨p, hp, (⟨q, hq, rfl⟩ | ⟨z, ⟨hz, hzp⟩, rfl⟩)⟩, hm⟩
    · rw [cpl_sum2] at hm
      simp at hm
      exact ⟨p.s, q.s, ⟨⟨p, hp, rfl⟩, .inl ⟨q, hq, rfl⟩, hN.nonneg q hq, by grind⟩, rfl⟩
    · rw [cpl_sum2] at hm
      simp at hm hzp
      refine ⟨p.s, z - p.s, ⟨⟨p, hp, rfl⟩, ?_, by grind, by grind⟩, rfl⟩
      rcases hz with ⟨q, hq, rfl⟩ | rfl
      · exact .inr (.inl ⟨q, hq, by grind⟩)
      · exact .inr (.inr (by grind))
  · rintro ⟨x, y, ⟨⟨p, hp, rfl⟩, h, y0, hm⟩, rfl⟩
    refine ⟨⟨p, hp, ?_⟩, by rw [cpl_sum2]; simp; grind⟩
    rcases h with ⟨q, hq, rfl⟩ | ⟨q, hq, e⟩ | e
    · exact .inl ⟨q, hq, rfl⟩
    · refine .inr ⟨q.s, ⟨.inl ⟨q, hq, rfl⟩, by simp; grind⟩, ?_⟩
      rw [← e]; congr 1; grind
    · refine .inr ⟨most, ⟨.inr rfl, by simp; grind⟩, ?_⟩
      rw [← e]; congr 1; grind
theorem corR_ne {N K : List Pc} (hN : Rw N) {most : Rat} (m0 : 0 ≤ most) : corR N K most ≠ [] := fun e => by
  obtain ⟨z, hz, z0⟩ := hN.first
  have : cpl 0 0 ∈ corR N K most := (corR_mem hN).mpr ⟨0, 0, ⟨⟨z, hz, z0.symm⟩, .inl ⟨z, hz, z0.symm⟩, Rat.le_refl, by grind⟩, rfl⟩
  rw [e] at this
  simp at this
def bestR (f : Rat × Rat → Rat) (b : Option (Rat × (Rat × Rat))) (c : Rat × Rat) : Option (Rat × (Rat × Rat)) := match b with
  | none => some (f c, c)
  | some (v, d) => if v < f c then some (f c, c) else some (v, d)
def mostF (f : Rat × Rat → Rat) (cs : List (Rat × Rat)) : Option (Rat × (Rat × Rat)) := cs.foldl (bestR f) none
theorem mostF_snoc {f : Rat × Rat → Rat} {l : List (Rat × Rat)} {c : Rat × Rat} : mostF f (l ++ [c]) = bestR f (mostF f l) c := by unfold mostF; rw [List.foldl_append]; rfl
theorem mostF_spec {f : Rat × Rat → Rat} {cs : List (Rat × Rat)} : (mostF f cs = none ↔ cs = []) ∧ ∀ v c, mostF f cs = some (v, c) → c ∈ cs ∧ v = f c ∧ ∀ d ∈ cs, f d ≤ v := by
  induction cs using snoc_ind with
  | h0 => simp [mostF]
  | hs l z ih =>
    rw [mostF_snoc]
    obtain ⟨h1, h2⟩ := ih
    cases e : mostF f l with
    | none =>
      have := h1.mp e
      subst this
      refine ⟨by simp [bestR], fun v c h => ?_⟩
      simp [bestR] at h
      obtain ⟨rfl, rfl⟩ := h
      exact ⟨by simp, rfl, fun d hd => by simp at hd; subst hd; exact Rat.le_refl⟩
    | some vc =>
      obtain ⟨v0, c0⟩ := vc
      obtain ⟨h3, h4, h5⟩ := h2 v0 c0 e
      unfold bestR
      simp only
      by_cases k : v0 < f z
      · rw [if_pos k]
        refine ⟨by simp, fun v c h => ?_⟩
        simp at h
        obtain ⟨rfl, rfl⟩ := h
        refine ⟨by simp, rfl, fun d hd => ?_⟩
        rcases List.mem_append.mp hd with hd | hd
        · have := h5 d hd; grind
        · simp at hd; subst hd; exact Rat.le_refl
      · rw [if_neg k]
        refine ⟨by simp, fun v c h => ?_⟩
        simp at h
        obtain ⟨rfl, rfl⟩ := h
        refine ⟨by simp [h3], h4, fun d hd => ?_⟩
        rcases List.mem_append.mp hd with hd | hd
        · exact h5 d hd
        · simp at hd; subst hd; grind
def bndR (R J : List Pc) : List Rat := sortR ((normR R ++ normR J).map (·.s))
def endR (R J : List Pc) : Rat := (bndR R J).getLast?.getD 0
theorem endR_spec {R J : List Pc} (hR : Rw R) : (bndR R J).getLast? = some (endR R J) ∧ (∃ p ∈ normR R ++ normR J, endR R J = p.s) ∧ ∀ p ∈ normR R ++ normR J, p.s ≤ endR R J := by
  have ne : bndR R J ≠ [] := fun e => by
    obtain ⟨z, hz, _⟩ := (normR_rw hR).first
    have : z.s ∈ bndR R J := sortR_mem.mpr (List.mem_map.mpr ⟨z, by simp [hz], rfl⟩)
    rw [e] at this; simp at this
  have e1 := List.getLast?_eq_some_getLast ne
  have e2 : endR R J = (bndR R J).getLast ne := by unfold endR; rw [e1]; rfl
  rw [e2]
  refine ⟨e1, ?_, fun p hp => ?_⟩
  · obtain ⟨p, hp, e⟩ := List.mem_map.mp (sortR_mem.mp (List.getLast_mem ne : (bndR R J).getLast ne ∈ sortR _))
    exact ⟨p, hp, e.symm⟩
  · have hm : p.s ∈ bndR R J := sortR_mem.mpr (List.mem_map.mpr ⟨p, hp, rfl⟩)
    have as : AscR (bndR R J) := sortR_asc
    have el : bndR R J = (bndR R J).dropLast ++ [(bndR R J).getLast ne] := (List.dropLast_concat_getLast ne).symm
    rw [el] at hm as
    rcases List.mem_append.mp hm with h | h
    · have := (List.pairwise_append.mp as).2.2 _ h _ (List.mem_singleton.mpr rfl); grind
    · simp at h; grind
def farR (R J : List Pc) : Option (Rat × Rat) :=
  if 0 < lastK (normR J) - lastK (normR R) then some (0, if lsR R J 0 (endR R J) < 1 then endR R J + (1 - lsR R J 0 (endR R J)) / (lastK (normR J) - lastK (normR R)) else endR R J) else none
def lsC (R J : List Pc) (c : Rat × Rat) : Rat := lsR R J c.1 c.2
def loseR (R J : List Pc) : Option (Rat × Rat) := match mostF (lsC R J) (corR (normR R) (normR J) (endR R J + endR R J)) with
  | some (v, c) => if 0 < v then some c else farR R J
  | none => none
def gainR (R J : List Pc) : Option (Rat × Rat) := match mostF (fun c => -lsC R J c) (corR (normR R) (normR J) (endR R J + endR R J)) with
  | some (v, c) => if 0 < v then some c else if 0 < lastK (normR R) - lastK (normR J) then some (0, endR R J + (1 + lsR R J 0 (endR R J)) / (lastK (normR R) - lastK (normR J))) else none
  | none => none
theorem Row2.norm {R : List Pc} (h : Row2 R) : Row2 (normR R) := ⟨normR_rw h.rw, normR_steady h.rw.asc h.st⟩
theorem ls_norm {R J : List Pc} (hR : Rw R) (hJ : Rw J) {x y : Rat} : lsR (normR R) (normR J) x y = lsR R J x y := by
  unfold lsR apR
  rw [(normR_val hR.asc).1, (normR_val hR.asc).1, (normR_val hJ.asc).1]
theorem cpl_le {x y : Rat} : (cpl x y).1 ≤ (cpl x y).2 := by unfold cpl; split <;> simp only <;> grind
theorem cor_ge {N K : List Pc} (hN : Rw N) {most : Rat} {c : Rat × Rat} (h : c ∈ corR N K most) : 0 ≤ c.1 ∧ c.1 ≤ c.2 ∧ c.1 + c.2 ≤ most := by
  obtain ⟨x, y, ⟨⟨p, hp, rfl⟩, _, y0, hm⟩, rfl⟩ := (corR_mem hN).mp h
  have := hN.nonneg p hp
  refine ⟨?_, cpl_le, by rw [cpl_sum2]; exact hm⟩
  unfold cpl; split <;> assumption
theorem lose_spec {R J : List Pc} (hR : Row2 R) (hJ : Row2 J) : (loseR R J = none ↔ ∀ x y, 0 ≤ x → 0 ≤ y → lsR R J x y ≤ 0) ∧ ∀ c, loseR R J = some c → 0 ≤ c.1 ∧ c.1 ≤ c.2 ∧ 0 < lsC R J c := by
  have hN := hR.norm
  have hK := hJ.norm
  obtain ⟨_, ⟨pe, hpe, epe⟩, he⟩ := endR_spec (J := J) hR.rw
  have e0 : 0 ≤ endR R J := by
    rw [epe]
    rcases List.mem_append.mp hpe with h | h
    · exact hN.rw.nonneg _ h
    · exact hK.rw.nonneg _ h
  have far : ∀ c, farR R J = some c → 0 ≤ c.1 ∧ c.1 ≤ c.2 ∧ 0 < lsC R J c := fun c hc => by
    unfold farR at hc
    by_cases hr : 0 < lastK (normR J) - lastK (normR R)
    · rw [if_pos hr] at hc
      simp only [Option.some.injEq] at hc
      subst hc
      by_cases h1 : lsR R J 0 (endR R J) < 1
      · simp only [h1, if_true]
        have hd : 0 ≤ (1 - lsR R J 0 (endR R J)) / (lastK (normR J) - lastK (normR R)) := by
          rw [Rat.div_def]
          exact Rat.mul_nonneg (by grind) (Rat.le_of_lt (Rat.inv_pos.mpr hr))
        have hm : (lastK (normR J) - lastK (normR R)) * ((1 - lsR R J 0 (endR R J)) / (lastK (normR J) - lastK (normR R))) = 1 - lsR R J 0 (endR R J) := by
          rw [Rat.mul_comm]
          exact Rat.div_mul_cancel (by grind)
        refine ⟨Rat.le_refl, by grind, ?_⟩
        unfold lsC
        simp only
        rw [← ls_norm hR.rw hJ.rw, ls_past hN hK (e := endR R J) (y := endR R J) (fun p hp => he p (by simp [hp])) (fun p hp => he p (by simp [hp])) Rat.le_refl Rat.le_refl (by grind), ls_norm hR.rw hJ.rw]
        grind
      · simp only [h1, if_false]
        refine ⟨Rat.le_refl, e0, ?_⟩
        unfold lsC
        simp only
        grind
    · rw [if_neg hr] at hc; cases hc
  unfold loseR
  cases hm : mostF (lsC R J) (corR (normR R) (normR J) (endR R J + endR R J)) with
  | none => exact absurd (mostF_spec.1.mp hm) (corR_ne hN.rw (by grind))
  | some vc =>
    obtain ⟨v, c⟩ := vc
    obtain ⟨h1, h2, h3⟩ := mostF_spec.2 v c hm
    simp only
    by_cases hv : 0 < v
    · rw [if_pos hv]
      obtain ⟨c1, c2, _⟩ := cor_ge hN.rw h1
      refine ⟨⟨fun h => by simp at h, fun h => ?_⟩, fun d hd => by simp at hd; subst hd; exact ⟨c1, c2, by grind⟩⟩
      have := h c.1 c.2 c1 (by grind)
      unfold lsC at h2; grind
    · rw [if_neg hv]
      refine ⟨⟨fun h => fun x y x0 y0 => ?_, fun h => ?_⟩, far⟩
      · have hk : ¬ 0 < lastK (normR J) - lastK (normR R) := fun hk => by unfold farR at h; rw [if_pos hk] at h; cases h
        have := nobody hN hK (σ := 1) e0 (fun p hp => he p (by simp [hp])) (fun p hp => he p (by simp [hp])) (fun a b hab => by
          have := h3 _ ((corR_mem hN.rw).mpr ⟨a, b, hab, rfl⟩)
          rw [ls_norm hR.rw hJ.rw]
          unfold lsC at this
          rw [ls_cpl] at this
          grind) (by grind) x0 y0
        rw [ls_norm hR.rw hJ.rw] at this
        grind
      · cases hf : farR R J with
        | none => rfl
        | some d =>
          obtain ⟨d1, d2, d3⟩ := far d hf
          have := h d.1 d.2 d1 (by grind)
          unfold lsC at d3; grind
theorem gain_spec {R J : List Pc} (hR : Row2 R) (hJ : Row2 J) : (gainR R J = none ↔ ∀ x y, 0 ≤ x → 0 ≤ y → 0 ≤ lsR R J x y) ∧ ∀ c, gainR R J = some c → 0 ≤ c.1 ∧ c.1 ≤ c.2 ∧ lsC R J c < 0 := by
  have hN := hR.norm
  have hK := hJ.norm
  obtain ⟨_, ⟨pe, hpe, epe⟩, he⟩ := endR_spec (J := J) hR.rw
  have e0 : 0 ≤ endR R J := by
    rw [epe]
    rcases List.mem_append.mp hpe with h | h
    · exact hN.rw.nonneg _ h
    · exact hK.rw.nonneg _ h
  unfold gainR
  cases hm : mostF (fun c => -lsC R J c) (corR (normR R) (normR J) (endR R J + endR R J)) with
  | none => exact absurd (mostF_spec.1.mp hm) (corR_ne hN.rw (by grind))
  | some vc =>
    obtain ⟨v, c⟩ := vc
    obtain ⟨h1, h2, h3⟩ := mostF_spec.2 v c hm
    simp only
    by_cases hv : 0 < v
    · rw [if_pos hv]
      obtain ⟨c1, c2, _⟩ := cor_ge hN.rw h1
      refine ⟨⟨fun h => by simp at h, fun h => ?_⟩, fun d hd => by simp at hd; subst hd; exact ⟨c1, c2, by grind⟩⟩
      have := h c.1 c.2 c1 (by grind)
      unfold lsC at h2; grind
    · rw [if_neg hv]
      have low : ∀ a b, isCor (normR R) (normR J) (endR R J + endR R J) a b → 0 ≤ lsR R J a b := fun a b hab => by
        have := h3 _ ((corR_mem hN.rw).mpr ⟨a, b, hab, rfl⟩)
        unfold lsC at this
        rw [ls_cpl] at this
        grind
      have here : 0 ≤ lsR R J 0 (endR R J) := by
        obtain ⟨a, b, k1, k2⟩ := corner hN hK (-1) (x := 0) (y := endR R J) (most := endR R J + endR R J) Rat.le_refl e0 (by grind)
        rw [ls_norm hR.rw hJ.rw, ls_norm hR.rw hJ.rw] at k2
        have := low a b k1
        grind
      by_cases hr : 0 < lastK (normR R) - lastK (normR J)
      · rw [if_pos hr]
        have hd : 0 ≤ (1 + lsR R J 0 (endR R J)) / (lastK (normR R) - lastK (normR J)) := by
          rw [Rat.div_def]
          exact Rat.mul_nonneg (by grind) (Rat.le_of_lt (Rat.inv_pos.mpr hr))
        have hm2 : (lastK (normR R) - lastK (normR J)) * ((1 + lsR R J 0 (endR R J)) / (lastK (normR R) - lastK (normR J))) = 1 + lsR R J 0 (endR R J) := by
          rw [Rat.mul_comm]
          exact Rat.div_mul_cancel (by grind)
        have neg : lsR R J 0 (endR R J + (1 + lsR R J 0 (endR R J)) / (lastK (normR R) - lastK (normR J))) < 0 := by
          rw [← ls_norm hR.rw hJ.rw, ls_past hN hK (e := endR R J) (y := endR R J) (fun p hp => he p (by simp [hp])) (fun p hp => he p (by simp [hp])) Rat.le_refl Rat.le_refl (by grind), ls_norm hR.rw hJ.rw]
          grind
        refine ⟨⟨fun h => by simp at h, fun h => ?_⟩, fun d hd2 => by simp at hd2; subst hd2; exact ⟨Rat.le_refl, by simp only; grind, neg⟩⟩
        have := h _ _ Rat.le_refl (show 0 ≤ endR R J + (1 + lsR R J 0 (endR R J)) / (lastK (normR R) - lastK (normR J)) by grind)
        grind
      · rw [if_neg hr]
        refine ⟨⟨fun _ => fun x y x0 y0 => ?_, fun _ => rfl⟩, fun d hd => by cases hd⟩
        have := nobody hN hK (σ := -1) e0 (fun p hp => he p (by simp [hp])) (fun p hp => he p (by simp [hp])) (fun a b hab => by
          have := low a b hab
          rw [ls_norm hR.rw hJ.rw]
          grind) (by grind) x0 y0
        rw [ls_norm hR.rw hJ.rw] at this
        grind
/-! promises -/
def optC (o : Option (Rat × Rat)) : D := match o with
  | some c => cplD c
  | none => .non
def mostD (o : Option (Rat × (Rat × Rat))) : D := match o with
  | some (v, c) => .tup [rat v, cplD c]
  | none => .non
def SzC (n : Nat) (c : Rat × Rat) : Prop := SzR n c.1 ∧ SzR n c.2
theorem sortC_snoc {l : List (Rat × Rat)} {r : Rat × Rat} : sortC (l ++ [r]) = insC (sortC l) r := by unfold sortC; rw [List.foldl_append]; rfl
theorem sortC_step {l : List (Rat × Rat)} {i : Nat} {r : Rat × Rat} (h : l[i]? = some r) : sortC (l.take (i + 1)) = insC (sortC (l.take i)) r := by
  unfold sortC
  rw [List.take_add_one, h, List.foldl_append]; rfl
theorem cpls_get {xs : List (Rat × Rat)} {i : Nat} {d : D} (h : (xs.map cplD)[i]? = some d) : ∃ x, d = cplD x ∧ xs[i]? = some x := by
  rw [List.getElem?_map, Option.map_eq_some_iff] at h
  obtain ⟨x, h1, rfl⟩ := h
  exact ⟨x, rfl, h1⟩
theorem z_szR {n : Nat} (hn : 12 ≤ n) : SzR n (0 : Rat) := SzR.mono (m := 12) ⟨.lit 12 (by decide) (by omega), .lit 12 (by decide) (by omega)⟩ hn
theorem corR_sz {R J : List Pc} {m : Rat} (hR : RwN 90 R) (hJ : RwN 90 J) (sm : SzR 190 m) {c : Rat × Rat} (h : c ∈ corR (normR R) (normR J) m) : 0 ≤ c.1 ∧ 0 ≤ c.2 ∧ SzR 290 c.1 ∧ SzR 290 c.2 := by
  have hN := hR.norm
  have hK := hJ.norm
  obtain ⟨c1, c2, _⟩ := cor_ge hN.rw h
  have key : ∀ x y : Rat, SzR 290 x → SzR 290 y → SzR 290 (cpl x y).1 ∧ SzR 290 (cpl x y).2 := fun x y a b => by
    unfold cpl; split <;> exact ⟨by assumption, by assumption⟩
  obtain ⟨x, y, ⟨⟨p, hp, rfl⟩, hy, _, _⟩, rfl⟩ := (corR_mem hN.rw).mp h
  have sp := (hN.sz p hp).1
  have sy : SzR 290 y := by
    rcases hy with ⟨q, hq, rfl⟩ | ⟨q, hq, e⟩ | e
    · exact (hN.sz q hq).1.mono (by omega)
    · have : y = q.s - p.s := by grind
      rw [this]; exact (hK.sz q hq).1.subw sp (by omega)
    · have : y = m - p.s := by grind
      rw [this]; exact sm.subw sp (by omega)
  have := key p.s y (sp.mono (by omega)) sy
  exact ⟨c1, by grind, this.1, this.2⟩
theorem endR_sz {R J : List Pc} (hR : RwN 90 R) (hJ : RwN 90 J) : SzR 90 (endR R J) ∧ 0 ≤ endR R J := by
  obtain ⟨_, ⟨p, hp, e⟩, _⟩ := endR_spec (J := J) hR.rw
  rw [e]
  rcases List.mem_append.mp hp with h | h
  · exact ⟨(hR.norm.sz p h).1, hR.norm.rw.nonneg p h⟩
  · exact ⟨(hJ.norm.sz p h).1, hJ.norm.rw.nonneg p h⟩
theorem ls_sz {R J : List Pc} {x y : Rat} (hR : RwN 90 R) (hJ : RwN 90 J) (x0 : 0 ≤ x) (y0 : 0 ≤ y) (sx : SzR 290 x) (sy : SzR 290 y) : SzR 2200 (lsR R J x y) := by
  obtain ⟨_, _, _, _, s1⟩ := hJ.val (x := x + y) (m := 581) (by grind) (sx.add sy (by omega))
  have s2 := apR_sz (k := 1200) hR x0 y0 sx sy (by omega)
  exact s1.subw s2 (by omega)
theorem lastK_get {R : List Pc} (h : R ≠ []) : ∃ p ∈ R, R.getLast? = some p ∧ lastK R = p.k := by
  refine ⟨R.getLast h, List.getLast_mem h, List.getLast?_eq_some_getLast h, ?_⟩
  unfold lastK; rw [List.getLast?_eq_some_getLast h]; rfl
def sp_bounds_of : List D → Mem → K1 → Prop := fun ds M q => ∃ R J, ds = [rowD R, rowD J] ∧ RwN 90 R ∧ RwN 90 J ∧ ∀ f, M f = Option.none → q (.lst f) (M.up f ((bndR R J).map rat))
def sp_is_ahead_of : List D → Mem → K1 → Prop := fun ds M q => ∃ c d, ds = [cplD c, cplD d] ∧ SzC 4000 c ∧ SzC 4000 d ∧ q (.bl (decide (ltC c d))) M
def sp_sorted_couples : List D → Mem → K1 → Prop := fun ds M q => ∃ a l, ds = [.lst a] ∧ M a = some (l.map cplD) ∧ l.length ≤ 10000 ∧ (∀ c ∈ l, SzC 4000 c) ∧ ∀ f, M f = Option.none → q (.lst f) (M.up f ((sortC l).map cplD))
def sp_corners : List D → Mem → K1 → Prop := fun ds M q => ∃ R J m, ds = [rowD R, rowD J, rat m] ∧ RwN 90 R ∧ RwN 90 J ∧ SzR 190 m ∧ q (.tup ((corR (normR R) (normR J) m).map cplD)) M
def sp_most_lost : List D → Mem → K1 → Prop := fun ds M q => ∃ R J m, ds = [rowD R, rowD J, rat m] ∧ RwN 90 R ∧ RwN 90 J ∧ SzR 190 m ∧ q (mostD (mostF (lsC R J) (corR (normR R) (normR J) m))) M
def sp_most_gained : List D → Mem → K1 → Prop := fun ds M q => ∃ R J m, ds = [rowD R, rowD J, rat m] ∧ RwN 90 R ∧ RwN 90 J ∧ SzR 190 m ∧ q (mostD (mostF (fun c => -lsC R J c) (corR (normR R) (normR J) m))) M
def sp_far_couple : List D → Mem → K1 → Prop := fun ds M q => ∃ R J, ds = [rowD R, rowD J] ∧ RwN 90 R ∧ RwN 90 J ∧ q (optC (farR R J)) M
def sp_losing_couple : List D → Mem → K1 → Prop := fun ds M q => ∃ R J, ds = [rowD R, rowD J] ∧ RwN 90 R ∧ RwN 90 J ∧ q (optC (loseR R J)) M
def sp_gaining_couple : List D → Mem → K1 → Prop := fun ds M q => ∃ R J, ds = [rowD R, rowD J] ∧ RwN 90 R ∧ RwN 90 J ∧ q (optC (gainR R J)) M
def sp_is_neutral : List D → Mem → K1 → Prop := fun ds M q => ∃ R J, ds = [rowD R, rowD J] ∧ RwN 90 R ∧ RwN 90 J ∧ q (.bl ((loseR R J).isNone && (gainR R J).isNone)) M
def neuD : List Pc → D
  | [p] => rowD [⟨0, p.v + p.v, p.k⟩]
  | _ => .non
def sp_neutral_joint : List D → Mem → K1 → Prop := fun ds M q => ∃ R, ds = [rowD R] ∧ RwN 90 R ∧ q (neuD (normR R)) M
def someD (a b : Option (Rat × Rat)) : D := match a with
  | some c => .tup [.str (Str.ofString "loses"), cplD c]
  | none => match b with
    | some c => .tup [.str (Str.ofString "gains"), cplD c]
    | none => .non
def sp_always_someone : List D → Mem → K1 → Prop := fun ds M q => ∃ R J, ds = [rowD R, rowD J] ∧ RwN 90 R ∧ RwN 90 J ∧ q (someD (loseR R J) (gainR R J)) M
def tpR : List Pc → Option (Rat × Rat)
  | _ :: b :: c :: _ => some (b.s, if c.s - b.s < b.s then c.s - b.s else b.s)
  | [_, b] => some (b.s, b.s)
  | _ => none
def tpD (o : Option (Rat × Rat)) : D := match o with
  | some (s, t) => .tup [.tup [rat s, rat s], .tup [rat (s - t), rat (s + t)]]
  | none => .non
def sp_two_partings : List D → Mem → K1 → Prop := fun ds M q => ∃ R, ds = [rowD R] ∧ RwN 90 R ∧ q (tpD (tpR (normR R))) M
structure St5 (N : List Pc) : Prop where
  n : RwN 20 N
  st : Steady N
  ne : ∀ l a b r, N = l ++ a :: b :: r → a.k ≠ b.k
theorem St5.norm {N : List Pc} (h : St5 N) : normR N = N := nm_norm fun l a b r e he => absurd he (h.ne l a b r e)
theorem two_part {a b : Pc} {r : List Pc} {t : Rat} (h : St5 (a :: b :: r)) (t0 : 0 < t) (t1 : t ≤ b.s) (hb : ∀ u, bd r = some u → b.s + t ≤ u) :
    valAt (a :: b :: r) b.s + valAt (a :: b :: r) b.s ≠ valAt (a :: b :: r) (b.s - t) + valAt (a :: b :: r) (b.s + t) := by
  have as := h.n.rw.asc
  have z := h.n.rw.zero a rfl
  have e1 : valAt (a :: b :: r) b.s = b.at b.s := valAt_of (pieceAt_mid (l := [a]) as Rat.le_refl (fun u hu => bd_lt (l := [a]) as hu))
  have e2 : valAt (a :: b :: r) (b.s - t) = a.at (b.s - t) := valAt_of (pieceAt_mid (l := []) (r := b :: r) as (by grind) (fun u hu => by simp [bd] at hu; grind))
  have e3 : valAt (a :: b :: r) (b.s + t) = b.at (b.s + t) := by
    by_cases c : Bl (b.s + t) (bd r)
    · exact valAt_of (pieceAt_mid (l := [a]) as (by grind) c)
    · cases r with
      | nil => exact absurd (fun u hu => by simp [bd] at hu) c
      | cons d r =>
        have hd := hb d.s rfl
        have e : b.s + t = d.s := by
          rcases Decidable.em (b.s + t < d.s) with h1 | h1
          · exact absurd (fun u hu => by simp [bd] at hu; subst hu; exact h1) c
          · grind
        rw [e, valAt_of (pieceAt_start as (show d ∈ a :: b :: d :: r by simp)), h.st [a] b d r rfl]
        unfold Pc.at; grind
  have e4 := h.st [] a b r rfl
  have e5 := h.ne [] a b r rfl
  rw [e1, e2, e3]
  unfold Pc.at at *
  intro e
  have e6 : (b.k - a.k) * t = 0 := by grind
  rcases Rat.mul_eq_zero.mp e6 with h1 | h1
  · exact e5 (by grind)
  · grind
theorem tpR_two {N : List Pc} {s t : Rat} (h : St5 N) (e : tpR N = some (s, t)) : 0 < t ∧ t ≤ s ∧ SzR 20 s ∧ SzR 41 t ∧ valAt N s + valAt N s ≠ valAt N (s - t) + valAt N (s + t) := by
  match N, h, e with
  | [a, b], h, e =>
    simp only [tpR, Option.some.injEq, Prod.mk.injEq] at e
    obtain ⟨rfl, rfl⟩ := e
    have z := h.n.rw.zero a rfl
    have p : 0 < b.s := by have := h.n.rw.asc; simp [Asc] at this; grind
    have sb := (h.n.sz b (by simp)).1
    exact ⟨p, Rat.le_refl, sb, sb.mono (by omega), two_part h p Rat.le_refl (fun u hu => by simp [bd] at hu)⟩
  | a :: b :: c :: r, h, e =>
    simp only [tpR, Option.some.injEq, Prod.mk.injEq] at e
    obtain ⟨rfl, rfl⟩ := e
    have z := h.n.rw.zero a rfl
    have as := h.n.rw.asc
    have p : 0 < b.s := by simp [Asc] at as; grind
    have q : b.s < c.s := by simp [Asc] at as; grind
    have sb := (h.n.sz b (by simp)).1
    have sc := (h.n.sz c (by simp)).1
    have sd : SzR 41 (c.s - b.s) := sc.sub sb (by omega)
    by_cases k : c.s - b.s < b.s
    · simp only [k, if_true]
      exact ⟨by grind, by grind, sb, sd, two_part h (by grind) (by grind) (fun u hu => by simp [bd] at hu; subst hu; grind)⟩
    · simp only [k, if_false]
      exact ⟨p, Rat.le_refl, sb, sb.mono (by omega), two_part h p Rat.le_refl (fun u hu => by simp [bd] at hu; subst hu; grind)⟩
theorem tpR_none {N : List Pc} (h : N ≠ []) : tpR N = none ↔ N.length = 1 := by
  match N, h with
  | [_], _ => simp [tpR]
  | [_, _], _ => simp [tpR]
  | _ :: _ :: _ :: _, _ => simp [tpR]
theorem one_val {p : Pc} (h : Rw [p]) {x : Rat} (x0 : 0 ≤ x) : valAt [p] x = p.v + p.k * x := by
  have z := h.zero p rfl
  have e : valAt [p] x = p.at x := valAt_of (pieceAt_mid (l := []) (r := []) h.asc (by grind) (fun u hu => by simp [bd] at hu))
  rw [e]
  unfold Pc.at; grind
def sp_law_drawn : List D → Mem → K1 → Prop := fun ds M q => ∃ b c, ds = [.lst b] ∧ BoxAt M b c ∧ ∀ R M', St5 R → R.length ≤ 4 → (∀ p, R = [p] → SzR 20 (p.v + p.v)) → BoxAt M' b c → Fr b c M M' → q (rowD R) M'
theorem eqW_cpl {a b : Rat × Rat} {M : Mem} {r : Bool → Prop} : eqW (cplD a) (cplD b) M r = r (decide (a = b)) := by
  unfold cplD
  rw [eqW_rats]
  congr 1
  apply Bool.eq_iff_iff.mpr
  simp only [decide_eq_true_eq]
  exact ⟨fun h => Prod.ext h.1 h.2, fun h => by rw [h]; exact ⟨rfl, rfl⟩⟩
theorem rat_two_inj {x y a b : Rat} (h : [rat x, rat y] = [rat a, rat b]) : x = a ∧ y = b := by
  injection h with h1 h
  injection h with h2 h
  exact ⟨rat_inj h1, rat_inj h2⟩
theorem sp_couple_of_eq {x y : Rat} {M : Mem} {q : K1} : sp_couple_of [rat x, rat y] M q = (SzR 4000 x ∧ SzR 4000 y ∧ q (cplD (cpl x y)) M) :=
  propext ⟨fun ⟨_, _, e, h⟩ => by obtain ⟨rfl, rfl⟩ := rat_two_inj e; exact h, fun h => ⟨_, _, rfl, h⟩⟩
def fF (xs zs : List Rat) (x : Rat) : List (Rat × Rat) := (xs.map fun y => cpl x y) ++ ((zs.filter fun z => !decide (z < x)).map fun z => cpl x (z - x))
theorem foundR_eq {N K : List Pc} {m : Rat} : foundR N K m = (N.map (·.s)).flatMap (fF (N.map (·.s)) (K.map (·.s) ++ [m])) := by
  unfold foundR fF
  rw [List.flatMap_map]
  congr 1
  funext p
  rw [List.map_map]; rfl
theorem flat_len {α β : Type} {F : α → List β} {B : Nat} : ∀ {l : List α}, (∀ x ∈ l, (F x).length ≤ B) → (l.flatMap F).length ≤ l.length * B
  | [], _ => by simp
  | a :: l, h => by
    rw [List.flatMap_cons, List.length_append, List.length_cons, Nat.succ_mul]
    have := flat_len (l := l) fun x hx => h x (by simp [hx])
    have := h a (by simp)
    omega
theorem fF_len {xs zs : List Rat} {x : Rat} : (fF xs zs x).length ≤ xs.length + zs.length := by
  unfold fF
  rw [List.length_append, List.length_map, List.length_map]
  have := List.length_filter_le (fun z => !decide (z < x)) zs
  omega
end TB

namespace TB
open PySem PySem.Spec PyProof.Rows L2
/-! Eng6: rows of one value and one slope are one row -/
theorem val_snoc {l : List Pc} {p : Pc} {x : Rat} : valAt (l ++ [p]) x = if x < p.s then valAt l x else p.at x := by
  unfold valAt
  rw [pieceAt_snoc]
  by_cases c : x < p.s
  · rw [if_pos c, if_pos c]
  · rw [if_neg c, if_neg c]
theorem val_last2 {l : List Pc} {a : Pc} {x : Rat} (hl : l.getLast? = some a) (hx : a.s ≤ x) : valAt l x = a.at x := by
  have hne : l ≠ [] := fun e => by subst e; simp at hl
  have el : l = l.dropLast ++ [a] := by
    have := List.dropLast_concat_getLast hne
    rw [List.getLast?_eq_some_getLast hne] at hl
    cases hl; exact this.symm
  rw [el, val_snoc, if_neg (by grind)]
/-- no last piece of a normal row begins later than a row that agrees with it -/
theorem ext_no {A' B' : List Pc} {a b : Pc} {T : Rat} (aB : Asc (B' ++ [b])) (nB : Nm (B' ++ [b])) (zB : ∀ p, (B' ++ [b]).head? = some p → p.s = 0) (a0 : 0 ≤ a.s) (tb : b.s < T)
    (h : ∀ x, 0 ≤ x → x < T → valAt (A' ++ [a]) x = valAt (B' ++ [b]) x ∧ slAt (A' ++ [a]) x = slAt (B' ++ [b]) x) : ¬ a.s < b.s := fun c => by
  cases e : B'.getLast? with
  | none =>
    have e : B' = [] := List.getLast?_eq_none_iff.mp e
    subst e
    have := zB b rfl
    grind
  | some z =>
    have hz : z ∈ B' := List.mem_of_getLast? e
    have zb : z.s < b.s := (List.pairwise_append.mp aB).2.2 z hz b (by simp)
    have h1 := h b.s (by grind) tb
    rw [val_snoc, val_snoc, slAt_snoc, slAt_snoc, if_neg (by grind), if_neg (by grind), if_neg (by grind), if_neg (by grind)] at h1
    have hm : ∃ x, a.s ≤ x ∧ z.s ≤ x ∧ x < b.s ∧ 0 ≤ x := by
      rcases Rat.le_total (a := a.s) (b := z.s) with k | k
      · exact ⟨z.s, k, Rat.le_refl, zb, by grind⟩
      · exact ⟨a.s, Rat.le_refl, k, c, a0⟩
    obtain ⟨x, x1, x2, x3, x0⟩ := hm
    have h2 := h x x0 (by grind)
    rw [val_snoc, val_snoc, slAt_snoc, slAt_snoc, if_neg (by grind), if_pos x3, if_neg (by grind), if_pos x3, val_last2 e x2, sl_last2 e x2] at h2
    refine nm_snoc nB e (by rw [← h2.2, h1.2]) ?_
    have h3 := h1.1
    have h4 := h2.1
    have k1 := h1.2
    have k2 := h2.2
    unfold Pc.at at *
    grind
theorem ext_lt : ∀ (A B : List Pc) (T : Rat), Asc A → Asc B → Nm A → Nm B → (∀ p, A.head? = some p → p.s = 0) → (∀ p, B.head? = some p → p.s = 0) → (∀ p ∈ A, 0 ≤ p.s ∧ p.s < T) → (∀ p ∈ B, 0 ≤ p.s ∧ p.s < T) → (A = [] → T ≤ 0) → (B = [] → T ≤ 0) →
    (∀ x, 0 ≤ x → x < T → valAt A x = valAt B x ∧ slAt A x = slAt B x) → A = B := by
  intro A
  induction A using snoc_ind with
  | h0 =>
    intro B T _ _ _ _ _ _ _ hB tA _ _
    cases B with
    | nil => rfl
    | cons b B =>
      have := tA rfl
      have := hB b (by simp)
      grind
  | hs A' a ih =>
    intro B T aA aB nA nB zA zB hA hB tA tB h
    cases hl : B using snoc_ind with
    | h0 =>
      subst hl
      have := tB rfl
      have := hA a (by simp)
      grind
    | hs B' b _ =>
      subst hl
      have ha := hA a (by simp)
      have hb := hB b (by simp)
      have n1 := ext_no (A' := A') (B' := B') aB nB zB ha.1 hb.2 h
      have n2 := ext_no (A' := B') (B' := A') aA nA zA hb.1 ha.2 fun x x0 xT => ⟨(h x x0 xT).1.symm, (h x x0 xT).2.symm⟩
      have es : a.s = b.s := by grind
      have h1 := h a.s ha.1 ha.2
      rw [val_snoc, val_snoc, slAt_snoc, slAt_snoc, if_neg (by grind), if_neg (by grind), if_neg (by grind), if_neg (by grind)] at h1
      have e : a = b := by
        obtain ⟨as, av, ak⟩ := a
        obtain ⟨bs, bv, bk⟩ := b
        simp only at es h1
        obtain ⟨h2, h3⟩ := h1
        subst es h3
        unfold Pc.at at h2
        simp only at h2
        have : av = bv := by grind
        rw [this]
      subst e
      have first : ∀ (C : List Pc), Asc (C ++ [a]) → (∀ p, (C ++ [a]).head? = some p → p.s = 0) → (C = [] → a.s ≤ 0) ∧ (∀ p ∈ C, p.s < a.s) ∧ (∀ p, C.head? = some p → p.s = 0) := fun C hC hz => by
        refine ⟨fun e => by subst e; have := hz a rfl; grind, fun p hp => (List.pairwise_append.mp hC).2.2 p hp a (by simp), fun p hp => ?_⟩
        cases C with
        | nil => simp at hp
        | cons c C => exact hz p (by simpa using hp)
      obtain ⟨f1, f2, f3⟩ := first A' aA zA
      obtain ⟨g1, g2, g3⟩ := first B' aB zB
      rw [ih B' a.s (List.pairwise_append.mp aA).1 (List.pairwise_append.mp aB).1 nA.left nB.left f3 g3 (fun p hp => ⟨(hA p (by simp [hp])).1, f2 p hp⟩) (fun p hp => ⟨(hB p (by simp [hp])).1, g2 p hp⟩) f1 g1 fun x x0 xs => by
        have := h x x0 (by grind)
        rw [val_snoc, val_snoc, slAt_snoc, slAt_snoc, if_pos xs, if_pos xs, if_pos xs, if_pos xs] at this
        exact this]
theorem bigT : ∀ L : List Pc, ∃ T : Rat, 0 < T ∧ ∀ p ∈ L, p.s < T
  | [] => ⟨1, by decide +kernel, by simp⟩
  | a :: L => by
    obtain ⟨T, h1, h2⟩ := bigT L
    by_cases c : a.s < T
    · exact ⟨T, h1, fun p hp => by
        rcases List.mem_cons.mp hp with rfl | hp
        · exact c
        · exact h2 p hp⟩
    · exact ⟨a.s + 1, by grind, fun p hp => by
        rcases List.mem_cons.mp hp with rfl | hp
        · grind
        · have := h2 p hp; grind⟩
theorem norm_ext {A B : List Pc} (hA : Rw A) (hB : Rw B) (h : ∀ x, 0 ≤ x → valAt A x = valAt B x ∧ slAt A x = slAt B x) : normR A = normR B := by
  have rA := normR_rw hA
  have rB := normR_rw hB
  obtain ⟨T, t0, hT⟩ := bigT (normR A ++ normR B)
  exact ext_lt _ _ T rA.asc rB.asc normR_nm normR_nm rA.zero rB.zero (fun p hp => ⟨rA.nonneg p hp, hT p (by simp [hp])⟩) (fun p hp => ⟨rB.nonneg p hp, hT p (by simp [hp])⟩) (fun e => absurd e rA.ne) (fun e => absurd e rB.ne) fun x x0 _ => by
    rw [(normR_val hA.asc).1, (normR_val hB.asc).1, normR_sl hA.asc, normR_sl hB.asc]
    exact h x x0
/-! drawn steady rows -/
structure Fk (R : List Pc) : Prop where
  rw : Rw R
  st : Steady R
  nm : normR R = R
  len : R.length ≤ 6
  sz : ∀ p ∈ R, SzR 11 p.s ∧ SzR 22 p.v ∧ SzR 6 p.k
theorem Fk.n {R : List Pc} (h : Fk R) : RwN 22 R := ⟨h.rw, Nat.le_trans h.len (by decide), fun p hp => ⟨(h.sz p hp).1.mono (by omega), (h.sz p hp).2.1, (h.sz p hp).2.2.mono (by omega)⟩⟩
theorem Fk.r2 {R : List Pc} (h : Fk R) : Row2 R := ⟨h.rw, h.st⟩
theorem most_ex {f : Rat × Rat → Rat} {cs : List (Rat × Rat)} (h : cs ≠ []) : ∃ v c, mostF f cs = some (v, c) := by
  cases e : mostF f cs with
  | none => exact absurd (mostF_spec.1.mp e) h
  | some vc => exact ⟨vc.1, vc.2, rfl⟩
theorem fk_val {R : List Pc} (h : Fk R) {n : Nat} {x : Rat} (x0 : 0 ≤ x) (hx : SzR n x) : SzR (n + 41) (valAt R x) := by
  obtain ⟨p, hp, hpR, _⟩ := h.rw.at_ex x0
  obtain ⟨s1, s2, s3⟩ := h.sz p hpR
  rw [valAt_of hp]
  have h1 : SzR (n + 12) (x - p.s) := hx.subw s1 (by omega)
  have h2 : SzR (n + 18) (p.k * (x - p.s)) := s3.mul h1 (by omega)
  exact s2.addw h2 (by omega)
theorem far_sz {R J : List Pc} (hR : Fk R) (hJ : Fk J) : SzR 11 (endR R J) ∧ 0 ≤ endR R J ∧ SzR 180 (lsR R J 0 (endR R J)) ∧ SzR 13 (lastK J - lastK R) ∧ SzR 13 (lastK R - lastK J) := by
  obtain ⟨_, ⟨pe, hpe, epe⟩, _⟩ := endR_spec (J := J) hR.rw
  rw [hR.nm, hJ.nm] at hpe
  have e0 : 0 ≤ endR R J ∧ SzR 11 (endR R J) := by
    rw [epe]
    rcases List.mem_append.mp hpe with h | h
    · exact ⟨hR.rw.nonneg _ h, (hR.sz _ h).1⟩
    · exact ⟨hJ.rw.nonneg _ h, (hJ.sz _ h).1⟩
  obtain ⟨a, ha, _, ea⟩ := lastK_get hR.rw.ne
  obtain ⟨b, hb, _, eb⟩ := lastK_get hJ.rw.ne
  refine ⟨e0.2, e0.1, ?_, by rw [ea, eb]; exact (hJ.sz b hb).2.2.sub (hR.sz a ha).2.2 (by omega), by rw [ea, eb]; exact (hR.sz a ha).2.2.sub (hJ.sz b hb).2.2 (by omega)⟩
  unfold lsR apR
  have z12 : SzR 12 (0 : Rat) := z_szR (by decide)
  have s1 := fk_val hR Rat.le_refl z12
  have s2 := fk_val hR e0.1 e0.2
  have s3 := fk_val hJ (x := 0 + endR R J) (n := 24) (by have := e0.1; grind) (z12.addw e0.2 (by omega))
  have s4 : SzR 106 (valAt R 0 + valAt R (endR R J)) := s1.addw s2 (by omega)
  exact s3.subw s4 (by omega)
theorem cor_sz {R J : List Pc} (hR : Fk R) (hJ : Fk J) {m : Rat} (sm : SzR 40 m) {c : Rat × Rat} (h : c ∈ corR R J m) : 0 ≤ c.1 ∧ 0 ≤ c.2 ∧ c.1 ≤ c.2 ∧ SzR 60 c.1 ∧ SzR 60 c.2 := by
  obtain ⟨c1, c2, _⟩ := cor_ge hR.rw h
  obtain ⟨x, y, ⟨⟨p, hp, rfl⟩, hy, _, _⟩, rfl⟩ := (corR_mem hR.rw).mp h
  have sp := (hR.sz p hp).1
  have sy : SzR 60 y := by
    rcases hy with ⟨q, hq, rfl⟩ | ⟨q, hq, e⟩ | e
    · exact (hR.sz q hq).1.mono (by omega)
    · have : y = q.s - p.s := by grind
      rw [this]; exact (hJ.sz q hq).1.subw sp (by omega)
    · have : y = m - p.s := by grind
      rw [this]; exact sm.subw sp (by omega)
  have key : SzR 60 (cpl p.s y).1 ∧ SzR 60 (cpl p.s y).2 := by
    unfold cpl; split <;> exact ⟨by first | exact sy | exact sp.mono (by omega), by first | exact sy | exact sp.mono (by omega)⟩
  exact ⟨c1, by grind, c2, key.1, key.2⟩
theorem lose_sz {R J : List Pc} (hR : Fk R) (hJ : Fk J) {c : Rat × Rat} (h : loseR R J = some c) : SzR 280 c.1 ∧ SzR 280 c.2 := by
  obtain ⟨se, e0, sl, sk, _⟩ := far_sz hR hJ
  unfold loseR farR at h
  rw [hR.nm, hJ.nm] at h
  cases e : mostF (lsC R J) (corR R J (endR R J + endR R J)) with
  | none => rw [e] at h; cases h
  | some vc =>
    obtain ⟨v, d⟩ := vc
    rw [e] at h
    simp only at h
    by_cases k : 0 < v
    · rw [if_pos k] at h
      cases h
      obtain ⟨_, _, _, a, b⟩ := cor_sz hR hJ (se.addw se (by omega)) (mostF_spec.2 v c e).1
      exact ⟨a.mono (by omega), b.mono (by omega)⟩
    · rw [if_neg k] at h
      by_cases k2 : 0 < lastK J - lastK R
      · rw [if_pos k2] at h
        cases h
        refine ⟨z_szR (by decide), ?_⟩
        simp only
        by_cases k3 : lsR R J 0 (endR R J) < 1
        · rw [if_pos k3]
          have s1 : SzR 182 (1 - lsR R J 0 (endR R J)) := one_sz.subw sl (by omega)
          have s2 : SzR 200 ((1 - lsR R J 0 (endR R J)) / (lastK J - lastK R)) := s1.div sk (by grind) (by omega)
          exact se.addw s2 (by omega)
        · rw [if_neg k3]; exact se.mono (by omega)
      · rw [if_neg k2] at h; cases h
theorem gain_sz {R J : List Pc} (hR : Fk R) (hJ : Fk J) {c : Rat × Rat} (h : gainR R J = some c) : SzR 280 c.1 ∧ SzR 280 c.2 := by
  obtain ⟨se, e0, sl, _, sk⟩ := far_sz hR hJ
  unfold gainR at h
  rw [hR.nm, hJ.nm] at h
  cases e : mostF (fun c => -lsC R J c) (corR R J (endR R J + endR R J)) with
  | none => rw [e] at h; cases h
  | some vc =>
    obtain ⟨v, d⟩ := vc
    rw [e] at h
    simp only at h
    by_cases k : 0 < v
    · rw [if_pos k] at h
      cases h
      obtain ⟨_, _, _, a, b⟩ := cor_sz hR hJ (se.addw se (by omega)) (mostF_spec.2 v c e).1
      exact ⟨a.mono (by omega), b.mono (by omega)⟩
    · rw [if_neg k] at h
      by_cases k2 : 0 < lastK R - lastK J
      · rw [if_pos k2] at h
        cases h
        refine ⟨z_szR (by decide), ?_⟩
        simp only
        have s1 : SzR 182 (1 + lsR R J 0 (endR R J)) := one_sz.addw sl (by omega)
        have s2 : SzR 200 ((1 + lsR R J 0 (endR R J)) / (lastK R - lastK J)) := s1.div sk (by grind) (by omega)
        exact se.addw s2 (by omega)
      · rw [if_neg k2] at h; cases h
theorem far_spec {R J : List Pc} (hR : Fk R) (hJ : Fk J) : ((farR R J).isNone = decide (lastK J - lastK R ≤ 0)) ∧ ∀ c, farR R J = some c → c.1 = 0 ∧ 0 ≤ c.2 ∧ SzR 280 c.2 ∧ 1 ≤ lsC R J c := by
  obtain ⟨se, e0, sl, sk, _⟩ := far_sz hR hJ
  obtain ⟨_, _, he⟩ := endR_spec (J := J) hR.rw
  rw [hR.nm, hJ.nm] at he
  unfold farR
  rw [hR.nm, hJ.nm]
  by_cases k2 : 0 < lastK J - lastK R
  · rw [if_pos k2]
    have k2' : ¬ lastK J - lastK R ≤ 0 := by grind
    refine ⟨by simp [k2'], fun c hc => ?_⟩
    cases hc
    refine ⟨rfl, ?_⟩
    unfold lsC
    simp only
    by_cases k3 : lsR R J 0 (endR R J) < 1
    · rw [if_pos k3]
      have s1 : SzR 182 (1 - lsR R J 0 (endR R J)) := one_sz.subw sl (by omega)
      have s2 : SzR 200 ((1 - lsR R J 0 (endR R J)) / (lastK J - lastK R)) := s1.div sk (by grind) (by omega)
      have hd : 0 ≤ (1 - lsR R J 0 (endR R J)) / (lastK J - lastK R) := by
        rw [Rat.div_def]
        exact Rat.mul_nonneg (by grind) (Rat.le_of_lt (Rat.inv_pos.mpr k2))
      have hm : (lastK J - lastK R) * ((1 - lsR R J 0 (endR R J)) / (lastK J - lastK R)) = 1 - lsR R J 0 (endR R J) := by
        rw [Rat.mul_comm]
        exact Rat.div_mul_cancel (by grind)
      refine ⟨by grind, se.addw s2 (by omega), ?_⟩
      rw [ls_past hR.r2 hJ.r2 (e := endR R J) (y := endR R J) (fun p hp => he p (by simp [hp])) (fun p hp => he p (by simp [hp])) Rat.le_refl Rat.le_refl (by grind)]
      grind
    · rw [if_neg k3]
      exact ⟨e0, se.mono (by omega), by grind⟩
  · rw [if_neg k2]
    have k2' : lastK J - lastK R ≤ 0 := by grind
    exact ⟨by simp [k2'], fun c hc => by cases hc⟩
theorem fk_std {asc : Bool} {N : List Pc} (hs : StdR 4 (-1) 9 asc N) : Fk N ∧ Fk (splR N) := by
  have hl := hs.len
  have nm : normR N = N := nm_norm fun l a b r e he => absurd he (hs.ne l a b r e)
  have sz : ∀ p ∈ N, SzR 8 p.s ∧ SzR 12 p.v ∧ SzR 6 p.k := fun p hp => by
    obtain ⟨j, h1, h2, e⟩ := hs.ks p hp
    refine ⟨((hs.qs p hp).1.mono (C := 100) (by omega)).sz (by decide) (by decide) (by decide), ((hs.qs p hp).2.mono (C := 2000) (by omega)).sz (by decide) (by decide) (by decide), ?_⟩
    rw [e]
    exact (SzR.divInt (n := 6) (.lit 6 (by omega) (by omega)) (.lit 6 (by decide) (by omega)) (by decide))
  have hN : Fk N := ⟨hs.rw, hs.st, nm, by omega, fun p hp => ⟨(sz p hp).1.mono (by omega), (sz p hp).2.1.mono (by omega), (sz p hp).2.2⟩⟩
  refine ⟨hN, ?_⟩
  have r2 := scl_rw (p := 2) (by decide +kernel) hs.rw
  have eS : splR N = scl 2 N := by unfold splR; rw [scl_norm (by decide +kernel), nm]
  refine ⟨by rw [eS]; exact r2, ?_, by rw [eS, scl_norm (by decide +kernel), nm], by rw [eS, scl_len]; omega, fun p hp => ?_⟩
  · rw [eS]
    intro l a b r e
    unfold scl at e
    obtain ⟨L1, L2, e1, e2, e3⟩ := List.map_eq_append_iff.mp e
    obtain ⟨a', L3, e4, e5, e6⟩ := List.map_eq_cons_iff.mp e3
    obtain ⟨b', L4, e7, e8, e9⟩ := List.map_eq_cons_iff.mp e6
    subst e4 e7
    have := hs.st _ a' b' L4 e1
    rw [← e5, ← e8]
    unfold sclP Pc.at at *
    simp only
    grind
  · rw [eS] at hp
    unfold scl at hp
    obtain ⟨q, hq, rfl⟩ := List.mem_map.mp hp
    obtain ⟨a, b, c⟩ := sz q hq
    exact ⟨a.mul two_sz (by omega), b.mul two_sz (by omega), c⟩
theorem qz_some {m k : Int} {B : Nat} (k1 : 1 ≤ k) (k4 : k ≤ 4) (hm : m.natAbs ≤ B) : Qz 12 (12 * B) (Rat.divInt m k) := by
  rcases (by omega : k = 1 ∨ k = 2 ∨ k = 3 ∨ k = 4) with rfl | rfl | rfl | rfl
  · exact qz_div (n := 12 * m) (by decide) (by omega) (by omega)
  · exact qz_div (n := 6 * m) (by decide) (by omega) (by omega)
  · exact qz_div (n := 4 * m) (by decide) (by omega) (by omega)
  · exact qz_div (n := 3 * m) (by decide) (by omega) (by omega)
/-! partings of a sum -/
def partR (R : List Pc) (z : Rat) : List Rat := sortR ([0, z, z * halfR] ++ R.flatMap fun p => if p.s < z then [p.s, z - p.s] else [])
def bestL (f : Rat → Rat) (b : Option (Rat × Rat)) (c : Rat) : Option (Rat × Rat) := match b with
  | none => some (f c, c)
  | some (v, d) => if f c < v then some (f c, c) else some (v, d)
def leastF (f : Rat → Rat) (cs : List Rat) : Option (Rat × Rat) := cs.foldl (bestL f) none
theorem leastF_snoc {f : Rat → Rat} {l : List Rat} {c : Rat} : leastF f (l ++ [c]) = bestL f (leastF f l) c := by unfold leastF; rw [List.foldl_append]; rfl
theorem leastF_spec {f : Rat → Rat} {cs : List Rat} : (leastF f cs = none ↔ cs = []) ∧ ∀ v c, leastF f cs = some (v, c) → c ∈ cs ∧ v = f c ∧ ∀ d ∈ cs, v ≤ f d := by
  induction cs using snoc_ind with
  | h0 => simp [leastF]
  | hs l z ih =>
    rw [leastF_snoc]
    obtain ⟨h1, h2⟩ := ih
    cases e : leastF f l with
    | none =>
      have := h1.mp e
      subst this
      refine ⟨by simp [bestL], fun v c h => ?_⟩
      simp [bestL] at h
      obtain ⟨rfl, rfl⟩ := h
      exact ⟨by simp, rfl, fun d hd => by simp at hd; subst hd; exact Rat.le_refl⟩
    | some vc =>
      obtain ⟨v0, c0⟩ := vc
      obtain ⟨h3, h4, h5⟩ := h2 v0 c0 e
      unfold bestL
      simp only
      by_cases k : f z < v0
      · rw [if_pos k]
        refine ⟨by simp, fun v c h => ?_⟩
        simp at h
        obtain ⟨rfl, rfl⟩ := h
        refine ⟨by simp, rfl, fun d hd => ?_⟩
        rcases List.mem_append.mp hd with hd | hd
        · have := h5 d hd; grind
        · simp at hd; subst hd; exact Rat.le_refl
      · rw [if_neg k]
        refine ⟨by simp, fun v c h => ?_⟩
        simp at h
        obtain ⟨rfl, rfl⟩ := h
        refine ⟨by simp [h3], h4, fun d hd => ?_⟩
        rcases List.mem_append.mp hd with hd | hd
        · exact h5 d hd
        · simp at hd; subst hd; grind
theorem partR_mem {R : List Pc} {z x : Rat} : x ∈ partR R z ↔ x = 0 ∨ x = z ∨ x = z * halfR ∨ ∃ p ∈ R, p.s < z ∧ (x = p.s ∨ x = z - p.s) := by
  unfold partR
  rw [sortR_mem, List.mem_append, List.mem_flatMap]
  simp only [List.mem_cons, List.not_mem_nil, or_false]
  constructor
  · rintro ((h | h | h) | ⟨p, hp, h⟩)
    · exact .inl h
    · exact .inr (.inl h)
    · exact .inr (.inr (.inl h))
    · by_cases c : p.s < z
      · rw [if_pos c] at h
        simp at h
        exact .inr (.inr (.inr ⟨p, hp, c, h⟩))
      · rw [if_neg c] at h; simp at h
  · rintro (h | h | h | ⟨p, hp, c, h⟩)
    · exact .inl (.inl h)
    · exact .inl (.inr (.inl h))
    · exact .inl (.inr (.inr h))
    · exact .inr ⟨p, hp, by rw [if_pos c]; simpa using h⟩
theorem partR_in {R : List Pc} (h : Rw R) {z x : Rat} (z0 : 0 ≤ z) (hx : x ∈ partR R z) : 0 ≤ x ∧ x ≤ z := by
  rcases partR_mem.mp hx with rfl | rfl | rfl | ⟨p, hp, c, rfl | rfl⟩
  · exact ⟨Rat.le_refl, z0⟩
  · exact ⟨z0, Rat.le_refl⟩
  · have h1 : 0 ≤ z * halfR := Rat.mul_nonneg z0 (by decide +kernel)
    have h2 : z * halfR + z * halfR = z := by have := half2; grind
    exact ⟨h1, by grind⟩
  · exact ⟨h.nonneg p hp, by grind⟩
  · have := h.nonneg p hp; exact ⟨by grind, by grind⟩
theorem least_all {R : List Pc} (hR : Row2 R) {x y v c : Rat} (x0 : 0 ≤ x) (y0 : 0 ≤ y) (h : leastF (fun t => apR R t (x + y - t)) (partR R (x + y)) = some (v, c)) : v ≤ apR R x y := by
  obtain ⟨_, _, h3⟩ := leastF_spec.2 v c h
  obtain ⟨p, hp, h1, h2⟩ := cor1 hR R 1 x0 y0
  have h4 : p.s ∈ partR R (x + y) := by
    rw [partR_mem]
    by_cases k : p.s < x + y
    · exact .inr (.inr (.inr ⟨p, hp, k, .inl rfl⟩))
    · exact .inr (.inl (by grind))
  have := h3 _ h4
  unfold lsR at h2
  rw [show p.s + (x + y - p.s) = x + y by grind] at h2
  grind
def sp_partings : List D → Mem → K1 → Prop := fun ds M q => ∃ R z, ds = [rowD R, rat z] ∧ RwN 90 R ∧ SzR 290 z ∧ ∀ f, M f = Option.none → q (.lst f) (M.up f ((partR R z).map rat))
def leastD (o : Option (Rat × Rat)) : D := match o with
  | some (v, x) => .tup [rat v, rat x]
  | none => .non
def sp_least_parting : List D → Mem → K1 → Prop := fun ds M q => ∃ R z, ds = [rowD R, rat z] ∧ RwN 90 R ∧ SzR 190 z ∧ 0 ≤ z ∧ q (leastD (leastF (fun t => apR R t (z - t)) (partR R z))) M
end TB

namespace TB
open PySem PySem.Spec PyProof.Rows L2
/-! Eng7: one row nowhere above another; convex rows and couples -/
theorem nowhere {A B : List Pc} (hA : Row2 A) (hB : Row2 B) (h : ∀ p ∈ A ++ B, valAt A p.s ≤ valAt B p.s) (hk : lastK A ≤ lastK B) : ∀ x, 0 ≤ x → valAt A x ≤ valAt B x := by
  obtain ⟨T, t0, hT⟩ := bigT (A ++ B)
  obtain ⟨z, hz, z0⟩ := hA.z
  have tail : ∀ x, T ≤ x → ∀ e, (∀ p ∈ A ++ B, p.s ≤ e) → e ≤ T → valAt A e ≤ valAt B e → valAt A x ≤ valAt B x := fun x hx e he eT h0 => by
    rw [past hA (e := e) (u := e) (fun p hp => he p (by simp [hp])) Rat.le_refl (by grind), past hB (e := e) (u := e) (fun p hp => he p (by simp [hp])) Rat.le_refl (by grind)]
    have := Rat.mul_nonneg (show 0 ≤ lastK B - lastK A by grind) (show 0 ≤ x - e by grind)
    grind
  obtain ⟨e, he, e1, e2⟩ := last_le (P := (A ++ B).map (·.s)) (t := T) (a := 0) (List.mem_map.mpr ⟨z, by simp [hz], z0⟩) (by grind)
  obtain ⟨w, hw, ew⟩ := List.mem_map.mp he
  have top : ∀ p ∈ A ++ B, p.s ≤ e := fun p hp => e2 p.s (List.mem_map.mpr ⟨p, hp, rfl⟩) (by have := hT p hp; grind)
  have atE : valAt A e ≤ valAt B e := by rw [← ew]; exact h w hw
  intro x x0
  rcases Rat.le_total (a := x) (b := e) with k | k
  · obtain ⟨p, hp, p0, p1, hg⟩ := max1 (g := fun t => valAt A t - valAt B t) (P := (A ++ B).map (·.s)) (a := 0) (b := e) (t := x) (List.mem_map.mpr ⟨z, by simp [hz], z0⟩) he x0 k (fun u v u0 uv vb no => by
      obtain ⟨c1, k1, h1⟩ := seg_lin hA.rw hA.st (u := u) (v := v) u0 fun p hp hc => no p.s (List.mem_map.mpr ⟨p, by simp [hp], rfl⟩) hc
      obtain ⟨c2, k2, h2⟩ := seg_lin hB.rw hB.st (u := u) (v := v) u0 fun p hp hc => no p.s (List.mem_map.mpr ⟨p, by simp [hp], rfl⟩) hc
      obtain ⟨c, k, h3⟩ := lin_mul h1 h2 1 (-1) 0
      refine ⟨c, k, fun s a b => ?_⟩
      rw [← h3 s a b]; grind)
    obtain ⟨q, hq, rfl⟩ := List.mem_map.mp hp
    have := h q hq
    grind
  · rw [past hA (e := e) (u := e) (fun p hp => top p (by simp [hp])) Rat.le_refl k, past hB (e := e) (u := e) (fun p hp => top p (by simp [hp])) Rat.le_refl k]
    have := Rat.mul_nonneg (show 0 ≤ lastK B - lastK A by grind) (show 0 ≤ x - e by grind)
    grind
theorem nowhere_k {A B : List Pc} (hA : Row2 A) (hB : Row2 B) (h : ∀ x, 0 ≤ x → valAt A x ≤ valAt B x) : lastK A ≤ lastK B := by
  obtain ⟨T, t0, hT⟩ := bigT (A ++ B)
  by_cases c : lastK A ≤ lastK B
  · exact c
  · exfalso
    have c : 0 < lastK A - lastK B := by grind
    have he : ∀ p ∈ A ++ B, p.s ≤ T := fun p hp => by have := hT p hp; grind
    have hT0 := h T (by grind)
    have d0 : 0 ≤ (valAt B T - valAt A T + 1) / (lastK A - lastK B) := by
      rw [Rat.div_def]
      exact Rat.mul_nonneg (by grind) (Rat.le_of_lt (Rat.inv_pos.mpr c))
    have hm : (lastK A - lastK B) * ((valAt B T - valAt A T + 1) / (lastK A - lastK B)) = valAt B T - valAt A T + 1 := by
      rw [Rat.mul_comm]
      exact Rat.div_mul_cancel (by grind)
    generalize (valAt B T - valAt A T + 1) / (lastK A - lastK B) = d at *
    have h1 := h (T + d) (by grind)
    rw [past hA (e := T) (u := T) (fun p hp => he p (by simp [hp])) Rat.le_refl (by grind), past hB (e := T) (u := T) (fun p hp => he p (by simp [hp])) Rat.le_refl (by grind)] at h1
    grind
/-- a slope between what lies before a place and what lies behind it -/
theorem cx_slope {R : List Pc} (h : Cx R) {m : Rat} (m0 : 0 ≤ m) : ∃ s : Rat, (∀ x, 0 ≤ x → x ≤ m → valAt R m - valAt R x ≤ s * (m - x)) ∧ (∀ x, 0 ≤ x → x ≤ m → ∀ w, 0 ≤ w → w ≤ x → valAt R x - valAt R w ≤ s * (x - w)) ∧ ∀ x y, m ≤ x → x ≤ y → s * (y - x) ≤ valAt R y - valAt R x := by
  obtain ⟨p, hp, hpR, hpm⟩ := h.rw.at_ex m0
  obtain ⟨l, r, e, _, bl⟩ := pieceAt_split h.rw.asc hp
  have as := h.rw.asc
  have last : ∀ q ∈ R, q.s ≤ m → q.s ≤ p.s := fun q hq hqm => by
    subst e
    rcases List.mem_append.mp hq with hq | hq
    · have := asc_left as hq; grind
    · rcases List.mem_cons.mp hq with rfl | hq
      · exact Rat.le_refl
      · exfalso
        cases r with
        | nil => simp at hq
        | cons b r =>
          have b1 : m < b.s := bl b.s rfl
          have b2 : b.s ≤ q.s := bd_le (l := l) (p := p) as hq rfl
          grind
  obtain ⟨z, hz, z0⟩ := h.rw.first
  have before : ∀ t, t ≤ m → ∀ q ∈ R, q.s < t → q.k ≤ p.k := fun t ht q hq hqt => h.mono hq hpR (last q hq (by grind))
  refine ⟨p.k, fun x x0 xm => high_growth as h.st (before m Rat.le_refl) x m ⟨z, hz, by grind⟩ xm Rat.le_refl, fun x x0 xm w w0 wx => high_growth as h.st (before x xm) w x ⟨z, hz, by grind⟩ wx Rat.le_refl, fun x y mx xy => low_growth as h.st hpR (fun q hq hqp => h.mono hpR hq hqp) x y (by grind) xy⟩
theorem cx_half {R : List Pc} (h : Cx R) {x y : Rat} (x0 : 0 ≤ x) (y0 : 0 ≤ y) : 2 * valAt R ((x + y) * halfR) ≤ valAt R x + valAt R y := by
  have hh := half2
  have key : ∀ x y : Rat, 0 ≤ x → x ≤ y → 2 * valAt R ((x + y) * halfR) ≤ valAt R x + valAt R y := fun x y x0 xy => by
    have m1 : (x + y) * halfR + (x + y) * halfR = x + y := by grind
    generalize (x + y) * halfR = m at *
    obtain ⟨s, h1, _, h3⟩ := cx_slope h (m := m) (by grind)
    have a := h1 x x0 (by grind)
    have b := h3 m y Rat.le_refl (by grind)
    have e : m - x = y - m := by grind
    rw [e] at a
    grind
  rcases Rat.le_total (a := x) (b := y) with k | k
  · exact key x y x0 k
  · have := key y x y0 k
    rw [Rat.add_comm y x] at this
    grind
theorem cx_one {R : List Pc} (h : Cx R) {x y : Rat} (x0 : 0 ≤ x) (y0 : 0 ≤ y) : valAt R x + valAt R y ≤ valAt R (x + y) + valAt R 0 := by
  have key : ∀ x y : Rat, 0 ≤ x → x ≤ y → valAt R x + valAt R y ≤ valAt R (x + y) + valAt R 0 := fun x y x0 xy => by
    obtain ⟨s, h1, _, h3⟩ := cx_slope h (m := x) x0
    have a := h1 0 Rat.le_refl x0
    have b := h3 y (x + y) xy (by grind)
    rw [show x - 0 = x by grind] at a
    rw [show x + y - y = x by grind] at b
    grind
  rcases Rat.le_total (a := x) (b := y) with k | k
  · exact key x y x0 k
  · have := key y x y0 k
    rw [Rat.add_comm y x] at this
    grind
theorem cx_lose {R J : List Pc} (h : Cx R) (hJ : Row2 J) : loseR R J = none ↔ ∀ z, 0 ≤ z → valAt J z ≤ valAt (splR R) z := by
  rw [(lose_spec ⟨h.rw, h.st⟩ hJ).1]
  constructor
  · intro hl z z0
    have := hl (z * halfR) (z * halfR) (Rat.mul_nonneg z0 (by decide +kernel)) (Rat.mul_nonneg z0 (by decide +kernel))
    rw [spl_val h.rw]
    unfold lsR apR at this
    rw [show z * halfR + z * halfR = z by have := half2; grind] at this
    grind
  · intro hz x y x0 y0
    have h1 := hz (x + y) (by grind)
    rw [spl_val h.rw] at h1
    have h2 := cx_half h x0 y0
    unfold lsR apR
    grind
theorem cx_gain {R J : List Pc} (h : Cx R) (hJ : Row2 J) : gainR R J = none ↔ ∀ z, 0 ≤ z → valAt R z + valAt R 0 ≤ valAt J z := by
  rw [(gain_spec ⟨h.rw, h.st⟩ hJ).1]
  constructor
  · intro hl z z0
    have := hl 0 z Rat.le_refl z0
    unfold lsR apR at this
    rw [show 0 + z = z by grind] at this
    grind
  · intro hz x y x0 y0
    have h1 := hz (x + y) (by grind)
    have h2 := cx_one h x0 y0
    unfold lsR apR
    grind
end TB

namespace TB
open PySem PySem.Spec PyProof.Rows L2
/-! Eng8: steady rows with common denominators; sums; rows nowhere above others as the program looks -/
def addN (A B : List Pc) : List Pc := normR (addRaw A B)
theorem addN_val {A B : List Pc} (hA : Rw A) (hB : Rw B) {x : Rat} (hx : 0 ≤ x) : valAt (addN A B) x = valAt A x + valAt B x ∧ slAt (addN A B) x = slAt A x + slAt B x := by
  have as := (addRaw_rw hA hB).asc
  unfold addN
  rw [(normR_val as).1, normR_sl as]
  exact ⟨addRaw_val hA hB hx, addRaw_sl hA hB hx⟩
/-- slopes in d-ths, values in 2d-ths, starts in halves up to 200 -/
structure KQ (d b n : Nat) (R : List Pc) : Prop where
  rw : Rw R
  st : Steady R
  len : R.length ≤ n
  qs : ∀ p ∈ R, Qz 2 400 p.s ∧ Qz (2 * d) (2 ^ b) p.v ∧ Qz d (2 ^ b) p.k
theorem KQ.r2 {d b n : Nat} {R : List Pc} (h : KQ d b n R) : Row2 R := ⟨h.rw, h.st⟩
theorem KQ.mono {d b c n m : Nat} {R : List Pc} (h : KQ d b n R) (hb : b ≤ c) (hn : n ≤ m) : KQ d c m R :=
  ⟨h.rw, h.st, Nat.le_trans h.len hn, fun p hp => by
    have l := Nat.pow_le_pow_right (n := 2) (by decide) hb
    exact ⟨(h.qs p hp).1, (h.qs p hp).2.1.mono l, (h.qs p hp).2.2.mono l⟩⟩
theorem KQ.n {d b n k : Nat} {R : List Pc} (h : KQ d b n R) (d0 : 0 < d) (hn : n ≤ 60) (hb : b < k) (hd : 2 * d < 2 ^ k) (h9 : 9 ≤ k) : RwN k R := by
  have l := Nat.pow_lt_pow_right (a := 2) (by decide) hb
  have l9 := Nat.pow_le_pow_right (n := 2) (by decide) h9
  exact ⟨h.rw, Nat.le_trans h.len hn, fun p hp => ⟨(h.qs p hp).1.sz (by decide) (by omega) (by omega), (h.qs p hp).2.1.sz (by omega) l hd, (h.qs p hp).2.2.sz d0 l (by omega)⟩⟩
theorem KQ.norm {d b n : Nat} {R : List Pc} (h : KQ d b n R) : KQ d b n (normR R) :=
  ⟨normR_rw h.rw, normR_steady h.rw.asc h.st, Nat.le_trans (normR_sub R).length_le h.len, fun p hp => h.qs p ((normR_sub R).subset hp)⟩
theorem KQ.fine {d b n c k : Nat} {R : List Pc} (h : KQ d b n R) (hc : c ≤ 2 ^ k) : KQ (d * c) (b + k) n R :=
  ⟨h.rw, h.st, h.len, fun p hp => by
    have l : 2 ^ b * c ≤ 2 ^ (b + k) := by rw [Nat.pow_add]; exact Nat.mul_le_mul_left _ hc
    refine ⟨(h.qs p hp).1, ?_, ((h.qs p hp).2.2.fine c).mono l⟩
    have := (h.qs p hp).2.1.fine c
    rw [Nat.mul_assoc] at this
    exact this.mono l⟩
/-- a value at a place in halves -/
theorem KQ.val {d b n : Nat} {R : List Pc} (h : KQ d b n R) {x : Rat} (x0 : 0 ≤ x) (hx : Qz 2 400 x) : Qz (2 * d) (2 ^ b * 801) (valAt R x) ∧ Qz d (2 ^ b) (slAt R x) := by
  obtain ⟨p, hp, hpR, _⟩ := h.rw.at_ex x0
  obtain ⟨s1, s2, s3⟩ := h.qs p hpR
  rw [valAt_of hp, slAt_of hp]
  refine ⟨?_, s3⟩
  have h1 : Qz 2 800 (x - p.s) := hx.sub s1
  have h2 := s3.mul h1
  rw [Nat.mul_comm d 2] at h2
  unfold Pc.at
  exact (s2.add h2).mono (by omega)
theorem KQ.addRaw {d b n m : Nat} {A B : List Pc} (hA : KQ d b n A) (hB : KQ d b m B) : KQ d (b + 11) (n + m) (addRaw A B) := by
  refine ⟨addRaw_rw hA.rw hB.rw, addRaw_steady hA.rw hB.rw hA.st hB.st, ?_, fun p hp => ?_⟩
  · rw [addRaw_len]
    have h1 := hA.len
    have h2 := hB.len
    have : (allS A B).length ≤ (A ++ B).length := by unfold allS; exact Nat.le_trans sortR_len (by simp)
    rw [List.length_append] at this
    omega
  · obtain ⟨q, hq, e⟩ := addRaw_s hp
    have s1 : Qz 2 400 p.s ∧ 0 ≤ p.s := by
      rw [← e]
      rcases hq with hq | hq
      · exact ⟨(hA.qs q hq).1, hA.rw.nonneg q hq⟩
      · exact ⟨(hB.qs q hq).1, hB.rw.nonneg q hq⟩
    unfold TB.addRaw at hp
    obtain ⟨t, _, rfl⟩ := List.mem_map.mp hp
    obtain ⟨v1, k1⟩ := hA.val s1.2 s1.1
    obtain ⟨v2, k2⟩ := hB.val s1.2 s1.1
    have l : 2 ^ (b + 11) = 2 ^ b * 2048 := by rw [Nat.pow_add]
    exact ⟨s1.1, (v1.add v2).mono (by omega), (k1.add k2).mono (by omega)⟩
theorem KQ.add {d b n m : Nat} {A B : List Pc} (hA : KQ d b n A) (hB : KQ d b m B) : KQ d (b + 11) (n + m) (addN A B) := (hA.addRaw hB).norm
theorem KQ.neg {d b n : Nat} {R : List Pc} (h : KQ d b n R) : KQ d b n (R.map (scP (-1))) := by
  refine ⟨sc_rw h.rw, sc_steady h.st, by rw [List.length_map]; exact h.len, fun p hp => ?_⟩
  obtain ⟨q, hq, rfl⟩ := List.mem_map.mp hp
  obtain ⟨a, b, c⟩ := h.qs q hq
  refine ⟨a, ?_, ?_⟩
  · show Qz _ _ (q.v * -1)
    rw [show q.v * -1 = -q.v by grind]; exact b.neg
  · show Qz _ _ (q.k * -1)
    rw [show q.k * -1 = -q.k by grind]; exact c.neg
theorem Qz.half {d B : Nat} {x : Rat} (h : Qz d B x) : Qz (d * 2) B (x * halfR) := by
  obtain ⟨m, e, l⟩ := h
  refine ⟨m, ?_, l⟩
  have e1 : (((d * 2 : Nat) : Int) : Rat) = ((d : Int) : Rat) * 2 := by rw [show ((d * 2 : Nat) : Int) = (d : Int) * 2 by omega, Rat.intCast_mul]; rfl
  have := half2
  rw [e1, ← e]; grind
theorem KQ.half {d b n : Nat} {R : List Pc} (h : KQ d b n R) : KQ (d * 2) b n (R.map (scP halfR)) := by
  refine ⟨sc_rw h.rw, sc_steady h.st, by rw [List.length_map]; exact h.len, fun p hp => ?_⟩
  obtain ⟨q, hq, rfl⟩ := List.mem_map.mp hp
  obtain ⟨a, b, c⟩ := h.qs q hq
  refine ⟨a, ?_, c.half⟩
  have := b.half
  rw [Nat.mul_assoc] at this
  exact this
theorem KQ.dbl {d b n : Nat} {R : List Pc} (h : KQ d b n R) : KQ d (b + 1) n (R.map (scP 2)) := by
  refine ⟨sc_rw h.rw, sc_steady h.st, by rw [List.length_map]; exact h.len, fun p hp => ?_⟩
  obtain ⟨q, hq, rfl⟩ := List.mem_map.mp hp
  obtain ⟨a, b', c⟩ := h.qs q hq
  have l : 2 ^ (b + 1) = 2 ^ b * 2 := by rw [Nat.pow_add]
  refine ⟨a, ?_, ?_⟩
  · show Qz _ _ (q.v * 2)
    rw [show q.v * 2 = q.v + q.v by grind]; exact (b'.add b').mono (by omega)
  · show Qz _ _ (q.k * 2)
    rw [show q.k * 2 = q.k + q.k by grind]; exact (c.add c).mono (by omega)
theorem KQ.line {d b : Nat} {v k : Rat} (hv : Qz (2 * d) (2 ^ b) v) (hk : Qz d (2 ^ b) k) : KQ d b 1 [⟨0, v, k⟩] :=
  ⟨⟨by simp [Asc], by simp, fun p hp => by simp at hp; rw [← hp]⟩, fun l a b r e => by have := congrArg List.length e; simp at this; omega, by simp, fun p hp => by simp at hp; subst hp; exact ⟨.zero, hv, hk⟩⟩
theorem kq_std {m : Nat} {low high : Int} {asc : Bool} {N : List Pc} (hs : StdR m low high asc N) (hm : m ≤ 6) (hl : -20 ≤ low) (hh : high ≤ 20) : KQ 10 12 m N ∧ KQ 10 13 m (splR N) ∧ normR N = N := by
  have hlen : N.length ≤ m := by have := hs.len; omega
  have nm : normR N = N := nm_norm fun l a b r e he => absurd he (hs.ne l a b r e)
  have q : ∀ p ∈ N, Qz 2 144 p.s ∧ Qz 20 2920 p.v ∧ Qz 10 20 p.k := fun p hp => by
    obtain ⟨j, h1, h2, e⟩ := hs.ks p hp
    refine ⟨(hs.qs p hp).1.mono (by omega), (hs.qs p hp).2.mono (by omega), ?_⟩
    rw [e]; exact qz_div (n := j) (by decide) (by omega) (by omega)
  have h1 : KQ 10 12 m N := ⟨hs.rw, hs.st, hlen, fun p hp => ⟨(q p hp).1.mono (by decide), (q p hp).2.1.mono (by decide), (q p hp).2.2.mono (by decide)⟩⟩
  refine ⟨h1, ?_, nm⟩
  have r2 := scl_rw (p := 2) (by decide +kernel) hs.rw
  have eS : splR N = scl 2 N := by unfold splR; rw [scl_norm (by decide +kernel), nm]
  rw [eS]
  refine ⟨r2, ?_, by rw [scl_len]; exact hlen, fun p hp => ?_⟩
  · intro l a b r e
    unfold scl at e
    obtain ⟨L1, L2, e1, e2, e3⟩ := List.map_eq_append_iff.mp e
    obtain ⟨a', L3, e4, e5, e6⟩ := List.map_eq_cons_iff.mp e3
    obtain ⟨b', L4, e7, e8, e9⟩ := List.map_eq_cons_iff.mp e6
    subst e4 e7
    have := hs.st _ a' b' L4 e1
    rw [← e5, ← e8]
    unfold sclP Pc.at at *
    simp only
    grind
  · unfold scl at hp
    obtain ⟨p', hq, rfl⟩ := List.mem_map.mp hp
    obtain ⟨a, b, c⟩ := q p' hq
    refine ⟨?_, ?_, c.mono (by decide)⟩
    · show Qz _ _ (p'.s * 2)
      rw [show p'.s * 2 = p'.s + p'.s by grind]; exact (a.add a).mono (by decide)
    · show Qz _ _ (p'.v * 2)
      rw [show p'.v * 2 = p'.v + p'.v by grind]; exact (b.add b).mono (by decide)
theorem cx_std {m low high : Int} {N : List Pc} (hs : StdR m low high true N) : Cx N := ⟨hs.rw, hs.st, hs.up rfl⟩
theorem lastK_norm {R : List Pc} (h : Rw R) : lastK (normR R) = lastK R := by
  obtain ⟨a, _, la, ea⟩ := lastK_get (normR_rw h).ne
  obtain ⟨p, hp, _, ek, _⟩ := (normR_val h.asc).2 a la
  rw [ea, ek]; unfold lastK; rw [hp]; rfl
/-! calls -/
theorem val_on {n : Nat} {R : List Pc} {x : Rat} {M : Mem} {q : K1} (h : RwN n R) (hn : n ≤ 300) (x0 : 0 ≤ x) (hx : SzR 1000 x) (k : q (rat (valAt R x)) M) : sp_value_at [rowD R, rat x] M q := by
  obtain ⟨p, hp, _, _⟩ := h.rw.at_ex x0
  exact ⟨R, x, p, rfl, h.w hn, hx, hp, by rw [← valAt_of hp]; exact k⟩
theorem sl_on {n : Nat} {R : List Pc} {x : Rat} {M : Mem} {q : K1} (h : RwN n R) (hn : n ≤ 300) (x0 : 0 ≤ x) (hx : SzR 1000 x) (k : q (rat (slAt R x)) M) : sp_slope_at [rowD R, rat x] M q := by
  obtain ⟨p, hp, _, _⟩ := h.rw.at_ex x0
  exact ⟨R, x, p, rfl, h.w hn, hx, hp, by rw [← slAt_of hp]; exact k⟩
theorem at_on {n : Nat} {R : List Pc} {x : Rat} {M : Mem} {q : K1} (h : RwN n R) (hn : n ≤ 300) (x0 : 0 ≤ x) (hx : SzR 1000 x) (k : q (rat (valAt R x)) M) : sp_law_at [rowD R, rat x] M q := by
  obtain ⟨p, hp, _, _⟩ := h.rw.at_ex x0
  exact ⟨R, x, p, rfl, (h.w hn).sz, Nat.le_trans h.len (by decide), hx, hp, by rw [← valAt_of hp]; exact k⟩
theorem RwN.valS {n m k : Nat} {R : List Pc} (h : RwN n R) {x : Rat} (x0 : 0 ≤ x) (hx : SzR m x) (e : m + 3 * n + 2 ≤ k) : SzR k (valAt R x) := by
  obtain ⟨_, _, _, _, s⟩ := h.val x0 hx; exact s.mono e
theorem RwN.slS {n : Nat} {R : List Pc} (h : RwN n R) {x : Rat} (x0 : 0 ≤ x) : SzR n (slAt R x) := by
  obtain ⟨p, hp, hpR, _⟩ := h.rw.at_ex x0
  rw [slAt_of hp]; exact (h.sz p hpR).2.2
theorem cut_rats {X : List Rat} {lo hi : Option Int} : ∃ Y : List Rat, cutD (X.map rat) lo hi = Y.map rat ∧ ∀ y ∈ Y, y ∈ X :=
  ⟨cutD X lo hi, by simp [cutD, List.map_take, List.map_drop], fun y hy => List.mem_of_mem_drop (List.mem_of_mem_take hy)⟩
/-! nowhere above -/
def nwB (A B : List Pc) : Bool := (A ++ B).all (fun p => decide (valAt A p.s ≤ valAt B p.s)) && decide (lastK A ≤ lastK B)
theorem nwB_iff {A B : List Pc} (hA : Row2 A) (hB : Row2 B) : nwB A B = true ↔ ∀ x, 0 ≤ x → valAt A x ≤ valAt B x := by
  unfold nwB
  rw [Bool.and_eq_true, List.all_eq_true, decide_eq_true_eq]
  constructor
  · rintro ⟨h1, h2⟩
    exact nowhere hA hB (fun p hp => by simpa using h1 p hp) h2
  · intro h
    refine ⟨fun p hp => ?_, nowhere_k hA hB h⟩
    rw [decide_eq_true_eq]
    refine h p.s ?_
    rcases List.mem_append.mp hp with hp | hp
    · exact hA.rw.nonneg p hp
    · exact hB.rw.nonneg p hp
def sp_crossings : List D → Mem → K1 → Prop := fun ds M q => ∃ A B, ds = [rowD A, rowD B] ∧ RwN 80 A ∧ RwN 80 B ∧ ∀ (X : List Rat) f, AscR X → (∀ p ∈ A ++ B, p.s ∈ X) → (∀ x ∈ X, 0 ≤ x ∧ SzR 990 x) → X.length ≤ 250 → M f = Option.none → q (.lst f) (M.up f (X.map rat))
def sp_is_nowhere_above : List D → Mem → K1 → Prop := fun ds M q => ∃ A B, ds = [rowD A, rowD B] ∧ RwN 80 A ∧ RwN 80 B ∧ Row2 A ∧ Row2 B ∧ q (.bl (nwB A B)) M
end TB

namespace TB
open PySem PySem.Spec PyProof.Rows L2
/-! Eng9: years with gains and losses -/
def mn (a b : Rat) : Rat := if a < b then a else b
def gn (x : Rat) : Rat := mx x 0
def ls (x : Rat) : Rat := mx (0 - x) 0
theorem mn_le {a b : Rat} : mn a b ≤ a ∧ mn a b ≤ b := by unfold mn; split <;> constructor <;> grind
theorem mn_or {a b : Rat} : mn a b = a ∨ mn a b = b := by unfold mn; split <;> simp
theorem le_mn {a b c : Rat} : c ≤ mn a b ↔ c ≤ a ∧ c ≤ b := by unfold mn; split <;> grind
theorem mn_sz {n : Nat} {a b : Rat} (ha : SzR n a) (hb : SzR n b) : SzR n (mn a b) := by unfold mn; split <;> assumption
theorem gn_nn {x : Rat} : 0 ≤ gn x := by unfold gn mx; split <;> grind
theorem ls_nn {x : Rat} : 0 ≤ ls x := by unfold ls mx; split <;> grind
theorem gn_pos {x : Rat} (h : 0 < x) : gn x = x := by unfold gn mx; rw [if_neg (by grind)]
theorem gn_neg {x : Rat} (h : x ≤ 0) : gn x = 0 := by unfold gn mx; split <;> grind
theorem ls_neg {x : Rat} (h : x < 0) : ls x = -x := by unfold ls mx; rw [if_neg (by grind)]; grind
theorem ls_pos {x : Rat} (h : 0 ≤ x) : ls x = 0 := by unfold ls mx; split <;> grind
theorem gn_sz {n : Nat} {x : Rat} (h : SzR n x) (hn : 1 ≤ n) : SzR n (gn x) := mx_sz h (SzR.zero.mono hn)
theorem ls_sz0 {n m : Nat} {x : Rat} (h : SzR n x) (hm : n + 2 ≤ m) : SzR m (ls x) := mx_sz (SzR.zero.subw h (by omega)) (SzR.zero.mono (by omega))
/-- years of bounded size -/
structure YS (ys : List Rat) : Prop where
  len : ys.length ≤ 20
  sz : ∀ y ∈ ys, SzR 40 y
def roomR (ys us : List Rat) (k : Nat) : Rat := sumR ((ys.take k).map ls) - sumR (us.take (k + 1))
def roomsR (ys us : List Rat) : List Rat := (List.range ys.length).map (roomR ys us)
theorem roomsR_len {ys us : List Rat} : (roomsR ys us).length = ys.length := by unfold roomsR; rw [List.length_map, List.length_range]
theorem roomsR_get {ys us : List Rat} {k : Nat} (h : k < ys.length) : (roomsR ys us)[k]? = some (roomR ys us k) := by
  unfold roomsR; rw [List.getElem?_map, List.getElem?_range h]; rfl
theorem YS.ls {ys : List Rat} (h : YS ys) : ∀ k, SzR 861 (sumR ((ys.take k).map ls)) := fun k => by
  refine szR_sums (m := 42) (n := 20) (fun x hx => ?_) ?_ (by omega)
  · obtain ⟨y, hy, rfl⟩ := List.mem_map.mp hx
    exact ls_sz0 (h.sz y (List.mem_of_mem_take hy)) (by omega)
  · rw [List.length_map]; exact Nat.le_trans (List.length_take_le' _ _) h.len
theorem YS.us {us : List Rat} (h : YS us) : ∀ k, SzR 821 (sumR (us.take k)) := fun k => szR_part (m := 40) (n := 20) h.sz h.len (by omega) k
theorem room_sz {ys us : List Rat} (h : YS ys) (hu : YS us) (k : Nat) : SzR 1683 (roomR ys us k) := (h.ls k).subw (hu.us (k + 1)) (by omega)
/-- losses taken off as soon as can be -/
def onceS (s : List Rat × Rat) (x : Rat) : List Rat × Rat := (s.1 ++ [mn s.2 (gn x)], s.2 - mn s.2 (gn x) + ls x)
def onceR (ys : List Rat) : List Rat × Rat := ys.foldl onceS ([], 0)
theorem onceR_snoc {ys : List Rat} {x : Rat} : onceR (ys ++ [x]) = onceS (onceR ys) x := by unfold onceR; rw [List.foldl_append]; rfl
theorem sumR_nil : sumR [] = 0 := rfl
theorem onceR_inv {ys : List Rat} : (onceR ys).1.length = ys.length ∧ 0 ≤ (onceR ys).2 ∧ (onceR ys).2 = sumR (ys.map ls) - sumR (onceR ys).1 := by
  induction ys using snoc_ind with
  | h0 => exact ⟨rfl, Rat.le_refl, by unfold onceR; simp [sumR]; decide +kernel⟩
  | hs l x ih =>
    obtain ⟨h1, h2, h3⟩ := ih
    rw [onceR_snoc]
    unfold onceS
    simp only
    refine ⟨by simp [h1], ?_, ?_⟩
    · have := (mn_le (a := (onceR l).2) (b := gn x)).1
      have := ls_nn (x := x)
      grind
    · rw [List.map_append, sumR_snoc, List.map_cons, List.map_nil, sumR_snoc, h3]; grind
/-- every part: what is left before, no more than the gain; the rooms are never below nought -/
theorem onceR_get {ys : List Rat} : ∀ k x, ys[k]? = some x → (onceR ys).1[k]? = some (mn (onceR (ys.take k)).2 (gn x)) := by
  induction ys using snoc_ind with
  | h0 => intro k x h; simp at h
  | hs l z ih =>
    intro k x h
    rw [onceR_snoc]
    unfold onceS
    simp only
    by_cases c : k < l.length
    · rw [List.getElem?_append_left c] at h
      rw [List.getElem?_append_left (by rw [onceR_inv.1]; exact c), ih k x h, List.take_append_of_le_length (Nat.le_of_lt c)]
    · have hk : k = l.length := by
        have := (List.getElem?_eq_some_iff.mp h).1
        simp at this; omega
      subst hk
      rw [List.getElem?_append_right (Nat.le_refl _), Nat.sub_self] at h
      simp at h
      subst h
      rw [List.getElem?_append_right (by rw [onceR_inv.1]; exact Nat.le_refl _), onceR_inv.1, Nat.sub_self]
      simp
theorem onceR_take {ys : List Rat} {k : Nat} : (onceR (ys.take k)).1 = (onceR ys).1.take k := by
  apply List.ext_getElem?
  intro i
  by_cases c : i < k
  · rw [List.getElem?_take_of_lt c]
    by_cases d : i < ys.length
    · have e : ys[i]? = some ys[i] := List.getElem?_eq_getElem d
      have e2 : (ys.take k)[i]? = some ys[i] := by rw [List.getElem?_take_of_lt c]; exact e
      rw [onceR_get i _ e, onceR_get i _ e2, List.take_take, Nat.min_eq_left (Nat.le_of_lt c)]
    · rw [List.getElem?_eq_none (by rw [onceR_inv.1, List.length_take]; omega), List.getElem?_eq_none (by rw [onceR_inv.1]; omega)]
  · rw [List.getElem?_eq_none (by rw [onceR_inv.1, List.length_take]; omega), List.getElem?_eq_none (by rw [List.length_take]; omega)]
theorem once_part {ys : List Rat} {k : Nat} {u x : Rat} (hx : ys[k]? = some x) (hu : (onceR ys).1[k]? = some u) : 0 ≤ u ∧ u ≤ gn x ∧ 0 ≤ roomR ys (onceR ys).1 k ∧ (x ≤ 0 → u = 0) := by
  have e := onceR_get k x hx
  rw [hu] at e
  cases e
  obtain ⟨i1, i2, i3⟩ := onceR_inv (ys := ys.take k)
  have g0 := gn_nn (x := x)
  obtain ⟨m1, m2⟩ := mn_le (a := (onceR (ys.take k)).2) (b := gn x)
  have m0 : 0 ≤ mn (onceR (ys.take k)).2 (gn x) := le_mn.mpr ⟨i2, g0⟩
  refine ⟨m0, m2, ?_, fun h => ?_⟩
  · unfold roomR
    rw [sumR_take hu, ← onceR_take]
    grind
  · rw [gn_neg h] at m2
    rw [gn_neg h] at m0
    rw [gn_neg h]
    grind
def zp (ys us : List Rat) : List (Rat × Rat) := ys.zip us
def okU (p : Rat × Rat) : Bool := decide (0 ≤ p.2) && decide (p.2 ≤ gn p.1)
theorem zip_any : ∀ ys us : List Rat, (us.zip ys).any (fun p => !okU (p.2, p.1)) = !(ys.zip us).all okU
  | [], us => by cases us <;> rfl
  | y :: ys, [] => rfl
  | y :: ys, u :: us => by
    simp only [List.zip_cons_cons, List.any_cons, List.all_cons, zip_any ys us, Bool.not_and]
def useB (ys : List Rat) : D → Bool
  | .tup es => decide (es.length = ys.length) && (es.all isRat && ((ys.zip (es.map toR)).all okU && (roomsR ys (es.map toR)).all fun r => decide (0 ≤ r)))
  | _ => false
def yrsB : D → Bool
  | .tup es => decide (1 ≤ es.length) && (decide (es.length ≤ 20) && es.all isRat)
  | _ => false
def yrB (n : Nat) : D → Bool
  | .int i => decide (0 ≤ i) && decide (i < n)
  | _ => false
def taxU (R : List Pc) (ys us : List Rat) : Rat := sumR ((ys.zip us).map fun p => valAt R (gn p.1 - p.2))
def taxP (R : List Pc) (ys : List Rat) : Rat := sumR (ys.map fun x => valAt R (gn x))
def ysD (ys : List Rat) : D := .tup (ys.map rat)
def sp_upper := sp_rr 4000 fun x y => rat (mx x y)
def sp_lower := sp_rr 4000 fun x y => rat (mn x y)
def sp_gains_of : List D → Mem → K1 → Prop := fun ds M q => ∃ ys, ds = [ysD ys] ∧ YS ys ∧ q (ysD (ys.map gn)) M
def sp_losses_of : List D → Mem → K1 → Prop := fun ds M q => ∃ ys, ds = [ysD ys] ∧ YS ys ∧ q (ysD (ys.map ls)) M
def sp_plain_tax : List D → Mem → K1 → Prop := fun ds M q => ∃ R ys, ds = [rowD R, ysD ys] ∧ RwN 30 R ∧ YS ys ∧ q (rat (taxP R ys)) M
def sp_tax_with : List D → Mem → K1 → Prop := fun ds M q => ∃ R ys us, ds = [rowD R, ysD ys, ysD us] ∧ RwN 30 R ∧ YS ys ∧ YS us ∧ (∀ p ∈ ys.zip us, p.2 ≤ gn p.1) ∧ q (rat (taxU R ys us)) M
def sp_carried_at_once : List D → Mem → K1 → Prop := fun ds M q => ∃ ys, ds = [ysD ys] ∧ YS ys ∧ (∀ k, SzR 1000 (onceR (ys.take k)).2) ∧ q (.tup [ysD (onceR ys).1, rat (onceR ys).2]) M
def sp_rooms_of : List D → Mem → K1 → Prop := fun ds M q => ∃ ys us, ds = [ysD ys, ysD us] ∧ YS ys ∧ YS us ∧ us.length = ys.length ∧ q (ysD (roomsR ys us)) M
def minR (l : List Rat) : Rat := match l with
  | [] => 0
  | x :: xs => xs.foldl mn x
def sp_least_room : List D → Mem → K1 → Prop := fun ds M q => ∃ ys us, ∃ k : Nat, ds = [ysD ys, ysD us, .int (k : Nat)] ∧ YS ys ∧ YS us ∧ us.length = ys.length ∧ k < ys.length ∧ q (rat (minR ((roomsR ys us).drop k))) M
def sp_is_use : List D → Mem → K1 → Prop := fun ds M q => ∃ ys d n L k, ds = [ysD ys, d] ∧ YS ys ∧ fD false n L k d = true ∧ n ≤ 40 ∧ q (.bl (useB ys d)) M
def sp_are_years : List D → Mem → K1 → Prop := fun ds M q => ∃ d n L k, ds = [d] ∧ fD false n L k d = true ∧ n ≤ 3900 ∧ q (.bl (yrsB d)) M
def sp_is_year : List D → Mem → K1 → Prop := fun ds M q => ∃ ys d, ds = [ysD ys, d] ∧ d.pure = true ∧ q (.bl (yrB ys.length d)) M
theorem minR_step {a : Rat} {l : List Rat} {x : Rat} : minR ((a :: l) ++ [x]) = mn (minR (a :: l)) x := by
  show (l ++ [x]).foldl mn a = mn (l.foldl mn a) x
  rw [List.foldl_append]; rfl
theorem minR_mem : ∀ {l : List Rat}, l ≠ [] → minR l ∈ l := by
  intro l
  induction l using snoc_ind with
  | h0 => intro h; exact absurd rfl h
  | hs l z ih =>
    intro _
    cases l with
    | nil => simp [minR]
    | cons a l =>
      rw [minR_step]
      rcases mn_or (a := minR (a :: l)) (b := z) with h | h
      · rw [h]; exact List.mem_append_left _ (ih (by simp))
      · rw [h]; simp
end TB

/-! Engg: incomes in order, begun sums, which is more even; the greatest parting -/
namespace TB
open PySem PySem.Spec PyProof.Rows L2
def insU (R : List Rat) (x : Rat) : List Rat := R.take (R.filter fun y => !decide (x < y)).length ++ [x] ++ R.drop (R.filter fun y => !decide (x < y)).length
def ordR (xs : List Rat) : List Rat := xs.foldl insU []
def UpL (R : List Rat) : Prop := R.Pairwise fun a b => a ≤ b
theorem insU_perm {R : List Rat} {x : Rat} : (insU R x).Perm (x :: R) := by
  unfold insU
  have h : (R.take (R.filter fun y => !decide (x < y)).length ++ [x] ++ R.drop (R.filter fun y => !decide (x < y)).length).Perm (x :: (R.take (R.filter fun y => !decide (x < y)).length ++ R.drop (R.filter fun y => !decide (x < y)).length)) := by
    rw [List.append_assoc]
    exact List.perm_middle
  rwa [List.take_append_drop] at h
theorem cntU {x : Rat} : ∀ {R : List Rat}, UpL R → (∀ y ∈ R.take (R.filter fun y => !decide (x < y)).length, y ≤ x) ∧ ∀ y ∈ R.drop (R.filter fun y => !decide (x < y)).length, x < y
  | [], _ => by simp
  | a :: R, h => by
    obtain ⟨h1, h2⟩ := List.pairwise_cons.mp h
    have ih := cntU (x := x) h2
    by_cases c : x < a
    · have e : (a :: R).filter (fun y => !decide (x < y)) = [] := by
        rw [List.filter_eq_nil_iff]
        intro y hy
        have : x < y := by
          rcases List.mem_cons.mp hy with rfl | hy
          · exact c
          · have := h1 y hy; grind
        simp [this]
      rw [e]
      refine ⟨by simp, fun y hy => ?_⟩
      simp at hy
      rcases hy with rfl | hy
      · exact c
      · have := h1 y hy; grind
    · rw [List.filter_cons, if_pos (by simp [c]), List.length_cons, List.take_succ_cons, List.drop_succ_cons]
      refine ⟨fun y hy => ?_, ih.2⟩
      rcases List.mem_cons.mp hy with rfl | hy
      · grind
      · exact ih.1 y hy
theorem insU_up {R : List Rat} {x : Rat} (h : UpL R) : UpL (insU R x) := by
  obtain ⟨h1, h2⟩ := cntU (x := x) h
  unfold insU
  generalize (R.filter fun y => !decide (x < y)).length = n at *
  have hR : UpL (R.take n ++ R.drop n) := by rw [List.take_append_drop]; exact h
  obtain ⟨a, b, cc⟩ := List.pairwise_append.mp hR
  unfold UpL
  rw [List.append_assoc, List.pairwise_append]
  refine ⟨a, ?_, fun y hy z hz => ?_⟩
  · rw [List.cons_append, List.pairwise_cons]
    exact ⟨fun y hy => by rw [List.nil_append] at hy; exact Rat.le_of_lt (h2 y hy), by rw [List.nil_append]; exact b⟩
  · rw [List.cons_append] at hz
    rcases List.mem_cons.mp hz with rfl | hz
    · exact h1 y hy
    · exact cc y hy z hz
theorem foldl_insU : ∀ (xs R : List Rat), UpL R → UpL (xs.foldl insU R) ∧ (xs.foldl insU R).Perm (xs ++ R)
  | [], R, h => ⟨h, List.Perm.refl _⟩
  | x :: xs, R, h => by
    obtain ⟨a, b⟩ := foldl_insU xs (insU R x) (insU_up h)
    refine ⟨a, b.trans ?_⟩
    exact ((List.Perm.refl xs).append insU_perm).trans List.perm_middle
theorem ord_up {xs : List Rat} : UpL (ordR xs) := (foldl_insU xs [] (by simp [UpL])).1
theorem ord_perm {xs : List Rat} : (ordR xs).Perm xs := by
  have := (foldl_insU xs [] (by simp [UpL])).2
  rwa [List.append_nil] at this
theorem ord_len {xs : List Rat} : (ordR xs).length = xs.length := ord_perm.length_eq
theorem ord_mem {xs : List Rat} {x : Rat} : x ∈ ordR xs ↔ x ∈ xs := ord_perm.mem_iff
theorem ord_step {xs : List Rat} {i : Nat} {x : Rat} (h : xs[i]? = some x) : ordR (xs.take (i + 1)) = insU (ordR (xs.take i)) x := by
  unfold ordR
  rw [List.take_add_one, h]
  simp
theorem ord_pair {x y : Rat} : ordR [x, y] = if y < x then [y, x] else [x, y] := by
  show insU (insU [] x) y = _
  have e : insU [] x = [x] := rfl
  rw [e]
  unfold insU
  by_cases c : y < x <;> simp [c]
/-- the sums of the least ones -/
def begA (xs : List Rat) (k : Nat) : Rat := sumR ((ordR xs).take k)
def begR (xs : List Rat) : List Rat := (List.range (xs.length + 1)).map (begA xs)
theorem begR_get {xs : List Rat} {k : Nat} {r : Rat} (h : (begR xs)[k]? = some r) : k ≤ xs.length ∧ r = begA xs k := by
  unfold begR at h
  rw [List.getElem?_map, Option.map_eq_some_iff] at h
  obtain ⟨j, h1, rfl⟩ := h
  have l := (List.getElem?_eq_some_iff.mp h1).1
  rw [List.length_range] at l
  rw [List.getElem?_range l] at h1
  cases h1
  exact ⟨by omega, rfl⟩
theorem begR_len {xs : List Rat} : (begR xs).length = xs.length + 1 := by unfold begR; simp
def fbR (a b : List Rat) : Option Nat := (List.range (min a.length b.length + 1)).find? fun k => decide (begA a k < begA b k)
def kD : Option Nat → D
  | some k => .int k
  | none => .non
theorem fb_none {a b : List Rat} : fbR a b = none ↔ ∀ k, k ≤ min a.length b.length → ¬ begA a k < begA b k := by
  unfold fbR
  rw [List.find?_range_eq_none]
  constructor
  · intro h k hk
    have := h k (by omega)
    simpa using this
  · intro h k hk
    have := h k (by omega)
    simpa using this
theorem fb_some {a b : List Rat} {k : Nat} (hk : k ≤ min a.length b.length) (h : begA a k < begA b k) (h2 : ∀ j, j < k → ¬ begA a j < begA b j) : fbR a b = some k := by
  unfold fbR
  rw [List.find?_range_eq_some]
  refine ⟨by simpa using h, by rw [List.mem_range]; omega, fun j hj => ?_⟩
  simpa using h2 j hj
theorem kD_isNon {o : Option Nat} : (kD o).isNon = o.isNone := by cases o <;> rfl
/-- what is over a line -/
def ovR (xs : List Rat) (c : Rat) : Rat := sumR ((xs.filter fun x => decide (c < x)).map fun x => x - c)
def laR (one other : List Rat) : Option Rat := (ordR other).find? fun c => decide (ovR other c < ovR one c)
def IncL (n : Nat) (xs : List Rat) : Prop := xs.length ≤ 12 ∧ ∀ x ∈ xs, SzR n x
theorem IncL.mono {n m : Nat} {xs : List Rat} (h : IncL n xs) (e : n ≤ m) : IncL m xs := ⟨h.1, fun x hx => (h.2 x hx).mono e⟩
theorem IncL.ord {n : Nat} {xs : List Rat} (h : IncL n xs) : IncL n (ordR xs) := ⟨by rw [ord_len]; exact h.1, fun x hx => h.2 x (ord_mem.mp hx)⟩
theorem IncL.take {n k : Nat} {xs : List Rat} (h : IncL n xs) : IncL n (xs.take k) := ⟨Nat.le_trans (List.length_take_le' ..) h.1, fun x hx => h.2 x (List.mem_of_mem_take hx)⟩
theorem IncL.sum {n m : Nat} {xs : List Rat} (h : IncL n xs) (e : (n + 1) * 12 + 1 ≤ m) : SzR m (sumR xs) := by
  have h1 := szR_sum xs.length xs rfl h.2
  refine h1.mono (Nat.le_trans ?_ e)
  have := Nat.mul_le_mul_left (n + 1) h.1
  omega
theorem IncL.beg {n m k : Nat} {xs : List Rat} (h : IncL n xs) (e : (n + 1) * 12 + 1 ≤ m) : SzR m (begA xs k) := h.ord.take.sum e
theorem IncL.over {n m : Nat} {xs : List Rat} {c : Rat} (h : IncL n xs) (sc : SzR n c) (e : (2 * n + 1 + 1) * 12 + 1 ≤ m) : IncL (2 * n + 1) ((xs.filter fun x => decide (c < x)).map fun x => x - c) ∧ SzR m (ovR xs c) := by
  have a : IncL (2 * n + 1) ((xs.filter fun x => decide (c < x)).map fun x => x - c) := by
    refine ⟨by rw [List.length_map]; exact Nat.le_trans (List.length_filter_le ..) h.1, fun x hx => ?_⟩
    obtain ⟨y, hy, rfl⟩ := List.mem_map.mp hx
    exact (h.2 y (List.mem_filter.mp hy).1).sub sc (Nat.le_refl _)
  exact ⟨a, a.sum e⟩
def sp_ordered : List D → Mem → K1 → Prop := fun ds M q => ∃ xs, (ds = [.tup (xs.map rat)] ∨ ∃ a, ds = [.lst a] ∧ M a = some (xs.map rat)) ∧ IncL 1800 xs ∧ q (.tup ((ordR xs).map rat)) M
def sp_begun_sums : List D → Mem → K1 → Prop := fun ds M q => ∃ xs, ds = [.tup (xs.map rat)] ∧ IncL 150 xs ∧ q (.tup ((begR xs).map rat)) M
def sp_first_below : List D → Mem → K1 → Prop := fun ds M q => ∃ a b, ds = [.tup (a.map rat), .tup (b.map rat)] ∧ IncL 150 a ∧ IncL 150 b ∧ q (kD (fbR a b)) M
def sp_is_more_even : List D → Mem → K1 → Prop := fun ds M q => ∃ a b, ds = [.tup (a.map rat), .tup (b.map rat)] ∧ IncL 150 a ∧ IncL 150 b ∧ q (.bl (fbR a b).isNone) M
def sp_over_line : List D → Mem → K1 → Prop := fun ds M q => ∃ xs c, ds = [.tup (xs.map rat), rat c] ∧ IncL 120 xs ∧ SzR 120 c ∧ q (rat (ovR xs c)) M
def sp_line_against : List D → Mem → K1 → Prop := fun ds M q => ∃ a b, ds = [.tup (a.map rat), .tup (b.map rat)] ∧ IncL 120 a ∧ IncL 120 b ∧ q (optD (laR a b)) M
def angR (c : Rat) : List Pc := if c = 0 then [⟨0, 0, 1⟩] else [⟨0, 0, 0⟩, ⟨c, 0, 1⟩]
def sp_angle : List D → Mem → K1 → Prop := fun ds M q => ∃ c, ds = [rat c] ∧ q (rowD (angR c)) M
def negO (o : Option (Rat × Rat)) : Option (Rat × Rat) := o.map fun p => (-p.1, p.2)
/-- the first place of the most -/
def topF (f : Rat → Rat) (cs : List Rat) : Option (Rat × Rat) := negO (leastF (fun t => -f t) cs)
theorem topF_spec {f : Rat → Rat} {cs : List Rat} {v c : Rat} (h : topF f cs = some (v, c)) : c ∈ cs ∧ v = f c ∧ ∀ d ∈ cs, f d ≤ v := by
  unfold topF negO at h
  rw [Option.map_eq_some_iff] at h
  obtain ⟨⟨w, e⟩, h1, h2⟩ := h
  simp only [Prod.mk.injEq] at h2
  obtain ⟨rfl, rfl⟩ := h2
  obtain ⟨a, b, d⟩ := leastF_spec.2 w e h1
  exact ⟨a, by grind, fun x hx => by have := d x hx; grind⟩
theorem leastF_some {f : Rat → Rat} {cs : List Rat} (h : cs ≠ []) : ∃ v c, leastF f cs = some (v, c) := by
  cases e : leastF f cs with
  | none => exact absurd (leastF_spec.1.mp e) h
  | some p => exact ⟨p.1, p.2, rfl⟩
theorem topF_some {f : Rat → Rat} {cs : List Rat} (h : cs ≠ []) : ∃ v c, topF f cs = some (v, c) := by
  obtain ⟨v, c, e⟩ := leastF_some (f := fun t => -f t) h
  exact ⟨-v, c, by unfold topF; rw [e]; rfl⟩
def sp_greatest_parting : List D → Mem → K1 → Prop := fun ds M q => ∃ R z, ds = [rowD R, rat z] ∧ RwN 90 R ∧ SzR 190 z ∧ 0 ≤ z ∧ q (leastD (topF (fun t => apR R t (z - t)) (partR R z))) M
end TB

/-! Engh: more even (sums of the least, lines, rows that are bent up), gaps, transfers -/
namespace TB
open PySem PySem.Spec PyProof.Rows L2
theorem foldl_addR (l : List Rat) : ∀ a : Rat, l.foldl (· + ·) a = a + l.foldl (· + ·) 0 := by
  induction l with
  | nil => intro a; show a = a + 0; grind
  | cons x l ih => intro a; rw [List.foldl_cons, List.foldl_cons, ih (a + x), ih (0 + x)]; grind
theorem sm_cons {x : Rat} {l : List Rat} : sumR (x :: l) = x + sumR l := by
  show (x :: l).foldl (· + ·) 0 = _
  rw [List.foldl_cons, foldl_addR]; show 0 + x + sumR l = _; grind
theorem sm_nil : sumR [] = 0 := rfl
theorem sm_app {l m : List Rat} : sumR (l ++ m) = sumR l + sumR m := by
  induction l with
  | nil => rw [List.nil_append, sm_nil]; grind
  | cons x l ih => rw [List.cons_append, sm_cons, sm_cons, ih]; grind
theorem sm_perm {xs ys : List Rat} (h : xs.Perm ys) : sumR xs = sumR ys := by
  induction h with
  | nil => rfl
  | cons x _ ih => rw [sm_cons, sm_cons, ih]
  | swap x y l => rw [sm_cons, sm_cons, sm_cons, sm_cons]; grind
  | trans _ _ a b => rw [a, b]
def nR (n : Nat) : Rat := ((n : Int) : Rat)
theorem nR_succ {n : Nat} : nR (n + 1) = nR n + 1 := by
  unfold nR
  rw [← Rat.intCast_one, ← Rat.intCast_add]; rfl
theorem nR_zero : nR 0 = 0 := rfl
def upA (c x : Rat) : Rat := if c < x then x - c else 0
def dnA (c x : Rat) : Rat := if x < c then c - x else 0
def dnR (xs : List Rat) (c : Rat) : Rat := sumR (xs.map (dnA c))
theorem ov_up {xs : List Rat} {c : Rat} : ovR xs c = sumR (xs.map (upA c)) := by
  unfold ovR
  induction xs with
  | nil => rfl
  | cons x xs ih =>
    rw [List.map_cons, sm_cons, ← ih, List.filter_cons]
    unfold upA
    by_cases k : c < x
    · simp only [k, decide_true, if_true, List.map_cons]; rw [sm_cons]
    · simp only [k, decide_false, Bool.false_eq_true, if_false]; grind
theorem ov_dn {xs : List Rat} {c : Rat} : ovR xs c = sumR xs - nR xs.length * c + dnR xs c := by
  rw [ov_up]
  unfold dnR
  induction xs with
  | nil => show (0 : Rat) = 0 - nR 0 * c + 0; rw [nR_zero]; grind
  | cons x xs ih =>
    rw [List.map_cons, List.map_cons, sm_cons, sm_cons, sm_cons, ih, List.length_cons, nR_succ]
    have : upA c x = x - c + dnA c x := by unfold upA dnA; split <;> split <;> grind
    rw [this]; grind
theorem dn_perm {xs ys : List Rat} (h : xs.Perm ys) (c : Rat) : dnR xs c = dnR ys c := sm_perm (h.map _)
theorem ov_perm {xs ys : List Rat} (h : xs.Perm ys) (c : Rat) : ovR xs c = ovR ys c := by rw [ov_up, ov_up]; exact sm_perm (h.map _)
theorem dn_nn {xs : List Rat} {c : Rat} : 0 ≤ dnR xs c := by
  unfold dnR
  induction xs with
  | nil => exact Rat.le_refl
  | cons x xs ih => rw [List.map_cons, sm_cons]; have : 0 ≤ dnA c x := by { unfold dnA; split <;> grind }; grind
theorem dn_app {xs ys : List Rat} {c : Rat} : dnR (xs ++ ys) c = dnR xs c + dnR ys c := by unfold dnR; rw [List.map_append, sm_app]
theorem dn_low {xs : List Rat} {c : Rat} : nR xs.length * c - dnR xs c ≤ sumR xs := by
  unfold dnR
  induction xs with
  | nil => show nR 0 * c - 0 ≤ (0 : Rat); rw [nR_zero]; grind
  | cons x xs ih =>
    rw [List.map_cons, sm_cons, sm_cons, List.length_cons, nR_succ]
    have : c - x ≤ dnA c x := by unfold dnA; split <;> grind
    grind
theorem dn_eq {xs : List Rat} {c : Rat} (h : ∀ x ∈ xs, x ≤ c) : sumR xs = nR xs.length * c - dnR xs c := by
  unfold dnR
  induction xs with
  | nil => show (0 : Rat) = nR 0 * c - 0; rw [nR_zero]; grind
  | cons x xs ih =>
    have ih := ih fun y hy => h y (by simp [hy])
    have h0 := h x (by simp)
    rw [List.map_cons, sm_cons, sm_cons, List.length_cons, nR_succ]
    have : dnA c x = c - x := by unfold dnA; split <;> grind
    grind
theorem dn_zero {xs : List Rat} {c : Rat} (h : ∀ x ∈ xs, c ≤ x) : dnR xs c = 0 := by
  unfold dnR
  induction xs with
  | nil => rfl
  | cons x xs ih =>
    have h0 := h x (by simp)
    rw [List.map_cons, sm_cons, ih fun y hy => h y (by simp [hy])]
    unfold dnA
    rw [if_neg (by grind)]; grind
theorem beg_low {xs : List Rat} {k : Nat} {c : Rat} (hk : k ≤ xs.length) : nR k * c - dnR xs c ≤ begA xs k := by
  unfold begA
  have h1 := dn_low (xs := (ordR xs).take k) (c := c)
  rw [List.length_take, ord_len, Nat.min_eq_left hk] at h1
  have h2 : dnR xs c = dnR ((ordR xs).take k) c + dnR ((ordR xs).drop k) c := by rw [← dn_app, List.take_append_drop]; exact (dn_perm ord_perm c).symm
  have h3 := dn_nn (xs := (ordR xs).drop k) (c := c)
  grind
theorem beg_at {xs : List Rat} {k : Nat} {c : Rat} (hk : k ≤ xs.length) (h1 : ∀ y ∈ (ordR xs).take k, y ≤ c) (h2 : ∀ y ∈ (ordR xs).drop k, c ≤ y) : begA xs k = nR k * c - dnR xs c := by
  unfold begA
  have e1 := dn_eq h1
  rw [List.length_take, ord_len, Nat.min_eq_left hk] at e1
  have e2 : dnR xs c = dnR ((ordR xs).take k) c + dnR ((ordR xs).drop k) c := by rw [← dn_app, List.take_append_drop]; exact (dn_perm ord_perm c).symm
  rw [dn_zero h2] at e2
  grind
theorem maj_all {xs ys : List Rat} (e : xs.length = ys.length) (h : ∀ k, k ≤ ys.length → begA ys k ≤ begA xs k) (c : Rat) : dnR xs c ≤ dnR ys c := by
  obtain ⟨h1, h2⟩ := cntU (x := c) (ord_up (xs := xs))
  have hk : ((ordR xs).filter fun y => !decide (c < y)).length ≤ xs.length := by rw [← ord_len (xs := xs)]; exact List.length_filter_le ..
  generalize ((ordR xs).filter fun y => !decide (c < y)).length = k at *
  have a := beg_at hk h1 fun y hy => Rat.le_of_lt (h2 y hy)
  have b := beg_low (xs := ys) (k := k) (c := c) (by omega)
  have d := h k (by omega)
  grind
theorem maj_of {xs ys : List Rat} (e : xs.length = ys.length) (h : ∀ c ∈ ys, dnR xs c ≤ dnR ys c) : ∀ k, k ≤ ys.length → begA ys k ≤ begA xs k := by
  intro k hk
  cases k with
  | zero => exact Rat.le_refl
  | succ k =>
    have hl : k < (ordR ys).length := by rw [ord_len]; omega
    have up := ord_up (xs := ys)
    have hc : (ordR ys)[k] ∈ ys := ord_mem.mp (List.getElem_mem hl)
    have e1 : ordR ys = (ordR ys).take k ++ (ordR ys)[k] :: (ordR ys).drop (k + 1) := by rw [List.getElem_cons_drop, List.take_append_drop]
    have p1 : ∀ y ∈ (ordR ys).take (k + 1), y ≤ (ordR ys)[k] := fun y hy => by
      rw [e1] at up
      rw [List.take_succ_eq_append_getElem hl] at hy
      rcases List.mem_append.mp hy with hy | hy
      · exact (List.pairwise_append.mp up).2.2 y hy _ (List.mem_cons.mpr (.inl rfl))
      · simp at hy; rw [hy]; exact Rat.le_refl
    have p2 : ∀ y ∈ (ordR ys).drop (k + 1), (ordR ys)[k] ≤ y := fun y hy => by
      rw [e1] at up
      exact (List.pairwise_cons.mp (List.pairwise_append.mp up).2.1).1 y hy
    have a := beg_at (xs := ys) hk p1 p2
    have b := beg_low (xs := xs) (k := k + 1) (c := (ordR ys)[k]) (by omega)
    have d := h _ hc
    grind
/-- as many, the same sum, nowhere more over a line -/
structure Ev (xs ys : List Rat) : Prop where
  len : xs.length = ys.length
  sum : sumR xs = sumR ys
  ov : ∀ c, ovR xs c ≤ ovR ys c
theorem ov_le {xs ys : List Rat} (e : xs.length = ys.length) (s : sumR xs = sumR ys) (c : Rat) : ovR xs c ≤ ovR ys c ↔ dnR xs c ≤ dnR ys c := by
  rw [ov_dn, ov_dn, e, s]
  constructor <;> intro h <;> grind
theorem fb_ev {xs ys : List Rat} (e : xs.length = ys.length) (s : sumR xs = sumR ys) : fbR xs ys = none ↔ Ev xs ys := by
  rw [fb_none, e, Nat.min_self]
  constructor
  · intro h
    refine ⟨e, s, fun c => (ov_le e s c).mpr (maj_all e (fun k hk => ?_) c)⟩
    have := h k hk
    grind
  · intro h k hk
    have := maj_of e (fun c _ => (ov_le e s c).mp (h.ov c)) k hk
    grind
theorem la_ev {xs ys : List Rat} (e : xs.length = ys.length) (s : sumR xs = sumR ys) : laR xs ys = none ↔ Ev xs ys := by
  unfold laR
  rw [List.find?_eq_none]
  constructor
  · intro h
    refine ⟨e, s, fun c => (ov_le e s c).mpr (maj_all e (maj_of e fun d hd => ?_) c)⟩
    have := h d (ord_mem.mpr hd)
    simp at this
    exact (ov_le e s d).mp (by grind)
  · intro h c _
    have := h.ov c
    simp
    grind
theorem Ev.refl {xs : List Rat} : Ev xs xs := ⟨rfl, rfl, fun _ => Rat.le_refl⟩
theorem Ev.trans {xs ys zs : List Rat} (a : Ev xs ys) (b : Ev ys zs) : Ev xs zs := ⟨a.len.trans b.len, a.sum.trans b.sum, fun c => Rat.le_trans (a.ov c) (b.ov c)⟩
/-! rows that are bent up -/
theorem val_bend {l : List Pc} {a z : Pc} (ha : Asc (l ++ [a] ++ [z])) (st : Steady (l ++ [a] ++ [z])) (x : Rat) : valAt (l ++ [a] ++ [z]) x = valAt (l ++ [a]) x + (z.k - a.k) * upA z.s x := by
  have as : a.s < z.s := (List.pairwise_append.mp ha).2.2 a (by simp) z (by simp)
  have e := st l a z [] (by simp)
  rw [valAt_snoc]
  unfold upA
  by_cases c : x < z.s
  · rw [if_pos c, if_neg (by grind)]; grind
  · rw [if_neg c]
    have v : valAt (l ++ [a]) x = a.at x := by rw [valAt_snoc, if_neg (by grind)]
    rw [v]
    unfold Pc.at at *
    by_cases c2 : z.s < x
    · rw [if_pos c2]; grind
    · have : x = z.s := by grind
      subst this
      rw [if_neg c2]; grind
theorem sum_val_bend {l : List Pc} {a z : Pc} (ha : Asc (l ++ [a] ++ [z])) (st : Steady (l ++ [a] ++ [z])) (xs : List Rat) : sumR (xs.map (valAt (l ++ [a] ++ [z]))) = sumR (xs.map (valAt (l ++ [a]))) + (z.k - a.k) * ovR xs z.s := by
  rw [ov_up]
  induction xs with
  | nil => show (0 : Rat) = 0 + _ * 0; grind
  | cons x xs ih => rw [List.map_cons, List.map_cons, List.map_cons, sm_cons, sm_cons, sm_cons, ih, val_bend ha st x]; grind
theorem sum_line {p : Pc} {xs : List Rat} (p0 : p.s = 0) (h : ∀ x ∈ xs, 0 ≤ x) : sumR (xs.map (valAt [p])) = nR xs.length * p.v + p.k * sumR xs := by
  induction xs with
  | nil => show (0 : Rat) = nR 0 * p.v + p.k * 0; rw [nR_zero]; grind
  | cons x xs ih =>
    have h0 := h x (by simp)
    have e : valAt [p] x = p.v + p.k * x := by
      rw [show [p] = [] ++ [p] from rfl, valAt_snoc, if_neg (by grind)]
      unfold Pc.at; grind
    rw [List.map_cons, sm_cons, sm_cons, ih fun y hy => h y (by simp [hy]), e, List.length_cons, nR_succ]
    grind
theorem karamata {R : List Pc} (hR : Cx R) {xs ys : List Rat} (h : Ev xs ys) (hx : ∀ x ∈ xs, 0 ≤ x) (hy : ∀ y ∈ ys, 0 ≤ y) : sumR (xs.map (valAt R)) ≤ sumR (ys.map (valAt R)) := by
  obtain ⟨⟨as, ne, z0⟩, st, up⟩ := hR
  induction R using snoc_ind with
  | h0 => exact absurd rfl ne
  | hs l z ih =>
    rcases List.eq_nil_or_concat l with rfl | ⟨l', a, e⟩
    · have p0 := z0 z rfl
      rw [List.nil_append, sum_line p0 hx, sum_line p0 hy, h.len, h.sum]
      exact Rat.le_refl
    · rw [List.concat_eq_append] at e
      subst e
      have ih := ih st.left (List.pairwise_append.mp up).1 (List.pairwise_append.mp as).1 (by simp) fun p hp => z0 p (by
        cases l' with
        | nil => simp at hp ⊢; exact hp
        | cons b r => simp at hp ⊢; exact hp)
      rw [sum_val_bend as st, sum_val_bend as st]
      have k : 0 ≤ z.k - a.k := by have := (List.pairwise_append.mp up).2.2 a (by simp) z (by simp); grind
      have := mul_le_l (h.ov z.s) k
      grind
/-! gaps -/
def absR (x : Rat) : Rat := if x < 0 then -x else x
theorem rat_abs {x : Rat} : D.tup [.int (x.num.natAbs : Nat), .int (x.den : Nat)] = rat (absR x) := by
  unfold absR
  have h : x < 0 ↔ x.num < 0 := by rw [← Rat.not_le, ← Rat.num_nonneg]; omega
  by_cases c : x < 0
  · have c1 := h.mp c
    rw [if_pos c]
    show _ = D.tup [.int (-x).num, .int (-x).den]
    rw [Rat.neg_num, Rat.neg_den]
    congr 3
    omega
  · have c1 : ¬ x.num < 0 := fun k => c (h.mpr k)
    rw [if_neg c]
    show _ = D.tup [.int x.num, .int x.den]
    congr 3
    omega
/-- the gaps of x to all -/
def gpA (x : Rat) (l : List Rat) : Rat := sumR (l.map fun y => absR (x - y))
/-- the gaps of all pairs -/
def psA : List Rat → Rat
  | [] => 0
  | x :: xs => gpA x xs + psA xs
theorem gp_cons {x y : Rat} {l : List Rat} : gpA x (y :: l) = absR (x - y) + gpA x l := by unfold gpA; rw [List.map_cons, sm_cons]
theorem gp_perm {x : Rat} {l m : List Rat} (h : l.Perm m) : gpA x l = gpA x m := sm_perm (h.map _)
theorem ps_perm {xs ys : List Rat} (h : xs.Perm ys) : psA xs = psA ys := by
  induction h with
  | nil => rfl
  | cons x h ih => show gpA x _ + psA _ = gpA x _ + psA _; rw [ih, gp_perm h]
  | swap x y l =>
    show gpA y (x :: l) + (gpA x l + psA l) = gpA x (y :: l) + (gpA y l + psA l)
    rw [gp_cons, gp_cons]
    have : absR (y - x) = absR (x - y) := by unfold absR; split <;> split <;> grind
    rw [this]; grind
  | trans _ _ a b => rw [a, b]
theorem ps_snoc {l : List Rat} {x : Rat} : psA (l ++ [x]) = psA l + gpA x l := by
  have h : (l ++ [x]).Perm (x :: l) := List.perm_append_comm
  rw [ps_perm h]
  show gpA x l + psA l = _
  grind
theorem gp_top {x : Rat} {l : List Rat} (h : ∀ y ∈ l, y ≤ x) : gpA x l = nR l.length * x - sumR l := by
  unfold gpA
  induction l with
  | nil => show (0 : Rat) = nR 0 * x - 0; rw [nR_zero]; grind
  | cons y l ih =>
    have h0 := h y (by simp)
    rw [List.map_cons, sm_cons, sm_cons, ih fun z hz => h z (by simp [hz]), List.length_cons, nR_succ]
    have : absR (x - y) = x - y := by unfold absR; rw [if_neg (by grind)]
    rw [this]; grind
/-- the sum by places: (2 k - n + 1) x -/
def wS (n : Int) : Nat → List Rat → Rat
  | _, [] => 0
  | k, x :: xs => ((2 * (k : Int) - n + 1 : Int) : Rat) * x + wS n (k + 1) xs
theorem wS_snoc {n : Int} {x : Rat} : ∀ {l : List Rat} {k : Nat}, wS n k (l ++ [x]) = wS n k l + ((2 * ((k + l.length : Nat) : Int) - n + 1 : Int) : Rat) * x
  | [], k => by show _ * x + 0 = 0 + _ * x; rw [List.length_nil, Nat.add_zero]; grind
  | y :: l, k => by
    show _ * y + wS n (k + 1) (l ++ [x]) = _ * y + wS n (k + 1) l + _
    rw [wS_snoc (l := l) (k := k + 1), List.length_cons, show k + 1 + l.length = k + (l.length + 1) by omega]
    grind
theorem wS_shift {n : Int} : ∀ {l : List Rat} {k : Nat}, wS (n + 1) k l = wS n k l - sumR l
  | [], k => by show (0 : Rat) = 0 - 0; grind
  | y :: l, k => by
    show _ * y + wS (n + 1) (k + 1) l = _ * y + wS n (k + 1) l - _
    rw [wS_shift (l := l) (k := k + 1), sm_cons, show (2 * (k : Int) - (n + 1) + 1 : Int) = (2 * (k : Int) - n + 1) - 1 by omega, Rat.intCast_sub, Rat.intCast_one]
    grind
theorem wS_ps {L : List Rat} : UpL L → wS (L.length : Int) 0 L = psA L := by
  induction L using snoc_ind with
  | h0 => intro _; rfl
  | hs l x ih =>
    intro up
    have h1 := (List.pairwise_append.mp up).1
    have h2 : ∀ y ∈ l, y ≤ x := fun y hy => (List.pairwise_append.mp up).2.2 y hy x (by simp)
    rw [ps_snoc, gp_top h2, wS_snoc, List.length_append, ← ih h1, Nat.zero_add]
    show wS ((l.length : Int) + 1) 0 l + _ = _
    rw [wS_shift, show (2 * (l.length : Int) - ((l.length + [x].length : Nat) : Int) + 1 : Int) = (l.length : Int) by simp; omega]
    show _ - sumR l + nR l.length * x = _
    grind
def giniR (xs : List Rat) : Rat := psA xs / (nR xs.length * sumR xs)
/-! one transfer -/
theorem abs_move {a b y p : Rat} (p0 : 0 ≤ p) (h : a + p ≤ b - p) : absR (a + p - y) + absR (b - p - y) ≤ absR (a - y) + absR (b - y) := by
  unfold absR; split <;> split <;> split <;> split <;> grind
theorem up_move {a b c p : Rat} (p0 : 0 ≤ p) (h : a + p ≤ b - p) : upA c (a + p) + upA c (b - p) ≤ upA c a + upA c b := by
  unfold upA; split <;> split <;> split <;> split <;> grind
theorem two_set {xs : List Rat} {i k : Nat} {a b : Rat} (hi : xs[i]? = some a) (hk : xs[k]? = some b) (ne : i ≠ k) : ∃ r, xs.Perm (a :: b :: r) ∧ ∀ a' b', ((xs.set i a').set k b').Perm (a' :: b' :: r) := by
  have key : ∀ (i k : Nat) (a b : Rat), i < k → xs[i]? = some a → xs[k]? = some b → ∃ r, xs.Perm (a :: b :: r) ∧ ∀ a' b', ((xs.set i a').set k b').Perm (a' :: b' :: r) := by
    intro i k a b lt hi hk
    obtain ⟨li, ei⟩ := List.getElem?_eq_some_iff.mp hi
    obtain ⟨lk, ek⟩ := List.getElem?_eq_some_iff.mp hk
    have e1 : xs = xs.take i ++ a :: xs.drop (i + 1) := by rw [← ei, List.getElem_cons_drop, List.take_append_drop]
    have e2 : xs.drop (i + 1) = (xs.drop (i + 1)).take (k - i - 1) ++ b :: xs.drop (k + 1) := by
      have h2 : (xs.drop (i + 1))[k - i - 1]? = some b := by rw [List.getElem?_drop, show i + 1 + (k - i - 1) = k by omega]; exact hk
      obtain ⟨l2, e2⟩ := List.getElem?_eq_some_iff.mp h2
      have h3 : xs.drop (k + 1) = (xs.drop (i + 1)).drop (k - i - 1 + 1) := by rw [List.drop_drop, show i + 1 + (k - i - 1 + 1) = k + 1 by omega]
      rw [h3, ← e2, List.getElem_cons_drop, List.take_append_drop]
    have la : (xs.take i).length = i := by rw [List.length_take]; omega
    have lb : ((xs.drop (i + 1)).take (k - i - 1)).length = k - i - 1 := by rw [List.length_take, List.length_drop]; omega
    generalize xs.take i = A at *
    generalize (xs.drop (i + 1)).take (k - i - 1) = B at *
    generalize xs.drop (k + 1) = C at *
    rw [e2] at e1
    subst e1
    have pm : ∀ u v : Rat, (A ++ u :: (B ++ v :: C)).Perm (u :: v :: (A ++ (B ++ C))) := fun u v => by
      refine List.perm_middle.trans (.cons u ?_)
      have : A ++ (B ++ v :: C) = (A ++ B) ++ v :: C := by simp
      rw [this]
      refine List.perm_middle.trans ?_
      simp
    refine ⟨A ++ (B ++ C), pm a b, fun a' b' => ?_⟩
    have es : ((A ++ a :: (B ++ b :: C)).set i a').set k b' = A ++ a' :: (B ++ b' :: C) := by
      rw [List.set_append_right _ _ (by omega), show i - A.length = 0 by omega, List.set_cons_zero, List.set_append_right _ _ (by omega), show k - A.length = (k - i - 1) + 1 by omega, List.set_cons_succ, List.set_append_right _ _ (by omega), lb, Nat.sub_self, List.set_cons_zero]
    rw [es]
    exact pm a' b'
  rcases Nat.lt_or_gt_of_ne ne with lt | gt
  · exact key i k a b lt hi hk
  · obtain ⟨r, p1, p2⟩ := key k i b a gt hk hi
    refine ⟨r, p1.trans (.swap ..), fun a' b' => ?_⟩
    rw [List.set_comm _ _ ne]
    exact (p2 b' a').trans (.swap ..)
theorem set_same {xs : List Rat} {i : Nat} {a : Rat} (h : xs[i]? = some a) : xs.set i a = xs := by
  apply List.ext_getElem?
  intro j
  rw [List.getElem?_set]
  by_cases e : i = j
  · subst e
    rw [if_pos rfl, if_pos (List.getElem?_eq_some_iff.mp h).1, h]
  · rw [if_neg e]
/-- made more even by transfers that do not turn two round -/
structure Evn (xs ys : List Rat) : Prop where
  ev : Ev xs ys
  ps : psA xs ≤ psA ys
  st : xs = ys ∨ psA xs < psA ys
theorem Evn.refl {xs : List Rat} : Evn xs xs := ⟨.refl, Rat.le_refl, .inl rfl⟩
theorem Evn.trans {xs ys zs : List Rat} (a : Evn xs ys) (b : Evn ys zs) : Evn xs zs := by
  refine ⟨a.ev.trans b.ev, Rat.le_trans a.ps b.ps, ?_⟩
  have h1 := a.ps
  have h2 := b.ps
  rcases a.st with rfl | h
  · exact b.st
  · exact .inr (by grind)
theorem gp_move {y a b p : Rat} {r : List Rat} (p0 : 0 ≤ p) (h : a + p ≤ b - p) : gpA (a + p) r + gpA (b - p) r ≤ gpA a r + gpA b r := by
  unfold gpA
  induction r with
  | nil => exact Rat.le_refl
  | cons y r ih =>
    rw [List.map_cons, List.map_cons, List.map_cons, List.map_cons, sm_cons, sm_cons, sm_cons, sm_cons]
    have := abs_move (y := y) p0 h
    grind
theorem one_evn {xs : List Rat} {i k : Nat} {a b p : Rat} (hi : xs[i]? = some a) (hk : xs[k]? = some b) (lt : a < b) (p0 : 0 ≤ p) (h : a + p ≤ b - p) : Evn ((xs.set i (a + p)).set k (b - p)) xs := by
  have ne : i ≠ k := fun e => by subst e; rw [hi] at hk; cases hk; grind
  obtain ⟨r, p1, p2⟩ := two_set hi hk ne
  have p2 := p2 (a + p) (b - p)
  have g := gp_move (y := 0) (r := r) p0 h
  have ab1 : absR (a + p - (b - p)) = b - a - 2 * p := by unfold absR; split <;> grind
  have ab2 : absR (a - b) = b - a := by unfold absR; split <;> grind
  have e1 : psA ((xs.set i (a + p)).set k (b - p)) = b - a - 2 * p + gpA (a + p) r + (gpA (b - p) r + psA r) := by
    rw [ps_perm p2]
    show gpA (a + p) (_ :: r) + (gpA _ r + psA r) = _
    rw [gp_cons, ab1]
  have e2 : psA xs = b - a + gpA a r + (gpA b r + psA r) := by
    rw [ps_perm p1]
    show gpA a (_ :: r) + (gpA _ r + psA r) = _
    rw [gp_cons, ab2]
  refine ⟨⟨by rw [List.length_set, List.length_set], ?_, fun c => ?_⟩, by grind, ?_⟩
  · rw [sm_perm p2, sm_perm p1, sm_cons, sm_cons, sm_cons, sm_cons]; grind
  · rw [ov_perm p2, ov_perm p1, ov_up, ov_up]
    simp only [List.map_cons]
    rw [sm_cons, sm_cons, sm_cons, sm_cons]
    have := up_move (c := c) p0 h
    grind
  · by_cases pz : p = 0
    · left
      subst pz
      rw [show a + 0 = a by grind, show b - 0 = b by grind]
      rw [set_same hi, set_same hk]
    · right
      grind
/-! the share of the gaps -/
theorem rat_div_le {a b c : Rat} (hc : 0 < c) (h : a ≤ b) : a / c ≤ b / c := by
  rw [Rat.div_def, Rat.div_def]
  exact mul_le_l h (Rat.le_of_lt (Rat.inv_pos.mpr hc))
theorem rat_div_lt {a b c : Rat} (hc : 0 < c) (h : a < b) : a / c < b / c := by
  rw [Rat.div_def, Rat.div_def]
  have := Rat.mul_pos (show 0 < b - a by grind) (Rat.inv_pos.mpr hc)
  grind
theorem nR_pos {n : Nat} (h : 0 < n) : 0 < nR n := by
  unfold nR
  exact Rat.intCast_pos.mpr (by omega)
theorem gini_evn {xs ys : List Rat} (h : Evn xs ys) (hp : 0 < sumR ys) (hn : 0 < ys.length) : giniR xs ≤ giniR ys ∧ (xs = ys ∨ giniR xs < giniR ys) := by
  have hd : 0 < nR ys.length * sumR ys := Rat.mul_pos (nR_pos hn) hp
  unfold giniR
  rw [h.ev.len, h.ev.sum]
  exact ⟨rat_div_le hd h.ps, h.st.imp id fun k => rat_div_lt hd k⟩
theorem sm_scale {u : Rat} {xs : List Rat} : sumR (xs.map fun x => x * u) = sumR xs * u := by
  induction xs with
  | nil => show (0 : Rat) = 0 * u; grind
  | cons x xs ih => rw [List.map_cons, sm_cons, sm_cons, ih]; grind
theorem gp_scale {u x : Rat} (u0 : 0 < u) {xs : List Rat} : gpA (x * u) (xs.map fun x => x * u) = gpA x xs * u := by
  induction xs with
  | nil => show (0 : Rat) = 0 * u; grind
  | cons y xs ih =>
    rw [List.map_cons, gp_cons, gp_cons, ih]
    have : absR (x * u - y * u) = absR (x - y) * u := by
      have e : x * u - y * u = (x - y) * u := by grind
      rw [e]
      unfold absR
      by_cases c : x - y < 0
      · have : (x - y) * u < 0 := by
          have := Rat.mul_pos (show 0 < -(x - y) by grind) u0
          grind
        rw [if_pos c, if_pos this]; grind
      · have : 0 ≤ (x - y) * u := Rat.mul_nonneg (by grind) (Rat.le_of_lt u0)
        rw [if_neg c, if_neg (by grind)]
    rw [this]; grind
theorem ps_scale {u : Rat} (u0 : 0 < u) {xs : List Rat} : psA (xs.map fun x => x * u) = psA xs * u := by
  induction xs with
  | nil => show (0 : Rat) = 0 * u; grind
  | cons x xs ih =>
    show gpA (x * u) (xs.map fun x => x * u) + psA (xs.map fun x => x * u) = (gpA x xs + psA xs) * u
    rw [ih, gp_scale u0]; grind
theorem gini_scale {u : Rat} (u0 : 0 < u) {xs : List Rat} (hp : 0 < sumR xs) (hn : 0 < xs.length) : giniR (xs.map fun x => x * u) = giniR xs := by
  unfold giniR
  rw [ps_scale u0, sm_scale, List.length_map]
  have hd : nR xs.length * sumR xs ≠ 0 := by have := Rat.mul_pos (nR_pos hn) hp; grind
  have hu : u ≠ 0 := by grind
  rw [show nR xs.length * (sumR xs * u) = (nR xs.length * sumR xs) * u by grind]
  generalize nR xs.length * sumR xs = d at *
  rw [Rat.div_def, Rat.div_def, Rat.inv_mul_rev]
  have := Rat.mul_inv_cancel u hu
  grind
/-! rows with one bend -/
theorem ang_n {c : Rat} (c0 : 0 ≤ c) {n : Nat} (hn : 12 ≤ n) (sc : SzR n c) : RwN n (angR c) := by
  unfold angR
  by_cases k : c = 0
  · rw [if_pos k]
    refine ⟨⟨by simp [Asc], by simp, fun p hp => by simp at hp; rw [← hp]⟩, by simp, fun p hp => ?_⟩
    simp at hp
    subst hp
    exact ⟨z_szR hn, z_szR hn, one_sz.mono (by omega)⟩
  · have cp : 0 < c := by grind
    rw [if_neg k]
    refine ⟨⟨?_, by simp, fun p hp => by simp at hp; rw [← hp]⟩, by simp, fun p hp => ?_⟩
    · unfold Asc
      simp
      exact cp
    · simp at hp
      rcases hp with rfl | rfl
      · exact ⟨z_szR hn, z_szR hn, z_szR hn⟩
      · exact ⟨sc, z_szR hn, one_sz.mono (by omega)⟩
theorem ang_val {c x : Rat} (c0 : 0 ≤ c) (x0 : 0 ≤ x) : valAt (angR c) x = upA c x := by
  unfold angR upA
  by_cases k : c = 0
  · subst k
    rw [if_pos rfl, show [(⟨0, 0, 1⟩ : Pc)] = [] ++ [⟨0, 0, 1⟩] from rfl, valAt_snoc]
    show (if x < 0 then _ else _) = _
    rw [if_neg (by grind)]
    unfold Pc.at
    split <;> grind
  · rw [if_neg k, show [(⟨0, 0, 0⟩ : Pc), ⟨c, 0, 1⟩] = [⟨0, 0, 0⟩] ++ [⟨c, 0, 1⟩] from rfl, valAt_snoc]
    show (if x < c then _ else _) = _
    have e2 : (⟨c, 0, 1⟩ : Pc).at x = x - c := by unfold Pc.at; grind
    rw [e2]
    have e1 : valAt [(⟨0, 0, 0⟩ : Pc)] x = 0 := by
      rw [show [(⟨0, 0, 0⟩ : Pc)] = [] ++ [⟨0, 0, 0⟩] from rfl, valAt_snoc]
      show (if x < 0 then _ else _) = _
      rw [if_neg (by grind)]
      unfold Pc.at; grind
    rw [e1]
    split <;> split <;> grind
theorem ang_cx {c : Rat} (c0 : 0 ≤ c) : Cx (angR c) ∧ normR (angR c) = angR c := by
  have rw0 : Rw (angR c) := by
    unfold angR
    by_cases k : c = 0
    · rw [if_pos k]; exact ⟨by simp [Asc], by simp, fun p hp => by simp at hp; rw [← hp]⟩
    · rw [if_neg k]; exact ⟨by unfold Asc; simp; grind, by simp, fun p hp => by simp at hp; rw [← hp]⟩
  have two : ∀ (u v : Pc) (l : List Pc) (a b : Pc) (r : List Pc), [u, v] = l ++ a :: b :: r → a = u ∧ b = v := fun u v l a b r e => by
    cases l with
    | nil => simp at e; exact ⟨e.1.symm, e.2.1.symm⟩
    | cons x l =>
      have := congrArg List.length e
      simp at this
      omega
  have st : Steady (angR c) := fun l a b r e => by
    unfold angR at e
    by_cases k : c = 0
    · rw [if_pos k] at e
      have := congrArg List.length e
      simp at this
      omega
    · rw [if_neg k] at e
      obtain ⟨rfl, rfl⟩ := two _ _ _ _ _ _ e
      unfold Pc.at; grind
  refine ⟨⟨rw0, st, ?_⟩, nm_norm fun l a b r e he => ?_⟩
  · unfold angR
    by_cases k : c = 0
    · rw [if_pos k]; simp
    · rw [if_neg k]; simp; decide +kernel
  · unfold angR at e
    by_cases k : c = 0
    · rw [if_pos k] at e
      have := congrArg List.length e
      simp at this
      omega
    · rw [if_neg k] at e
      obtain ⟨rfl, rfl⟩ := two _ _ _ _ _ _ e
      exact absurd he (show ¬ ((0 : Rat) = 1) by decide +kernel)
theorem ang_sum {c : Rat} (c0 : 0 ≤ c) {xs : List Rat} (h : ∀ x ∈ xs, 0 ≤ x) : sumR (xs.map (valAt (angR c))) = ovR xs c := by
  rw [ov_up]
  congr 1
  exact List.map_congr_left fun x hx => ang_val c0 (h x hx)
theorem ang_mar {c : Rat} (c0 : 0 ≤ c) : marB (normR (angR c)) = true := by
  obtain ⟨h, e⟩ := ang_cx c0
  rw [e]
  unfold marB
  rw [steadyB_of h.st, upB_of h.up]; rfl
/-! sizes -/
def QI (d : Nat) (x : Rat) : Prop := ∃ m : Int, x * ((d : Int) : Rat) = (m : Rat)
theorem QI.qz {d h : Nat} {x : Rat} (q : QI d x) (x0 : 0 ≤ x) (xh : x ≤ ((h : Int) : Rat)) : Qz d (h * d) x := by
  obtain ⟨m, e⟩ := q
  refine ⟨m, e, ?_⟩
  have d0 : (0 : Rat) ≤ ((d : Int) : Rat) := Rat.intCast_nonneg.mpr (by omega)
  have h1 : (0 : Rat) ≤ (m : Rat) := by rw [← e]; exact Rat.mul_nonneg x0 d0
  have h2 : (m : Rat) ≤ (((h * d : Nat) : Int) : Rat) := by
    rw [← e, show ((h * d : Nat) : Int) = (h : Int) * (d : Int) by simp, Rat.intCast_mul]
    exact mul_le_l xh d0
  have h3 : 0 ≤ m := Rat.intCast_nonneg.mp h1
  have h4 : m ≤ ((h * d : Nat) : Int) := Rat.intCast_le_intCast.mp h2
  omega
theorem Qz.qi {d B : Nat} {x : Rat} (h : Qz d B x) : QI d x := let ⟨m, e, _⟩ := h; ⟨m, e⟩
theorem Qz.abs {d B : Nat} {x : Rat} (h : Qz d B x) : Qz d B (absR x) := by unfold absR; split; exact h.neg; exact h
/-- incomes with a common denominator -/
structure IQ (xs : List Rat) : Prop where
  len : xs.length ≤ 12
  q : ∃ D : Nat, 0 < D ∧ D < 2 ^ 30 ∧ ∀ x ∈ xs, Qz D (2 ^ 30 - 1) x
theorem IQ.inc {xs : List Rat} (h : IQ xs) : IncL 30 xs := by
  obtain ⟨D, d0, d1, hq⟩ := h.q
  exact ⟨h.len, fun x hx => (hq x hx).sz d0 (by decide) d1⟩
theorem wS_sz {n m : Nat} (hn : n ≤ 12) : ∀ {L : List Rat} {k : Nat}, k + L.length ≤ 12 → (∀ x ∈ L, SzR m x) → SzR ((m + 7) * L.length + 1) (wS (n : Int) k L)
  | [], _, _, _ => SzR.zero.mono (by simp)
  | x :: L, k, hk, h => by
    rw [List.length_cons] at hk
    have s1 : Sz 6 (2 * (k : Int) - (n : Int) + 1) := .lit 6 (by omega) (by omega)
    have s2 : SzR 6 ((2 * (k : Int) - (n : Int) + 1 : Int) : Rat) := ⟨by rw [Rat.num_intCast]; exact s1, by rw [Rat.den_intCast]; exact .lit 6 (by decide) (by omega)⟩
    have s3 := s2.mul (h x (by simp)) (show 6 + m ≤ m + 6 by omega)
    have s4 := wS_sz hn (L := L) (k := k + 1) (by omega) fun y hy => h y (by simp [hy])
    show SzR _ (_ * x + wS (n : Int) (k + 1) L)
    refine s3.addw s4 ?_
    rw [List.length_cons, Nat.mul_add]
    omega
/-! promises -/
def sp_law_incomes : List D → Mem → K1 → Prop := fun ds M q => ∃ (b c : Addr) (many high : Nat), ds = [.lst b, .int many, .int high] ∧ 1 ≤ many ∧ many ≤ 12 ∧ high ≤ 40 ∧ BoxAt M b c ∧ ∀ (xs : List Rat) M', 1 ≤ xs.length → xs.length ≤ many → (∀ x ∈ xs, 0 ≤ x ∧ x ≤ ((high : Int) : Rat) ∧ QI 12 x) → BoxAt M' b c → Fr b c M M' → q (.tup (xs.map rat)) M'
def sp_law_evened : List D → Mem → K1 → Prop := fun ds M q => ∃ (b c : Addr) (xs : List Rat) (t E hi : Nat), ds = [.lst b, .tup (xs.map rat), .int t] ∧ t ≤ 6 ∧ 1 ≤ xs.length ∧ xs.length ≤ 12 ∧ 0 < E ∧ E * 8 ^ t < 2 ^ 24 ∧ hi ≤ 40 ∧ (∀ x ∈ xs, 0 ≤ x ∧ x ≤ ((hi : Int) : Rat) ∧ QI E x) ∧ BoxAt M b c ∧
  ∀ ys M', Evn ys xs → (∀ y ∈ ys, 0 ≤ y ∧ y ≤ ((hi : Int) : Rat) ∧ QI (E * 8 ^ t) y) → BoxAt M' b c → Fr b c M M' → q (.tup (ys.map rat)) M'
def sp_law_ordered := sp_ordered
def sp_law_begun := sp_begun_sums
def sp_law_belowE : List D → Mem → K1 → Prop := fun ds M q => ∃ a b, ds = [.tup (a.map rat), .tup (b.map rat)] ∧ IncL 150 a ∧ IncL 150 b ∧ a.length = b.length ∧ q (kD (fbR a b)) M
def sp_law_over := sp_over_line
def sp_gini : List D → Mem → K1 → Prop := fun ds M q => ∃ xs, ds = [.tup (xs.map rat)] ∧ IncL 120 xs ∧ 0 < sumR xs ∧ q (rat (giniR xs)) M
def sp_law_gini : List D → Mem → K1 → Prop := fun ds M q => ∃ xs, ds = [.tup (xs.map rat)] ∧ IQ xs ∧ 0 < sumR xs ∧ q (rat (giniR xs)) M
def sp_shares_of : List D → Mem → K1 → Prop := fun ds M q => ∃ xs, ds = [.tup (xs.map rat)] ∧ IncL 300 xs ∧ 0 < sumR xs ∧ q (.tup ((xs.map fun x => x * (sumR xs)⁻¹).map rat)) M
def sp_taxes_of : List D → Mem → K1 → Prop := fun ds M q => ∃ R xs, ds = [rowD R, .tup (xs.map rat)] ∧ RwN 90 R ∧ IncL 40 xs ∧ (∀ x ∈ xs, 0 ≤ x) ∧ q (.tup ((xs.map (valAt R)).map rat)) M
def sp_paid_by : List D → Mem → K1 → Prop := fun ds M q => ∃ R xs, ds = [rowD R, .tup (xs.map rat)] ∧ RwN 90 R ∧ IncL 40 xs ∧ (∀ x ∈ xs, 0 ≤ x) ∧ q (rat (sumR (xs.map (valAt R)))) M
def sp_falls_by_transfers : List D → Mem → K1 → Prop := fun ds M q => ∃ R xs ys, ds = [rowD R, .tup (xs.map rat), .tup (ys.map rat)] ∧ RwN 90 R ∧ IncL 40 xs ∧ IncL 40 ys ∧ (∀ x ∈ xs, 0 ≤ x) ∧ (∀ y ∈ ys, 0 ≤ y) ∧ q (.bl !decide (sumR (ys.map (valAt R)) < sumR (xs.map (valAt R)))) M
theorem val_sz {R : List Pc} {xs : List Rat} (h : RwN 90 R) (hx : IncL 40 xs) (x0 : ∀ x ∈ xs, 0 ≤ x) : IncL 312 (xs.map (valAt R)) ∧ SzR 3757 (sumR (xs.map (valAt R))) := by
  have a : IncL 312 (xs.map (valAt R)) := ⟨by rw [List.length_map]; exact hx.1, fun v hv => by
    obtain ⟨x, hxs, rfl⟩ := List.mem_map.mp hv
    exact h.valS (x0 x hxs) (hx.2 x hxs) (by omega)⟩
  exact ⟨a, a.sum (by omega)⟩
/-! lists compared -/
theorem eqL_rats {xs ys : List Rat} : deqL (xs.map rat) (ys.map rat) = decide (xs = ys) := by
  induction xs generalizing ys with
  | nil => cases ys with
    | nil => rfl
    | cons y ys => rfl
  | cons x xs ih => cases ys with
    | nil => rfl
    | cons y ys =>
      have e : deqL ((x :: xs).map rat) ((y :: ys).map rat) = (deq (rat x) (rat y) && deqL (xs.map rat) (ys.map rat)) := rfl
      rw [e, ih, deq_rat, Bool.eq_iff_iff]
      simp
theorem rats_pure : ∀ xs : List Rat, D.pureL (xs.map rat) = true ∧ D.depthL (xs.map rat) ≤ 2
  | [] => ⟨rfl, by simp [D.depthL]⟩
  | x :: xs => by
    obtain ⟨a, b⟩ := rats_pure xs
    have e1 : D.pureL ((x :: xs).map rat) = ((rat x).pure && D.pureL (xs.map rat)) := rfl
    have e2 : D.depthL ((x :: xs).map rat) = max (rat x).depth (D.depthL (xs.map rat)) := rfl
    rw [e1, e2, a]
    refine ⟨by rw [Bool.and_true]; rfl, ?_⟩
    have : (rat x).depth ≤ 2 := by unfold rat; simp [D.depth, D.depthL]
    omega
theorem ints_pure : ∀ xs : List Nat, D.pureL (xs.map fun k : Nat => .int k) = true ∧ D.depthL (xs.map fun k : Nat => .int k) ≤ 2
  | [] => ⟨rfl, by simp [D.depthL]⟩
  | x :: xs => by
    obtain ⟨a, b⟩ := ints_pure xs
    have e1 : D.pureL ((x :: xs).map fun k : Nat => D.int k) = (D.pure (.int x) && D.pureL (xs.map fun k : Nat => D.int k)) := rfl
    have e2 : D.depthL ((x :: xs).map fun k : Nat => D.int k) = max (D.depth (.int x)) (D.depthL (xs.map fun k : Nat => D.int k)) := rfl
    rw [e1, e2, a]
    refine ⟨by rw [Bool.and_true]; rfl, ?_⟩
    have : (D.int x).depth ≤ 2 := by simp [D.depth]
    omega
/-- a list compared with the empty one -/
theorem eqW_nil {a b : Addr} {xs : List D} {M : Mem} {r : Bool → Prop} (ha : M a = some xs) (hb : M b = some []) (hp : D.pureL xs = true ∧ D.depthL xs ≤ 2) (h : r xs.isEmpty) : eqW (.lst a) (.lst b) M r := by
  refine ⟨_, _, ha, hb, ⟨hp.1, rfl, by omega, by simp [D.depthL]⟩, ?_⟩
  cases xs with
  | nil => exact h
  | cons x xs => exact h
theorem eqW_rt {xs ys : List Rat} {M : Mem} {r : Bool → Prop} (h : r (decide (xs = ys))) : eqW (.tup (xs.map rat)) (.tup (ys.map rat)) M r := by
  obtain ⟨p1, d1⟩ := rats_pure xs
  obtain ⟨p2, d2⟩ := rats_pure ys
  refine eqW_any (show D.pureL _ = true from p1) ?_ (show D.pureL _ = true from p2) ?_ ?_
  · show D.depthL _ + 1 ≤ 60; omega
  · show D.depthL _ + 1 ≤ 60; omega
  · show r (deqL _ _); rw [eqL_rats]; exact h
end TB

/-! Engi: an extra income spread over years, always to the one that pays least for more -/
namespace TB
open PySem PySem.Spec PyProof.Rows L2
theorem Sub.at {M M' : Mem} {p : Addr} {ds : List D} (s : Sub M M') (h : M p = Option.none) : Sub M (M'.up p ds) := fun a es e => by
  rw [up_ne (fun z => by subst z; rw [h] at e; cases e)]; exact s a es e
/-! slopes of a row that is bent up -/
def latR (R : List Pc) (x : Rat) : List Rat := (R.filter fun p => decide (x < p.s)).map (·.s)
def roomA (R : List Pc) (x m : Rat) : Rat := match latR R x with
  | [] => m
  | s :: _ => mn (s - x) m
theorem latR_nil {R : List Pc} {x : Rat} (h : latR R x = []) : ∀ p ∈ R, p.s ≤ x := fun p hp => by
  unfold latR at h
  rw [List.map_eq_nil_iff, List.filter_eq_nil_iff] at h
  have := h p hp
  simp at this
  grind
theorem latR_cons {R : List Pc} (as : Asc R) {x s : Rat} {r : List Rat} (h : latR R x = s :: r) : (∃ p ∈ R, p.s = s ∧ x < s) ∧ ∀ p ∈ R, x < p.s → s ≤ p.s := by
  unfold latR at h
  obtain ⟨a, l, e, rfl, rfl⟩ := List.map_eq_cons_iff.mp h
  have ha : a ∈ R.filter fun p => decide (x < p.s) := by rw [e]; simp
  obtain ⟨h1, h2⟩ := List.mem_filter.mp ha
  refine ⟨⟨a, h1, rfl, by simpa using h2⟩, fun p hp hx => ?_⟩
  have hq : p ∈ R.filter fun p => decide (x < p.s) := List.mem_filter.mpr ⟨hp, by simp [hx]⟩
  have as2 : Asc (R.filter fun p => decide (x < p.s)) := as.sublist List.filter_sublist
  rw [e] at hq as2
  rcases List.mem_cons.mp hq with rfl | hq
  · exact Rat.le_refl
  · exact Rat.le_of_lt ((List.pairwise_cons.mp as2).1 p hq)
theorem roomA_le {R : List Pc} {x m : Rat} : roomA R x m ≤ m := by
  unfold roomA; split
  · exact Rat.le_refl
  · exact mn_le.2
theorem roomA_pos {R : List Pc} (as : Asc R) {x m : Rat} (m0 : 0 < m) : 0 < roomA R x m := by
  unfold roomA; split
  · exact m0
  · rename_i s r e
    obtain ⟨⟨_, _, _, h⟩, _⟩ := latR_cons as e
    rcases mn_or (a := s - x) (b := m) with h1 | h1 <;> rw [h1] <;> grind
/-- up to the room there is no start -/
theorem roomA_free {R : List Pc} (as : Asc R) {x m : Rat} : ∀ p ∈ R, x < p.s → x + roomA R x m ≤ p.s := fun p hp hx => by
  unfold roomA; split
  · rename_i e
    have := latR_nil e p hp
    grind
  · rename_i s r e
    have := (latR_cons as e).2 p hp hx
    have := (mn_le (a := s - x) (b := m)).1
    grind
theorem cx_up {R : List Pc} (h : Cx R) {x y : Rat} (x0 : 0 ≤ x) (xy : x ≤ y) : slAt R x * (y - x) ≤ valAt R y - valAt R x := by
  obtain ⟨p, hp, hpR, hpx⟩ := h.rw.at_ex x0
  rw [slAt_of hp]
  exact low_growth h.rw.asc h.st hpR (fun q hq hqp => h.mono hpR hq hqp) x y hpx xy
theorem cx_seg {R : List Pc} (h : Cx R) {x y : Rat} (x0 : 0 ≤ x) (xy : x ≤ y) (hf : ∀ p ∈ R, x < p.s → y ≤ p.s) : valAt R y - valAt R x = slAt R x * (y - x) := by
  have h1 := cx_up h x0 xy
  obtain ⟨p, hp, hpR, hpx⟩ := h.rw.at_ex x0
  obtain ⟨f, hfR, f0⟩ := h.rw.first
  rw [slAt_of hp] at h1 ⊢
  obtain ⟨l, r, e, _, bl⟩ := pieceAt_split h.rw.asc hp
  have last : ∀ q ∈ R, q.s < y → q.k ≤ p.k := fun q hq hqy => by
    have hqx : q.s ≤ x := by
      rcases Decidable.em (q.s ≤ x) with k | k
      · exact k
      · have := hf q hq (by grind); grind
    refine h.mono hq hpR ?_
    have as := h.rw.asc
    subst e
    rcases List.mem_append.mp hq with hq | hq
    · have := asc_left as hq; grind
    · rcases List.mem_cons.mp hq with rfl | hq
      · exact Rat.le_refl
      · exfalso
        cases r with
        | nil => simp at hq
        | cons b r =>
          have b1 : x < b.s := bl b.s rfl
          have b2 : b.s ≤ q.s := bd_le (l := l) (p := p) as hq rfl
          grind
  have h2 := high_growth h.rw.asc h.st (t := y) (s := p.k) last x y ⟨f, hfR, by rw [f0]; exact x0⟩ xy Rat.le_refl
  grind
theorem sl_mono {R : List Pc} (h : Cx R) {x y : Rat} (x0 : 0 ≤ x) (xy : x ≤ y) : slAt R x ≤ slAt R y := by
  obtain ⟨p, hp, hpR, hpx⟩ := h.rw.at_ex x0
  obtain ⟨q, hq, hqR, hqy⟩ := h.rw.at_ex (show 0 ≤ y by grind)
  rw [slAt_of hp, slAt_of hq]
  refine h.mono hpR hqR ?_
  obtain ⟨l, r, e, _, bl⟩ := pieceAt_split h.rw.asc hq
  have as := h.rw.asc
  subst e
  rcases List.mem_append.mp hpR with hp2 | hp2
  · exact Rat.le_of_lt (asc_left as hp2)
  · rcases List.mem_cons.mp hp2 with rfl | hp2
    · exact Rat.le_refl
    · exfalso
      cases r with
      | nil => simp at hp2
      | cons b r =>
        have b1 : y < b.s := bl b.s rfl
        have b2 : b.s ≤ p.s := bd_le (l := l) (p := q) as hp2 rfl
        grind
/-! the first place of the least -/
def amin (f : Nat → Rat) (n : Nat) : Nat := (List.range n).foldl (fun b k => if f k < f b then k else b) 0
theorem amin_succ {f : Nat → Rat} {n : Nat} : amin f (n + 1) = if f n < f (amin f n) then n else amin f n := by
  unfold amin
  rw [List.range_succ, List.foldl_append]; rfl
theorem amin_spec {f : Nat → Rat} : ∀ {n : Nat}, 0 < n → amin f n < n ∧ ∀ k, k < n → f (amin f n) ≤ f k
  | 0, h => absurd h (by omega)
  | 1, _ => by
    have e : amin f 1 = 0 := by rw [amin_succ]; have : amin f 0 = 0 := rfl; rw [this]; split <;> rfl
    rw [e]
    exact ⟨by omega, fun k hk => by rw [show k = 0 by omega]; exact Rat.le_refl⟩
  | n + 2, _ => by
    obtain ⟨h1, h2⟩ := amin_spec (f := f) (n := n + 1) (by omega)
    rw [amin_succ]
    by_cases c : f (n + 1) < f (amin f (n + 1))
    · rw [if_pos c]
      refine ⟨by omega, fun k hk => ?_⟩
      by_cases e : k = n + 1
      · rw [e]; exact Rat.le_refl
      · have := h2 k (by omega); grind
    · rw [if_neg c]
      refine ⟨by omega, fun k hk => ?_⟩
      by_cases e : k = n + 1
      · rw [e]; grind
      · exact h2 k (by omega)
/-! the rule -/
def posR (xs ps : List Rat) (k : Nat) : Rat := xs.getD k 0 + ps.getD k 0
def bestK (R : List Pc) (xs ps : List Rat) : Nat := amin (fun k => slAt R (posR xs ps k)) xs.length
def partK (R : List Pc) (xs ps : List Rat) (left : Rat) : Rat := mn left (roomA R (posR xs ps (bestK R xs ps)) left)
def gstep (R : List Pc) (xs : List Rat) (s : List Rat × Rat) : List Rat × Rat :=
  if 0 < s.2 then (s.1.set (bestK R xs s.1) (s.1.getD (bestK R xs s.1) 0 + partK R xs s.1 s.2), s.2 - partK R xs s.1 s.2) else s
def gre (R : List Pc) (xs : List Rat) (e : Rat) : Nat → List Rat × Rat
  | 0 => (List.replicate xs.length 0, e)
  | i + 1 => gstep R xs (gre R xs e i)
def sprN (R : List Pc) (xs : List Rat) : Nat := R.length * xs.length + 2
def sprR (R : List Pc) (xs : List Rat) (e : Rat) : List Rat := (gre R xs e (sprN R xs)).1
theorem part_pos {R : List Pc} (as : Asc R) {xs ps : List Rat} {l : Rat} (l0 : 0 < l) : 0 < partK R xs ps l ∧ partK R xs ps l ≤ l := by
  have h1 := roomA_pos as (x := posR xs ps (bestK R xs ps)) l0
  unfold partK
  refine ⟨?_, mn_le.1⟩
  rcases mn_or (a := l) (b := roomA R (posR xs ps (bestK R xs ps)) l) with h | h <;> rw [h]
  · exact l0
  · exact h1
theorem sm_set {l : List Rat} {k : Nat} {a : Rat} (h : k < l.length) : sumR (l.set k a) = sumR l - l.getD k 0 + a := by
  induction l generalizing k with
  | nil => simp at h
  | cons x l ih =>
    cases k with
    | zero => rw [List.set_cons_zero, sm_cons, sm_cons]; show a + sumR l = x + sumR l - x + a; grind
    | succ k =>
      rw [List.set_cons_succ, sm_cons, sm_cons, ih (by simpa using h)]
      show x + (sumR l - l.getD k 0 + a) = x + sumR l - l.getD k 0 + a
      grind
theorem getD_set {l : List Rat} {k j : Nat} {a : Rat} (h : k < l.length) : (l.set k a).getD j 0 = if j = k then a else l.getD j 0 := by
  rw [List.getD_eq_getElem?_getD, List.getD_eq_getElem?_getD]
  by_cases e : j = k
  · subst e; rw [if_pos rfl, List.getElem?_set_self h]; rfl
  · rw [if_neg e, List.getElem?_set_ne (Ne.symm e)]
/-- what holds on the way -/
structure GI (R : List Pc) (xs : List Rat) (e : Rat) (ps : List Rat) (l : Rat) : Prop where
  len : ps.length = xs.length
  nn : ∀ k, 0 ≤ ps.getD k 0
  l0 : 0 ≤ l
  sum : sumR ps + l = e
  lev : ∃ t : Rat, (∀ k, k < xs.length → ∀ y, posR xs ps k ≤ y → t * (y - posR xs ps k) ≤ valAt R y - valAt R (posR xs ps k)) ∧ ∀ k, k < xs.length → ∀ y, xs.getD k 0 ≤ y → y ≤ posR xs ps k → valAt R (posR xs ps k) - valAt R y ≤ t * (posR xs ps k - y)
theorem getD_nn {xs : List Rat} (h : ∀ x ∈ xs, 0 ≤ x) (k : Nat) : 0 ≤ xs.getD k 0 := by
  rw [List.getD_eq_getElem?_getD]
  cases e : xs[k]? with
  | none => exact Rat.le_refl
  | some x => exact h x (List.mem_of_getElem? e)
theorem sm_nn {xs : List Rat} (h : ∀ x ∈ xs, 0 ≤ x) : 0 ≤ sumR xs := by
  induction xs with
  | nil => exact Rat.le_refl
  | cons x xs ih =>
    rw [sm_cons]
    have := h x (by simp)
    have := ih fun y hy => h y (by simp [hy])
    grind
theorem sm_rep0 {n : Nat} : sumR (List.replicate n 0) = 0 := by
  induction n with
  | zero => rfl
  | succ n ih => rw [List.replicate_succ, sm_cons, ih]; grind
theorem getD_rep0 {n k : Nat} : (List.replicate n (0 : Rat)).getD k 0 = 0 := by
  rw [List.getD_eq_getElem?_getD, List.getElem?_replicate]
  split <;> rfl
theorem gi_zero {R : List Pc} (h : Cx R) {xs : List Rat} {e : Rat} (x0 : ∀ x ∈ xs, 0 ≤ x) (e0 : 0 ≤ e) : GI R xs e (gre R xs e 0).1 (gre R xs e 0).2 := by
  obtain ⟨f, hf, f0⟩ := h.rw.first
  refine ⟨by simp [gre], fun k => by show 0 ≤ (List.replicate _ (0 : Rat)).getD k 0; rw [getD_rep0]; exact Rat.le_refl, e0, by show sumR (List.replicate _ 0) + e = e; rw [sm_rep0]; grind, f.k, fun k hk y hy => ?_, fun k hk y h1 h2 => ?_⟩
  · have p0 : posR xs (gre R xs e 0).1 k = xs.getD k 0 := by unfold posR; show _ + (List.replicate _ (0 : Rat)).getD k 0 = _; rw [getD_rep0]; grind
    rw [p0] at hy ⊢
    exact low_growth h.rw.asc h.st hf (fun q hq hqf => h.mono hf hq hqf) _ y (by rw [f0]; exact getD_nn x0 k) hy
  · have p0 : posR xs (gre R xs e 0).1 k = xs.getD k 0 := by unfold posR; show _ + (List.replicate _ (0 : Rat)).getD k 0 = _; rw [getD_rep0]; grind
    rw [p0] at h2 ⊢
    have : y = xs.getD k 0 := by grind
    rw [this]; grind
theorem gi_step {R : List Pc} (h : Cx R) {xs : List Rat} {e : Rat} (x0 : ∀ x ∈ xs, 0 ≤ x) (ne : 0 < xs.length) {s : List Rat × Rat} (g : GI R xs e s.1 s.2) : GI R xs e (gstep R xs s).1 (gstep R xs s).2 := by
  obtain ⟨ps, l⟩ := s
  unfold gstep
  by_cases c : 0 < l
  · simp only [c, if_true]
    obtain ⟨p1, p2⟩ := part_pos h.rw.asc (xs := xs) (ps := ps) c
    obtain ⟨k1, k2⟩ := amin_spec (f := fun k => slAt R (posR xs ps k)) ne
    have fr := roomA_free h.rw.asc (x := posR xs ps (bestK R xs ps)) (m := l)
    have pr : partK R xs ps l ≤ roomA R (posR xs ps (bestK R xs ps)) l := mn_le.2
    have k1 : bestK R xs ps < xs.length := k1
    have k2 : ∀ k, k < xs.length → slAt R (posR xs ps (bestK R xs ps)) ≤ slAt R (posR xs ps k) := k2
    have kl : bestK R xs ps < ps.length := by rw [g.len]; exact k1
    have pos0 : ∀ k, 0 ≤ posR xs ps k := fun k => by have := getD_nn x0 k; have := g.nn k; unfold posR; grind
    generalize partK R xs ps l = p at *
    generalize bestK R xs ps = b at *
    have pos1 : ∀ k, posR xs (ps.set b (ps.getD b 0 + p)) k = if k = b then posR xs ps b + p else posR xs ps k := fun k => by
      unfold posR
      rw [getD_set kl]
      by_cases e : k = b
      · subst e; rw [if_pos rfl, if_pos rfl]; grind
      · rw [if_neg e, if_neg e]
    obtain ⟨t, t1, t2⟩ := g.lev
    have seg : ∀ y, posR xs ps b ≤ y → y ≤ posR xs ps b + p → valAt R y - valAt R (posR xs ps b) = slAt R (posR xs ps b) * (y - posR xs ps b) := fun y hy hy2 =>
      cx_seg h (pos0 b) hy fun q hq hx => by have := fr q hq hx; grind
    have ts : t ≤ slAt R (posR xs ps b) := by
      have h1 := t1 b k1 (posR xs ps b + p) (by grind)
      rw [seg _ (by grind) Rat.le_refl] at h1
      have e1 : posR xs ps b + p - posR xs ps b = p := by grind
      rw [e1] at h1
      exact Rat.le_of_mul_le_mul_right h1 p1
    refine ⟨by rw [List.length_set]; exact g.len, fun k => ?_, by grind, ?_, slAt R (posR xs ps b), fun k hk y hy => ?_, fun k hk y hy hy2 => ?_⟩
    · rw [getD_set kl]
      split
      · have := g.nn b; grind
      · exact g.nn k
    · rw [sm_set kl]
      have := g.sum
      show sumR ps - ps.getD b 0 + (ps.getD b 0 + p) + (l - p) = e
      grind
    · rw [pos1] at hy ⊢
      by_cases e : k = b
      · rw [if_pos e] at hy ⊢
        have h1 := cx_up h (x := posR xs ps b + p) (by have := pos0 b; grind) hy
        have h2 := sl_mono h (pos0 b) (y := posR xs ps b + p) (by grind)
        have h3 := mul_le_l h2 (show 0 ≤ y - (posR xs ps b + p) by grind)
        exact Rat.le_trans h3 h1
      · rw [if_neg e] at hy ⊢
        have h1 := cx_up h (pos0 k) hy
        have h3 := mul_le_l (k2 k hk) (show 0 ≤ y - posR xs ps k by grind)
        exact Rat.le_trans h3 h1
    · rw [pos1] at hy2 ⊢
      by_cases e : k = b
      · subst e
        rw [if_pos rfl] at hy2 ⊢
        have s1 := seg (posR xs ps k + p) (by grind) Rat.le_refl
        by_cases q : y ≤ posR xs ps k
        · have h1 := t2 k hk y hy q
          have h3 := mul_le_l ts (show 0 ≤ posR xs ps k - y by grind)
          grind
        · have s2 := seg y (by grind) hy2
          grind
      · rw [if_neg e] at hy2 ⊢
        have h1 := t2 k hk y hy hy2
        have h3 := mul_le_l ts (show 0 ≤ posR xs ps k - y by grind)
        exact Rat.le_trans h1 h3
  · simp only [c, if_false]
    exact g
theorem gi_all {R : List Pc} (h : Cx R) {xs : List Rat} {e : Rat} (x0 : ∀ x ∈ xs, 0 ≤ x) (ne : 0 < xs.length) (e0 : 0 ≤ e) : ∀ i, GI R xs e (gre R xs e i).1 (gre R xs e i).2
  | 0 => gi_zero h x0 e0
  | i + 1 => gi_step h x0 ne (gi_all h x0 ne e0 i)
/-! the end comes -/
def cntS (R : List Pc) (x : Rat) : Nat := (R.filter fun p => decide (x < p.s)).length
def muG (R : List Pc) (xs ps : List Rat) (l : Rat) : Nat := ((List.range xs.length).map fun k => cntS R (posR xs ps k)).sum + if 0 < l then 1 else 0
theorem cnt_le {R : List Pc} {x y : Rat} (h : x ≤ y) : cntS R y ≤ cntS R x := by
  unfold cntS
  induction R with
  | nil => simp
  | cons p R ih =>
    rw [List.filter_cons, List.filter_cons]
    by_cases c : y < p.s
    · have c2 : x < p.s := by grind
      simp only [c, c2, decide_true, if_true, List.length_cons]; omega
    · simp only [c, decide_false, Bool.false_eq_true, if_false]
      split
      · rw [List.length_cons]; omega
      · exact ih
theorem cnt_lt {R : List Pc} {x y : Rat} (h : x ≤ y) {p : Pc} (hp : p ∈ R) (h1 : x < p.s) (h2 : p.s ≤ y) : cntS R y < cntS R x := by
  obtain ⟨l, r, rfl⟩ := List.append_of_mem hp
  have a := cnt_le (R := l) h
  have b := cnt_le (R := r) h
  unfold cntS at *
  rw [List.filter_append, List.filter_append, List.filter_cons, List.filter_cons]
  have c : ¬ y < p.s := by grind
  simp only [c, h1, decide_true, decide_false, Bool.false_eq_true, if_false, if_true, List.length_append, List.length_cons]
  omega
theorem sum_lt {f g : Nat → Nat} {n b : Nat} (hb : b < n) (h : ∀ k, k < n → k ≠ b → f k ≤ g k) (hl : f b < g b) : ((List.range n).map f).sum < ((List.range n).map g).sum := by
  have le : ∀ m, m ≤ n → (∀ k, k < m → f k ≤ g k) → ((List.range m).map f).sum ≤ ((List.range m).map g).sum := fun m => by
    induction m with
    | zero => intro _ _; exact Nat.le_refl _
    | succ m ih =>
      intro hm hk
      rw [List.range_succ, List.map_append, List.map_append, List.sum_append, List.sum_append]
      have := ih (by omega) fun k h => hk k (by omega)
      have := hk m (by omega)
      simp; omega
  induction n with
  | zero => omega
  | succ n ih =>
    rw [List.range_succ, List.map_append, List.map_append, List.sum_append, List.sum_append]
    by_cases e : b = n
    · subst e
      have := le b (by omega) fun k hk => h k (by omega) (by omega)
      simp; omega
    · have := ih (by omega) (fun k hk => h k (by omega)) fun m hm hk => le m (by omega) hk
      have := h n (by omega) (by omega)
      simp; omega
theorem sum_le_n {f g : Nat → Nat} {n : Nat} (h : ∀ k, f k ≤ g k) : ((List.range n).map f).sum ≤ ((List.range n).map g).sum := by
  induction n with
  | zero => exact Nat.le_refl _
  | succ n ih =>
    rw [List.range_succ, List.map_append, List.map_append, List.sum_append, List.sum_append]
    have := h n
    simp; omega
theorem mu_step {R : List Pc} (as : Asc R) {xs ps : List Rat} {l : Rat} (hl : ps.length = xs.length) (ne : 0 < xs.length) (l0 : 0 < l) : muG R xs (gstep R xs (ps, l)).1 (gstep R xs (ps, l)).2 < muG R xs ps l := by
  obtain ⟨p1, p2⟩ := part_pos as (xs := xs) (ps := ps) l0
  obtain ⟨k1, _⟩ := amin_spec (f := fun k => slAt R (posR xs ps k)) ne
  have k1 : bestK R xs ps < xs.length := k1
  have kl : bestK R xs ps < ps.length := by rw [hl]; exact k1
  have pe : partK R xs ps l = mn l (roomA R (posR xs ps (bestK R xs ps)) l) := rfl
  unfold gstep
  simp only [l0, if_true]
  generalize partK R xs ps l = p at *
  generalize bestK R xs ps = b at *
  have pos1 : ∀ k, posR xs (ps.set b (ps.getD b 0 + p)) k = if k = b then posR xs ps b + p else posR xs ps k := fun k => by
    unfold posR
    rw [getD_set kl]
    by_cases e : k = b
    · subst e; rw [if_pos rfl, if_pos rfl]; grind
    · rw [if_neg e, if_neg e]
  have le : ∀ k, cntS R (posR xs (ps.set b (ps.getD b 0 + p)) k) ≤ cntS R (posR xs ps k) := fun k => by
    rw [pos1]
    split
    · rename_i e; subst e; exact cnt_le (by grind)
    · exact Nat.le_refl _
  unfold muG
  rw [if_pos l0]
  have sl : ((List.range xs.length).map fun k => cntS R (posR xs (ps.set b (ps.getD b 0 + p)) k)).sum ≤ ((List.range xs.length).map fun k => cntS R (posR xs ps k)).sum := by
    exact sum_le_n le
  by_cases c : 0 < l - p
  · rw [if_pos c]
    have : ((List.range xs.length).map fun k => cntS R (posR xs (ps.set b (ps.getD b 0 + p)) k)).sum < ((List.range xs.length).map fun k => cntS R (posR xs ps k)).sum := by
      refine sum_lt k1 (fun k _ _ => le k) ?_
      show cntS R (posR xs (ps.set b (ps.getD b 0 + p)) b) < cntS R (posR xs ps b)
      rw [pos1, if_pos rfl]
      have pl : p < l := by grind
      have pr : p = roomA R (posR xs ps b) l := by
        rcases mn_or (a := l) (b := roomA R (posR xs ps b) l) with h | h <;> rw [h] at pe
        · grind
        · exact pe
      unfold roomA at pr
      split at pr
      · grind
      · rename_i s r e
        obtain ⟨⟨q, hq, hqs, hqx⟩, _⟩ := latR_cons as e
        have : p = s - posR xs ps b := by
          rcases mn_or (a := s - posR xs ps b) (b := l) with h | h <;> rw [h] at pr
          · exact pr
          · grind
        refine cnt_lt (by grind) hq (by rw [hqs]; exact hqx) (by grind)
    omega
  · rw [if_neg c]
    omega
theorem gre_end {R : List Pc} (h : Cx R) {xs : List Rat} {e : Rat} (x0 : ∀ x ∈ xs, 0 ≤ x) (ne : 0 < xs.length) (e0 : 0 ≤ e) : ∀ i, muG R xs (gre R xs e i).1 (gre R xs e i).2 + i ≤ sprN R xs ∨ (gre R xs e i).2 = 0 := by
  intro i
  induction i with
  | zero =>
    left
    unfold muG sprN
    have : ∀ n, ((List.range n).map fun k => cntS R (posR xs (gre R xs e 0).1 k)).sum ≤ R.length * n := fun n => by
      induction n with
      | zero => simp
      | succ n ih =>
        rw [List.range_succ, List.map_append, List.sum_append, Nat.mul_succ]
        have : cntS R (posR xs (gre R xs e 0).1 n) ≤ R.length := List.length_filter_le ..
        simp; omega
    have := this xs.length
    split <;> omega
  | succ i ih =>
    have g := gi_all h x0 ne e0 i
    have st : gre R xs e (i + 1) = gstep R xs ((gre R xs e i).1, (gre R xs e i).2) := rfl
    by_cases c : 0 < (gre R xs e i).2
    · rcases ih with ih | ih
      · left
        have := mu_step h.rw.asc (R := R) g.len ne c
        rw [st]; omega
      · rw [ih] at c; exact absurd c Rat.lt_irrefl
    · right
      have z : (gre R xs e i).2 = 0 := by have := g.l0; grind
      rw [st]
      unfold gstep
      rw [if_neg (by rw [z]; exact Rat.lt_irrefl)]
      exact z
theorem gre_stop {R : List Pc} {xs : List Rat} {e : Rat} {i : Nat} (z : (gre R xs e i).2 = 0) : ∀ j, gre R xs e (i + j) = gre R xs e i
  | 0 => rfl
  | j + 1 => by
    have ih := gre_stop z j
    show gstep R xs (gre R xs e (i + j)) = _
    rw [ih]
    unfold gstep
    rw [if_neg (by rw [z]; exact Rat.lt_irrefl)]
theorem spr_at {R : List Pc} (h : Cx R) {xs : List Rat} {e : Rat} (x0 : ∀ x ∈ xs, 0 ≤ x) (ne : 0 < xs.length) (e0 : 0 ≤ e) {i : Nat} (z : (gre R xs e i).2 = 0) : (gre R xs e i).1 = sprR R xs e := by
  have zz : (gre R xs e (sprN R xs)).2 = 0 := by
    rcases gre_end h x0 ne e0 (sprN R xs) with k | k
    · have g := gi_all h x0 ne e0 (sprN R xs)
      unfold muG at k
      have := g.l0
      split at k
      · omega
      · grind
    · exact k
  unfold sprR
  rcases Nat.le_total i (sprN R xs) with k | k
  · obtain ⟨j, e⟩ := Nat.exists_eq_add_of_le k
    rw [e, gre_stop z]
  · obtain ⟨j, e⟩ := Nat.exists_eq_add_of_le k
    rw [e, gre_stop zz]
/-- the told spread: parts of the extra income that cost no more than any others -/
def paidS (R : List Pc) (xs ps : List Rat) : Rat := sumR ((xs.zip ps).map fun p => valAt R (p.1 + p.2))
theorem zip_sum {R : List Pc} {t : Rat} : ∀ (xs ps es : List Rat), ps.length = xs.length → es.length = xs.length → (∀ k, k < xs.length → valAt R (posR xs ps k) + t * (es.getD k 0 - ps.getD k 0) ≤ valAt R (posR xs es k)) → paidS R xs ps + t * (sumR es - sumR ps) ≤ paidS R xs es
  | [], [], [], _, _, _ => by show (0 : Rat) + t * (0 - 0) ≤ 0; grind
  | x :: xs, p :: ps, e :: es, h1, h2, h => by
    have ih := zip_sum (R := R) (t := t) xs ps es (by simpa using h1) (by simpa using h2) fun k hk => h (k + 1) (by simpa using hk)
    have h0 := h 0 (by simp)
    have e1 : ∀ p ps, paidS R (x :: xs) (p :: ps) = valAt R (x + p) + paidS R xs ps := fun p ps => by unfold paidS; rw [List.zip_cons_cons, List.map_cons, sm_cons]
    rw [e1, e1, sm_cons, sm_cons]
    have h0 : valAt R (x + p) + t * (e - p) ≤ valAt R (x + e) := h0
    grind
theorem gi_best {R : List Pc} {xs ps : List Rat} {e : Rat} (g : GI R xs e ps 0) {es : List Rat} (hl : es.length = xs.length) (nn : ∀ k, 0 ≤ es.getD k 0) (hs : sumR es = e) : paidS R xs ps ≤ paidS R xs es := by
  obtain ⟨t, t1, t2⟩ := g.lev
  have h := zip_sum (R := R) (t := t) xs ps es g.len hl fun k hk => by
    by_cases c : posR xs ps k ≤ posR xs es k
    · have := t1 k hk _ c
      have e1 : posR xs es k - posR xs ps k = es.getD k 0 - ps.getD k 0 := by unfold posR; grind
      rw [e1] at this; grind
    · have := t2 k hk (posR xs es k) (by unfold posR; have := nn k; grind) (by grind)
      have e1 : posR xs ps k - posR xs es k = ps.getD k 0 - es.getD k 0 := by unfold posR; grind
      rw [e1] at this; grind
  have := g.sum
  have e1 : sumR es - sumR ps = 0 := by grind
  rw [e1] at h
  grind
theorem spr_gi {R : List Pc} (h : Cx R) {xs : List Rat} {e : Rat} (x0 : ∀ x ∈ xs, 0 ≤ x) (ne : 0 < xs.length) (e0 : 0 ≤ e) : GI R xs e (sprR R xs e) 0 := by
  have g := gi_all h x0 ne e0 (sprN R xs)
  have zz : (gre R xs e (sprN R xs)).2 = 0 := by
    rcases gre_end h x0 ne e0 (sprN R xs) with k | k
    · unfold muG at k
      have := g.l0
      split at k
      · omega
      · grind
    · exact k
  rw [zz] at g
  exact g
/-! all on one lattice -/
theorem QI.mul {a b : Nat} {x y : Rat} (h : QI a x) (k : QI b y) : QI (a * b) (x * y) := by
  obtain ⟨m, hm⟩ := h
  obtain ⟨n, hn⟩ := k
  refine ⟨m * n, ?_⟩
  rw [Rat.intCast_mul, ← hm, ← hn, Int.natCast_mul, Rat.intCast_mul]
  grind
theorem QI.add {a : Nat} {x y : Rat} (h : QI a x) (k : QI a y) : QI a (x + y) := by
  obtain ⟨m, hm⟩ := h
  obtain ⟨n, hn⟩ := k
  exact ⟨m + n, by rw [Rat.intCast_add, ← hm, ← hn]; grind⟩
theorem QI.sub {a : Nat} {x y : Rat} (h : QI a x) (k : QI a y) : QI a (x - y) := by
  obtain ⟨m, hm⟩ := h
  obtain ⟨n, hn⟩ := k
  exact ⟨m - n, by rw [Rat.intCast_sub, ← hm, ← hn]; grind⟩
theorem QI.fine {a : Nat} (c : Nat) {x : Rat} (h : QI a x) : QI (a * c) x := by
  obtain ⟨m, hm⟩ := h
  exact ⟨m * c, by rw [Rat.intCast_mul, ← hm, Int.natCast_mul, Rat.intCast_mul, Rat.mul_assoc]⟩
theorem QI.divInt {j : Int} {c : Nat} (hc : 0 < c) : QI c (Rat.divInt j c) := by
  refine ⟨j, ?_⟩
  rw [Rat.divInt_eq_div, Rat.div_def, Rat.mul_assoc, Rat.inv_mul_cancel _ (by have : (0 : Rat) < ((c : Int) : Rat) := Rat.intCast_pos.mpr (by omega); grind), Rat.mul_one]
theorem QI.half {a : Nat} {x : Rat} (h : QI a x) : QI (a * 2) (x * halfR) := h.mul ⟨1, by decide +kernel⟩
theorem qi_val {R : List Pc} (h : Rw R) {D : Nat} (hp : ∀ p ∈ R, QI (D * 10) p.v ∧ QI 10 p.k ∧ QI D p.s) {x : Rat} (x0 : 0 ≤ x) (hx : QI D x) : QI (D * 10) (valAt R x) := by
  obtain ⟨p, hp2, hpR, _⟩ := h.at_ex x0
  obtain ⟨a, b, c⟩ := hp p hpR
  rw [valAt_of hp2]
  unfold Pc.at
  have h1 := b.mul (hx.sub c)
  rw [Nat.mul_comm] at h1
  exact a.add h1
theorem qi_inc {D h n : Nat} {xs : List Rat} (D0 : 0 < D) (hl : xs.length ≤ 12) (hx : ∀ x ∈ xs, 0 ≤ x ∧ x ≤ ((h : Int) : Rat) ∧ QI D x) (h1 : h * D < 2 ^ n) (h2 : D < 2 ^ n) : IncL n xs := ⟨hl, fun x hxx => by
  obtain ⟨a, b, c⟩ := hx x hxx
  exact (c.qz a b).sz D0 h1 h2⟩
theorem qi_zero {D : Nat} : QI D 0 := ⟨0, by simp⟩
theorem qi_add {a : Nat} {x y : Rat} (h : QI a x) (k : QI a y) : QI a (x + y) := by
  obtain ⟨m, hm⟩ := h
  obtain ⟨n, hn⟩ := k
  exact ⟨m + n, by rw [Rat.intCast_add, ← hm, ← hn]; grind⟩
theorem qi_sub {a : Nat} {x y : Rat} (h : QI a x) (k : QI a y) : QI a (x - y) := by
  obtain ⟨m, hm⟩ := h
  obtain ⟨n, hn⟩ := k
  exact ⟨m - n, by rw [Rat.intCast_sub, ← hm, ← hn]; grind⟩
theorem gre_qi {R : List Pc} (as : Asc R) {D : Nat} (hR : ∀ p ∈ R, QI D p.s) {xs : List Rat} {e : Rat} (hx : ∀ x ∈ xs, QI D x) (he : QI D e) (ne : 0 < xs.length) : ∀ i, (gre R xs e i).1.length = xs.length ∧ (∀ k, QI D ((gre R xs e i).1.getD k 0)) ∧ QI D (gre R xs e i).2
  | 0 => ⟨by simp [gre], fun k => by show QI D ((List.replicate _ (0 : Rat)).getD k 0); rw [getD_rep0]; exact qi_zero, he⟩
  | i + 1 => by
    obtain ⟨hl, h1, h2⟩ := gre_qi as hR hx he ne i
    have xq : ∀ k, QI D (xs.getD k 0) := fun k => by
      rw [List.getD_eq_getElem?_getD]
      cases e : xs[k]? with
      | none => exact qi_zero
      | some x => exact hx x (List.mem_of_getElem? e)
    show (gstep R xs (gre R xs e i)).1.length = _ ∧ (∀ k, QI D ((gstep R xs (gre R xs e i)).1.getD k 0)) ∧ QI D (gstep R xs (gre R xs e i)).2
    generalize gre R xs e i = s at *
    obtain ⟨ps, l⟩ := s
    unfold gstep
    by_cases c : 0 < l
    · simp only [c, if_true]
      obtain ⟨k1, _⟩ := amin_spec (f := fun k => slAt R (posR xs ps k)) ne
      have kl : bestK R xs ps < ps.length := by rw [hl]; exact k1
      have pq : QI D (partK R xs ps l) := by
        unfold partK
        rcases mn_or (a := l) (b := roomA R (posR xs ps (bestK R xs ps)) l) with h | h <;> rw [h]
        · exact h2
        · unfold roomA; split
          · exact h2
          · rename_i s r e
            obtain ⟨⟨q, hq, hqs, _⟩, _⟩ := latR_cons as e
            rcases mn_or (a := s - posR xs ps (bestK R xs ps)) (b := l) with h | h <;> rw [h]
            · exact qi_sub (by rw [← hqs]; exact hR q hq) (qi_add (xq _) (h1 _))
            · exact h2
      refine ⟨by rw [List.length_set]; exact hl, fun k => ?_, qi_sub h2 pq⟩
      rw [getD_set kl]
      split
      · exact qi_add (h1 _) pq
      · exact h1 k
    · simp only [c, if_false]
      exact ⟨hl, h1, h2⟩
/-! promises -/
def sp_slope_above : List D → Mem → K1 → Prop := fun ds M q => ∃ R x, ds = [rowD R, rat x] ∧ RwW R ∧ 0 ≤ x ∧ SzR 1000 x ∧ q (rat (slAt (normR R) x)) M
def sp_room_above : List D → Mem → K1 → Prop := fun ds M q => ∃ R x m, ds = [rowD R, rat x, rat m] ∧ RwW R ∧ SzR 1000 x ∧ SzR 2001 m ∧ q (rat (roomA (normR R) x m)) M
/-- sizes on a lattice: D, all sums up to h -/
structure SpS (R : List Pc) (xs : List Rat) (e : Rat) : Prop where
  cx : Cx R
  n : RwN 60 R
  ne : 0 < xs.length
  len : xs.length ≤ 12
  x0 : ∀ x ∈ xs, 0 ≤ x
  e0 : 0 ≤ e
  q : ∃ D h : Nat, 0 < D ∧ D < 2 ^ 30 ∧ h * D < 2 ^ 30 ∧ (∀ p ∈ R, QI D p.s) ∧ (∀ x ∈ xs, QI D x ∧ x ≤ ((h : Int) : Rat)) ∧ QI D e ∧ e ≤ ((h : Int) : Rat)
def sp_best_spread : List D → Mem → K1 → Prop := fun ds M q => ∃ R xs e, ds = [rowD R, .tup (xs.map rat), rat e] ∧ SpS R xs e ∧ q (.tup ((sprR R xs e).map rat)) M
def sp_tax_spread : List D → Mem → K1 → Prop := fun ds M q => ∃ R xs ps, ds = [rowD R, .tup (xs.map rat), .tup (ps.map rat)] ∧ RwN 60 R ∧ IncL 30 xs ∧ IncL 60 ps ∧ (∀ x ∈ xs, 0 ≤ x) ∧ (∀ x ∈ ps, 0 ≤ x) ∧ xs.length = ps.length ∧ q (rat (paidS R xs ps)) M
def sp_even_spread : List D → Mem → K1 → Prop := fun ds M q => ∃ (xs : List Rat) (e : Rat), ds = [.tup (xs.map rat), rat e] ∧ 0 < xs.length ∧ xs.length ≤ 12 ∧ SzR 1000 e ∧ q (.tup ((List.replicate xs.length (e / nR xs.length)).map rat)) M
theorem SpS.gre {R : List Pc} {xs : List Rat} {e : Rat} (s : SpS R xs e) (i : Nat) : (∀ k, SzR 30 ((gre R xs e i).1.getD k 0)) ∧ SzR 30 (gre R xs e i).2 ∧ (∀ k, SzR 30 (xs.getD k 0)) ∧ ∀ k, (gre R xs e i).1.getD k 0 ≤ e := by
  obtain ⟨D, h, d0, d1, hb, qR, qx, qe, eh⟩ := s.q
  obtain ⟨_, q1, q2⟩ := gre_qi s.cx.rw.asc qR (fun x hx => (qx x hx).1) qe s.ne i
  have g := gi_all s.cx s.x0 s.ne s.e0 i
  have ub : ∀ (l : List Rat) (k : Nat), (∀ j, 0 ≤ l.getD j 0) → l.getD k 0 ≤ sumR l ∧ 0 ≤ sumR l := by
    intro l
    induction l with
    | nil => intro k _; exact ⟨Rat.le_refl, Rat.le_refl⟩
    | cons x l ih =>
      intro k hk
      have h2 := fun k => ih k fun j => hk (j + 1)
      have h0 : 0 ≤ x := hk 0
      rw [sm_cons]
      cases k with
      | zero => exact ⟨by show x ≤ _; have := (h2 0).2; grind, by have := (h2 0).2; grind⟩
      | succ k => exact ⟨by show l.getD k 0 ≤ _; have := (h2 k).1; grind, by have := (h2 0).2; grind⟩
  have le : ∀ k, (TB.gre R xs e i).1.getD k 0 ≤ e := fun k => by
    have := (ub _ k g.nn).1
    have := g.sum; have := g.l0; grind
  refine ⟨fun k => ((q1 k).qz (g.nn k) (Rat.le_trans (le k) eh)).sz d0 hb d1, (q2.qz g.l0 ?_).sz d0 hb d1, fun k => ?_, le⟩
  · have := (ub _ 0 g.nn).2
    have := g.sum
    exact Rat.le_trans (show _ ≤ e by grind) eh
  · rw [List.getD_eq_getElem?_getD]
    cases hk : xs[k]? with
    | none => exact SzR.zero.mono (by omega)
    | some x =>
      have hm := List.mem_of_getElem? hk
      exact ((qx x hm).1.qz (s.x0 x hm) (qx x hm).2).sz d0 hb d1
theorem SpS.spr {R : List Pc} {xs : List Rat} {e : Rat} (s : SpS R xs e) : IncL 30 (sprR R xs e) ∧ (∀ p ∈ sprR R xs e, 0 ≤ p ∧ p ≤ e) ∧ (sprR R xs e).length = xs.length := by
  have g := spr_gi s.cx s.x0 s.ne s.e0
  obtain ⟨a, _, _, b⟩ := s.gre (sprN R xs)
  have hm : ∀ p ∈ sprR R xs e, ∃ k, p = (TB.gre R xs e (sprN R xs)).1.getD k 0 := fun p hp => by
    obtain ⟨k, hk, rfl⟩ := List.getElem_of_mem hp
    exact ⟨k, by show (sprR R xs e)[k] = (sprR R xs e).getD k 0; rw [List.getD_eq_getElem?_getD, List.getElem?_eq_getElem hk]; rfl⟩
  refine ⟨⟨by rw [g.len]; exact s.len, fun p hp => ?_⟩, fun p hp => ?_, g.len⟩
  · obtain ⟨k, rfl⟩ := hm p hp
    exact a k
  · obtain ⟨k, rfl⟩ := hm p hp
    exact ⟨g.nn k, b k⟩
end TB

/-! Engj: losses taken off where the most is saved -/
namespace TB
open PySem PySem.Spec PyProof.Rows L2
theorem minR_le : ∀ {l : List Rat} {x : Rat}, x ∈ l → minR l ≤ x := by
  intro l
  induction l using snoc_ind with
  | h0 => intro x h; simp at h
  | hs l z ih =>
    intro x h
    cases l with
    | nil => simp at h; subst h; exact Rat.le_refl
    | cons a l =>
      rw [minR_step]
      rcases List.mem_append.mp h with h | h
      · exact Rat.le_trans mn_le.1 (ih h)
      · simp at h; subst h; exact mn_le.2
theorem gD_mem {l : List Rat} {k : Nat} (h : k < l.length) : l[k]? = some (l.getD k 0) := by
  rw [List.getD_eq_getElem?_getD, List.getElem?_eq_getElem h]; rfl
def hereR (ys us : List Rat) (k : Nat) : Rat := gn (ys.getD k 0) - us.getD k 0
def lroomR (ys us : List Rat) (k : Nat) : Rat := minR ((roomsR ys us).drop k)
theorem lroom_le {ys us : List Rat} {k j : Nat} (kj : k ≤ j) (hj : j < ys.length) : lroomR ys us k ≤ roomR ys us j := by
  refine minR_le (List.mem_of_getElem? (i := j - k) ?_)
  rw [List.getElem?_drop, show k + (j - k) = j by omega]
  exact roomsR_get hj
theorem lroom_at {ys us : List Rat} {k : Nat} (hk : k < ys.length) : ∃ j, k ≤ j ∧ j < ys.length ∧ lroomR ys us k = roomR ys us j := by
  have ne : (roomsR ys us).drop k ≠ [] := fun e => by
    have := congrArg List.length e
    rw [List.length_drop, roomsR_len] at this
    simp at this; omega
  obtain ⟨i, hi, e⟩ := List.getElem_of_mem (minR_mem ne)
  rw [List.length_drop, roomsR_len] at hi
  refine ⟨k + i, by omega, by omega, ?_⟩
  have h2 : ((roomsR ys us).drop k)[i]? = some (lroomR ys us k) := by rw [List.getElem?_eq_getElem (by rw [List.length_drop, roomsR_len]; omega), e]; rfl
  rw [List.getElem?_drop, roomsR_get (by omega)] at h2
  injection h2 with h2
  exact h2.symm
def slB (R : List Pc) (x : Rat) : Rat := match belowAt R x with
  | some p => p.k
  | none => 0
def farB (R : List Pc) (x : Rat) : Rat := match belowAt R x with
  | some p => x - p.s
  | none => 0
theorem below_ex {R : List Pc} (h : Rw R) {x : Rat} (x0 : 0 < x) : ∃ p, belowAt R x = some p ∧ p ∈ R ∧ p.s < x ∧ ∀ q ∈ R, q.s < x → q.s ≤ p.s := by
  obtain ⟨f, hf, f0⟩ := h.first
  have ne : R.filter (fun p => decide (p.s < x)) ≠ [] := fun e => by
    have := List.filter_eq_nil_iff.mp e f hf
    simp [f0] at this
    grind
  refine ⟨_, List.getLast?_eq_some_getLast ne, ?_⟩
  have hm := List.mem_filter.mp (List.getLast_mem ne)
  refine ⟨hm.1, by simpa using hm.2, fun q hq hqx => ?_⟩
  have as2 : Asc (R.filter fun p => decide (p.s < x)) := h.asc.sublist List.filter_sublist
  have hq2 : q ∈ R.filter fun p => decide (p.s < x) := List.mem_filter.mpr ⟨hq, by simp [hqx]⟩
  rw [← List.dropLast_concat_getLast ne] at as2 hq2
  rcases List.mem_append.mp hq2 with h1 | h1
  · exact Rat.le_of_lt ((List.pairwise_append.mp as2).2.2 q h1 _ (by simp))
  · rw [List.mem_singleton] at h1; rw [h1]; exact Rat.le_refl
def candU (R : List Pc) (ys us : List Rat) (k : Nat) : Bool := decide (0 < hereR ys us k) && (decide (0 < lroomR ys us k) && decide (0 < slB R (hereR ys us k)))
def slU (R : List Pc) (ys us : List Rat) (k : Nat) : Rat := slB R (hereR ys us k)
def pickF (c : Nat → Bool) (f : Nat → Rat) (b : Option Nat) (k : Nat) : Option Nat := if c k = true then (match b with
  | none => some k
  | some j => if f j < f k then some k else some j) else b
def pickU (c : Nat → Bool) (f : Nat → Rat) (n : Nat) : Option Nat := (List.range n).foldl (pickF c f) none
theorem pick_succ {c : Nat → Bool} {f : Nat → Rat} {n : Nat} : pickU c f (n + 1) = pickF c f (pickU c f n) n := by
  unfold pickU
  rw [List.range_succ, List.foldl_append]; rfl
theorem pick_spec {c : Nat → Bool} {f : Nat → Rat} : ∀ n, (pickU c f n = none → ∀ k, k < n → c k = false) ∧ ∀ b, pickU c f n = some b → b < n ∧ c b = true ∧ ∀ k, k < n → c k = true → f k ≤ f b
  | 0 => ⟨fun _ k hk => by omega, fun b h => by cases h⟩
  | n + 1 => by
    obtain ⟨h1, h2⟩ := pick_spec (c := c) (f := f) n
    rw [pick_succ]
    unfold pickF
    cases cn : c n with
    | false =>
      simp only [Bool.false_eq_true, if_false]
      refine ⟨fun e k hk => ?_, fun b e => ?_⟩
      · by_cases kn : k = n
        · subst kn; exact cn
        · exact h1 e k (by omega)
      · obtain ⟨a, b', c'⟩ := h2 b e
        refine ⟨by omega, b', fun k hk ck => ?_⟩
        by_cases kn : k = n
        · subst kn; rw [cn] at ck; cases ck
        · exact c' k (by omega) ck
    | true =>
      simp only [if_true]
      cases e0 : pickU c f n with
      | none =>
        refine ⟨fun e => (by cases e), fun b e => ?_⟩
        cases e
        refine ⟨by omega, cn, fun k hk ck => ?_⟩
        by_cases kn : k = n
        · subst kn; exact Rat.le_refl
        · rw [h1 e0 k (by omega)] at ck; cases ck
      | some j =>
        obtain ⟨a, b', c'⟩ := h2 j e0
        simp only
        by_cases lt : f j < f n
        · rw [if_pos lt]
          refine ⟨fun e => (by cases e), fun b e => ?_⟩
          cases e
          refine ⟨by omega, cn, fun k hk ck => ?_⟩
          by_cases kn : k = n
          · subst kn; exact Rat.le_refl
          · have := c' k (by omega) ck; grind
        · rw [if_neg lt]
          refine ⟨fun e => (by cases e), fun b e => ?_⟩
          cases e
          refine ⟨by omega, b', fun k hk ck => ?_⟩
          by_cases kn : k = n
          · subst kn; grind
          · exact c' k (by omega) ck
def bestU (R : List Pc) (ys us : List Rat) : Option Nat := pickU (candU R ys us) (slU R ys us) ys.length
def amtU (R : List Pc) (ys us : List Rat) (b : Nat) : Rat := mn (farB R (hereR ys us b)) (lroomR ys us b)
def ustep (R : List Pc) (ys us : List Rat) : List Rat := match bestU R ys us with
  | none => us
  | some b => us.set b (us.getD b 0 + amtU R ys us b)
def urun (R : List Pc) (ys : List Rat) : Nat → List Rat
  | 0 => List.replicate ys.length 0
  | i + 1 => ustep R ys (urun R ys i)
/-- right uses -/
structure UOk (ys us : List Rat) : Prop where
  len : us.length = ys.length
  nn : ∀ k, 0 ≤ us.getD k 0
  up : ∀ k, us.getD k 0 ≤ gn (ys.getD k 0)
  rm : ∀ k, k < ys.length → 0 ≤ roomR ys us k
def restR (ys us : List Rat) : List Rat := (ys.zip us).map fun p => gn p.1 - p.2
theorem UOk.zero {ys : List Rat} : UOk ys (List.replicate ys.length 0) := by
  refine ⟨by simp, fun k => by rw [getD_rep0]; exact Rat.le_refl, fun k => by rw [getD_rep0]; exact gn_nn, fun k hk => ?_⟩
  unfold roomR
  rw [List.take_replicate, sm_rep0]
  have : ∀ l : List Rat, 0 ≤ sumR (l.map ls) := fun l => sm_nn fun x hx => by
    obtain ⟨y, _, rfl⟩ := List.mem_map.mp hx
    exact ls_nn
  have := this (ys.take k)
  grind
theorem sm_take_set : ∀ {xs : List Rat} {i k : Nat} {y : Rat}, i < xs.length → sumR ((xs.set i y).take k) = sumR (xs.take k) + (if i < k then y - xs.getD i 0 else 0)
  | [], _, _, _, h => by simp at h
  | x :: xs, i, 0, y, _ => by simp [sm_nil]; grind
  | x :: xs, 0, k + 1, y, _ => by
    rw [List.set_cons_zero, List.take_succ_cons, List.take_succ_cons, sm_cons, sm_cons, if_pos (by omega)]
    show y + _ = x + _ + (y - x)
    grind
  | x :: xs, i + 1, k + 1, y, h => by
    rw [List.set_cons_succ, List.take_succ_cons, List.take_succ_cons, sm_cons, sm_cons, sm_take_set (by simpa using h)]
    have e : (x :: xs).getD (i + 1) 0 = xs.getD i 0 := rfl
    rw [e]
    by_cases c : i < k
    · rw [if_pos c, if_pos (by omega)]; grind
    · rw [if_neg c, if_neg (by omega)]; grind
theorem room_set {ys us : List Rat} {b k : Nat} {a : Rat} (hb : b < us.length) : roomR ys (us.set b (us.getD b 0 + a)) k = roomR ys us k - (if b ≤ k then a else 0) := by
  unfold roomR
  rw [sm_take_set hb]
  by_cases c : b ≤ k
  · rw [if_pos (by omega), if_pos c]; grind
  · rw [if_neg (by omega), if_neg c]; grind
/-- what the chosen year is like -/
structure Pick (R : List Pc) (ys us : List Rat) (b : Nat) : Prop where
  lt : b < ys.length
  h0 : 0 < hereR ys us b
  r0 : 0 < lroomR ys us b
  s0 : 0 < slB R (hereR ys us b)
  top : ∀ k, k < ys.length → 0 < hereR ys us k → 0 < lroomR ys us k → 0 < slB R (hereR ys us k) → slB R (hereR ys us k) ≤ slB R (hereR ys us b)
theorem cand_iff {R : List Pc} {ys us : List Rat} {k : Nat} : candU R ys us k = true ↔ 0 < hereR ys us k ∧ 0 < lroomR ys us k ∧ 0 < slB R (hereR ys us k) := by
  unfold candU
  simp
theorem best_pick {R : List Pc} {ys us : List Rat} {b : Nat} (h : bestU R ys us = some b) : Pick R ys us b := by
  obtain ⟨h1, h2, h3⟩ := (pick_spec ys.length).2 b h
  obtain ⟨a, b', c⟩ := cand_iff.mp h2
  exact ⟨h1, a, b', c, fun k hk x y z => h3 k hk (cand_iff.mpr ⟨x, y, z⟩)⟩
theorem best_none {R : List Pc} {ys us : List Rat} (h : bestU R ys us = none) : ∀ k, k < ys.length → 0 < hereR ys us k → 0 < lroomR ys us k → ¬ 0 < slB R (hereR ys us k) := fun k hk x y z => by
  have := (pick_spec ys.length).1 h k hk
  rw [cand_iff.mpr ⟨x, y, z⟩] at this
  cases this
theorem amt_spec {R : List Pc} (hR : Rw R) {ys us : List Rat} {b : Nat} (p : Pick R ys us b) : 0 < amtU R ys us b ∧ amtU R ys us b ≤ lroomR ys us b ∧ ∃ q, belowAt R (hereR ys us b) = some q ∧ q ∈ R ∧ q.s < hereR ys us b ∧ amtU R ys us b ≤ hereR ys us b - q.s ∧ ∀ z ∈ R, z.s < hereR ys us b → z.s ≤ q.s := by
  obtain ⟨q, h1, h2, h3, h4⟩ := below_ex hR p.h0
  have fe : farB R (hereR ys us b) = hereR ys us b - q.s := by unfold farB; rw [h1]
  have r0 := p.r0
  unfold amtU
  rw [fe]
  refine ⟨?_, mn_le.2, q, h1, h2, h3, mn_le.1, h4⟩
  rcases mn_or (a := hereR ys us b - q.s) (b := lroomR ys us b) with h | h <;> rw [h]
  · grind
  · exact r0
theorem UOk.step {R : List Pc} (hR : Rw R) {ys us : List Rat} (h : UOk ys us) : UOk ys (ustep R ys us) := by
  unfold ustep
  split
  · exact h
  · rename_i b e
    have p := best_pick e
    obtain ⟨a0, al, q, _, hq, _, aq, _⟩ := amt_spec hR p
    have q0 := hR.nonneg q hq
    have bl : b < us.length := by rw [h.len]; exact p.lt
    generalize amtU R ys us b = a at *
    refine ⟨by rw [List.length_set]; exact h.len, fun k => ?_, fun k => ?_, fun k hk => ?_⟩
    · rw [getD_set bl]
      split
      · have := h.nn b; grind
      · exact h.nn k
    · rw [getD_set bl]
      split
      · rename_i e2; subst e2; unfold hereR at aq; grind
      · exact h.up k
    · rw [room_set bl]
      have := h.rm k hk
      by_cases c : b ≤ k
      · rw [if_pos c]
        have := lroom_le (us := us) c hk
        grind
      · rw [if_neg c]; grind
theorem UOk.run {R : List Pc} (hR : Rw R) {ys : List Rat} : ∀ i, UOk ys (urun R ys i)
  | 0 => UOk.zero
  | i + 1 => (UOk.run hR i).step hR
/-! the least of what is left above a start -/
theorem rest_get {ys us : List Rat} (hl : us.length = ys.length) {k : Nat} (hk : k < ys.length) : (restR ys us)[k]? = some (hereR ys us k) := by
  unfold restR hereR
  rw [List.getElem?_map]
  have e : (ys.zip us)[k]? = some (ys.getD k 0, us.getD k 0) := by
    rw [List.getElem?_zip_eq_some]
    exact ⟨gD_mem hk, gD_mem (by omega)⟩
  rw [e]; rfl
theorem rest_len {ys us : List Rat} (hl : us.length = ys.length) : (restR ys us).length = ys.length := by
  unfold restR; rw [List.length_map, List.length_zip, hl, Nat.min_self]
theorem ov_rest : ∀ (ys us ws : List Rat) (c : Rat), us.length = ys.length → ws.length = ys.length → (∀ k, k < ys.length → upA c (hereR ys us k) ≤ upA c (hereR ys ws k)) → ovR (restR ys us) c ≤ ovR (restR ys ws) c
  | [], us, ws, c, _, _, _ => by unfold restR; simp
  | y :: ys, [], _, _, h, _, _ => by simp at h
  | y :: ys, _ :: _, [], _, _, h, _ => by simp at h
  | y :: ys, u :: us, w :: ws, c, h1, h2, h => by
    have ih := ov_rest ys us ws c (by simpa using h1) (by simpa using h2) fun k hk => h (k + 1) (by simpa using hk)
    have h0 := h 0 (by simp)
    have e : ∀ u us, ovR (restR (y :: ys) (u :: us)) c = upA c (gn y - u) + ovR (restR ys us) c := fun u us => by
      rw [ov_up, ov_up]; unfold restR; rw [List.zip_cons_cons, List.map_cons, List.map_cons, sm_cons]
    rw [e, e]
    have h0 : upA c (gn y - u) ≤ upA c (gn y - w) := h0
    grind
/-- up to a full place -/
theorem ov_full : ∀ (ys us ws : List Rat) (c : Rat) (J : Nat), us.length = ys.length → ws.length = ys.length → (∀ k, 0 ≤ us.getD k 0) → (∀ k, 0 ≤ ws.getD k 0) → (∀ k, k < ys.length → k < J → us.getD k 0 ≤ upA c (gn (ys.getD k 0))) → (∀ k, k < ys.length → J ≤ k → hereR ys us k ≤ c) → J ≤ ys.length →
    ovR (restR ys us) c + sumR (us.take J) ≤ ovR (restR ys ws) c + sumR (ws.take J)
  | [], us, ws, c, J, h1, h2, _, _, _, _, hJ => by
    have e1 : us = [] := List.eq_nil_of_length_eq_zero h1
    have e2 : ws = [] := List.eq_nil_of_length_eq_zero h2
    subst e1 e2
    exact Rat.le_refl
  | y :: ys, [], _, _, _, h, _, _, _, _, _, _ => by simp at h
  | y :: ys, _ :: _, [], _, _, _, h, _, _, _, _, _ => by simp at h
  | y :: ys, u :: us, w :: ws, c, J, h1, h2, n1, n2, p1, p2, hJ => by
    have e : ∀ u us, ovR (restR (y :: ys) (u :: us)) c = upA c (gn y - u) + ovR (restR ys us) c := fun u us => by
      rw [ov_up, ov_up]; unfold restR; rw [List.zip_cons_cons, List.map_cons, List.map_cons, sm_cons]
    rw [e, e]
    have w0 : 0 ≤ w := n2 0
    have u0 : 0 ≤ u := n1 0
    cases J with
    | zero =>
      have ih := ov_full ys us ws c 0 (by simpa using h1) (by simpa using h2) (fun k => n1 (k + 1)) (fun k => n2 (k + 1)) (fun k _ hk => by omega) (fun k hk _ => p2 (k + 1) (by simpa using hk) (by omega)) (by omega)
      have h0 : gn y - u ≤ c := p2 0 (by simp) (by omega)
      have a1 : upA c (gn y - u) = 0 := by unfold upA; rw [if_neg (by grind)]
      have a2 : 0 ≤ upA c (gn y - w) := by unfold upA; split <;> grind
      simp only [List.take_zero] at ih ⊢
      grind
    | succ J =>
      have ih := ov_full ys us ws c J (by simpa using h1) (by simpa using h2) (fun k => n1 (k + 1)) (fun k => n2 (k + 1)) (fun k hk hJ => p1 (k + 1) (by simpa using hk) (by omega)) (fun k hk hJ => p2 (k + 1) (by simpa using hk) (by omega)) (by simpa using hJ)
      have h0 : u ≤ upA c (gn y) := p1 0 (by simp) (by omega)
      rw [List.take_succ_cons, List.take_succ_cons, sm_cons, sm_cons]
      have key : upA c (gn y - u) + u ≤ upA c (gn y - w) + w := by
        unfold upA at *
        by_cases c1 : c < gn y
        · rw [if_pos c1] at h0
          have a1 : ¬ gn y - u < c := by grind
          split <;> split <;> grind
        · rw [if_neg c1] at h0
          split <;> split <;> grind
      grind
/-- nothing was taken below c -/
def Ph1 (ys us : List Rat) (c : Rat) : Prop := ∀ k, us.getD k 0 ≤ upA c (gn (ys.getD k 0))
def Ph2 (ys us : List Rat) (c : Rat) : Prop := ∀ ws, UOk ys ws → ovR (restR ys us) c ≤ ovR (restR ys ws) c
theorem blocked {ys us : List Rat} {c : Rat} (h : UOk ys us) (p : Ph1 ys us c) (bl : ∀ k, k < ys.length → c < hereR ys us k → ¬ 0 < lroomR ys us k) : Ph2 ys us c := by
  intro ws hw
  -- the last full place
  have ex : ∀ n, n ≤ ys.length → ∃ J, J ≤ n ∧ (∀ k, k < n → J ≤ k → ¬ roomR ys us k ≤ 0) ∧ (J = 0 ∨ roomR ys us (J - 1) ≤ 0) := fun n => by
    induction n with
    | zero => intro _; exact ⟨0, Nat.le_refl _, fun k hk => by omega, .inl rfl⟩
    | succ n ih =>
      intro hn
      by_cases z : roomR ys us n ≤ 0
      · exact ⟨n + 1, Nat.le_refl _, fun k hk hJ => by omega, .inr (by simpa using z)⟩
      · obtain ⟨J, h1, h2, h3⟩ := ih (by omega)
        refine ⟨J, by omega, fun k hk hJ => ?_, h3⟩
        by_cases e : k = n
        · subst e; exact z
        · exact h2 k (by omega) hJ
  obtain ⟨J, hJ, h2, h3⟩ := ex ys.length (Nat.le_refl _)
  have key := ov_full ys us ws c J h.len hw.len h.nn hw.nn (fun k _ _ => p k) (fun k hk hJk => ?_) hJ
  · have le : sumR (ws.take J) ≤ sumR (us.take J) := by
      rcases h3 with z | z
      · subst z; simp [sm_nil]
      · by_cases J0 : J = 0
        · subst J0; simp [sm_nil]
        · have r1 := h.rm (J - 1) (by omega)
          have r2 := hw.rm (J - 1) (by omega)
          unfold roomR at z r1 r2
          rw [show J - 1 + 1 = J by omega] at z r1 r2
          grind
    grind
  · rcases Decidable.em (hereR ys us k ≤ c) with q | q
    · exact q
    · exfalso
      have b := bl k hk (by grind)
      obtain ⟨j, kj, jl, e⟩ := lroom_at (us := us) hk
      have := h2 j jl (by omega)
      rw [e] at b
      grind
theorem Ph2.step {R : List Pc} (hR : Rw R) {ys us : List Rat} {c : Rat} (h : UOk ys us) (p : Ph2 ys us c) : Ph2 ys (ustep R ys us) c := by
  intro ws hw
  refine Rat.le_trans (ov_rest ys _ us c (h.step hR).len h.len fun k hk => ?_) (p ws hw)
  have : hereR ys (ustep R ys us) k ≤ hereR ys us k := by
    unfold ustep
    split
    · exact Rat.le_refl
    · rename_i b e
      have pk := best_pick e
      obtain ⟨a0, _⟩ := amt_spec hR pk
      unfold hereR
      rw [getD_set (by rw [h.len]; exact pk.lt)]
      split
      · rename_i e2; subst e2; grind
      · exact Rat.le_refl
  unfold upA
  split <;> split <;> grind
theorem slB_of {R : List Pc} {x : Rat} {p : Pc} (h : belowAt R x = some p) : slB R x = p.k := by unfold slB; rw [h]
theorem ph_step {R : List Pc} (h : Cx R) {ys us : List Rat} (hu : UOk ys us) {z : Pc} (hz : z ∈ R) (zk : 0 < z.k) (p : Ph1 ys us z.s ∨ Ph2 ys us z.s) : Ph1 ys (ustep R ys us) z.s ∨ Ph2 ys (ustep R ys us) z.s := by
  rcases p with p | p
  · cases e : bestU R ys us with
    | none => left; unfold ustep; rw [e]; exact p
    | some b =>
      have pk := best_pick e
      obtain ⟨a0, al, q, hq, hqR, qh, aq, last⟩ := amt_spec h.rw pk
      by_cases c : z.s < hereR ys us b
      · left
        intro k
        unfold ustep
        rw [e]
        simp only
        rw [getD_set (by rw [hu.len]; exact pk.lt)]
        split
        · rename_i e2
          subst e2
          have zq := last z hz c
          have g1 : us.getD k 0 + amtU R ys us k ≤ gn (ys.getD k 0) - z.s := by
            have := aq
            unfold hereR at aq c
            unfold hereR at this
            grind
          unfold upA
          have := hu.nn k
          unfold hereR at c
          rw [if_pos (by grind)]
          exact g1
        · exact p k
      · right
        refine Ph2.step h.rw hu (blocked hu p fun k hk hc r0 => ?_)
        have hk0 : 0 < hereR ys us k := by have := h.rw.nonneg z hz; grind
        obtain ⟨q2, hq2, hq2R, q2h, last2⟩ := below_ex h.rw hk0
        have zq2 := last2 z hz hc
        have k1 : z.k ≤ q2.k := h.mono hz hq2R zq2
        have top := pk.top k hk hk0 r0 (by rw [slB_of hq2]; grind)
        rw [slB_of hq2, slB_of hq] at top
        -- the chosen one lies below
        have qz : q.s < z.s := by grind
        have : q.k < z.k := by
          obtain ⟨i, hi, rfl⟩ := List.getElem_of_mem hqR
          obtain ⟨j, hj, rfl⟩ := List.getElem_of_mem hz
          rcases Nat.lt_trichotomy i j with lt | e | gt
          · exact List.pairwise_iff_getElem.mp h.up i j hi hj lt
          · subst e; exact absurd qz Rat.lt_irrefl
          · have := List.pairwise_iff_getElem.mp h.rw.asc j i hj hi gt
            grind
        grind
  · exact .inr (p.step h.rw hu)
theorem ph_run {R : List Pc} (h : Cx R) {ys : List Rat} {z : Pc} (hz : z ∈ R) (zk : 0 < z.k) : ∀ i, Ph1 ys (urun R ys i) z.s ∨ Ph2 ys (urun R ys i) z.s
  | 0 => .inl fun k => by
    show (List.replicate ys.length (0 : Rat)).getD k 0 ≤ _
    rw [getD_rep0]; unfold upA; split <;> grind
  | i + 1 => ph_step h (UOk.run h.rw i) hz zk (ph_run h hz zk i)
/-- at the end no use leaves less above a start -/
theorem ph_end {R : List Pc} (h : Cx R) {ys : List Rat} {i : Nat} (e : bestU R ys (urun R ys i) = none) {z : Pc} (hz : z ∈ R) (zk : 0 < z.k) : Ph2 ys (urun R ys i) z.s := by
  rcases ph_run h (ys := ys) hz zk i with p | p
  · refine blocked (UOk.run h.rw i) p fun k hk hc r0 => ?_
    have hk0 : 0 < hereR ys (urun R ys i) k := by have := h.rw.nonneg z hz; grind
    obtain ⟨q2, hq2, hq2R, q2h, last2⟩ := below_ex h.rw hk0
    have k1 : z.k ≤ q2.k := h.mono hz hq2R (last2 z hz hc)
    exact best_none e k hk hk0 r0 (by rw [slB_of hq2]; grind)
  · exact p
/-! what is paid by what is left -/
theorem over_val {R : List Pc} (h : Cx R) (k0 : ∀ p ∈ R, 0 ≤ p.k) {xs ws : List Rat} (hl : xs.length = ws.length) (x0 : ∀ x ∈ xs, 0 ≤ x) (w0 : ∀ w ∈ ws, 0 ≤ w) (ov : ∀ p ∈ R, 0 < p.k → ovR xs p.s ≤ ovR ws p.s) : sumR (xs.map (valAt R)) ≤ sumR (ws.map (valAt R)) := by
  obtain ⟨⟨as, ne, z0⟩, st, up⟩ := h
  induction R using snoc_ind with
  | h0 => exact absurd rfl ne
  | hs l z ih =>
    rcases List.eq_nil_or_concat l with rfl | ⟨l', a, e⟩
    · have p0 := z0 z rfl
      have s0 : ∀ l : List Rat, (∀ x ∈ l, 0 ≤ x) → ovR l 0 = sumR l := fun l hl => by
        rw [ov_up]
        congr 1
        have : ∀ x ∈ l, upA 0 x = x := fun x hx => by have := hl x hx; unfold upA; split <;> grind
        rw [List.map_congr_left this, List.map_id']
      rw [List.nil_append, sum_line p0 x0, sum_line p0 w0, hl]
      have zk := k0 z (by simp)
      by_cases c : 0 < z.k
      · have := ov z (by simp) c
        rw [p0, s0 xs x0, s0 ws w0] at this
        have := mul_le_l this zk
        grind
      · have : z.k = 0 := by grind
        rw [this]; grind
    · rw [List.concat_eq_append] at e
      subst e
      have ih := ih (fun p hp => k0 p (by simp at hp ⊢; rcases hp with hp | hp <;> simp [hp])) (fun p hp => ov p (by simp at hp ⊢; rcases hp with hp | hp <;> simp [hp])) st.left (List.pairwise_append.mp up).1 (List.pairwise_append.mp as).1 (by simp) (fun p hp => z0 p (by cases l' <;> simpa using hp))
      rw [sum_val_bend as st, sum_val_bend as st]
      have ak := k0 a (by simp)
      have lt : a.k < z.k := (List.pairwise_append.mp up).2.2 a (by simp) z (by simp)
      have := mul_le_l (ov z (by simp) (by grind)) (show 0 ≤ z.k - a.k by grind)
      grind
theorem UOk.rest0 {ys us : List Rat} (h : UOk ys us) : ∀ x ∈ restR ys us, 0 ≤ x := fun x hx => by
  obtain ⟨k, hk, rfl⟩ := List.getElem_of_mem hx
  have e := rest_get h.len (by rw [rest_len h.len] at hk; exact hk)
  rw [List.getElem?_eq_getElem hk] at e
  injection e with e
  rw [e]
  have := h.up k
  unfold hereR; grind
theorem tax_rest {R : List Pc} {ys us : List Rat} : taxU R ys us = sumR ((restR ys us).map (valAt R)) := by
  unfold taxU restR
  rw [List.map_map]; rfl
theorem use_best {R : List Pc} (h : Cx R) (k0 : ∀ p ∈ R, 0 ≤ p.k) {ys : List Rat} {i : Nat} (e : bestU R ys (urun R ys i) = none) {ws : List Rat} (hw : UOk ys ws) : taxU R ys (urun R ys i) ≤ taxU R ys ws := by
  have u := UOk.run h.rw (ys := ys) i
  rw [tax_rest, tax_rest]
  exact over_val h k0 (by rw [rest_len u.len, rest_len hw.len]) u.rest0 hw.rest0 fun p hp pk => ph_end h e hp pk ws hw
/-! the end comes -/
def cntB (R : List Pc) (x : Rat) : Nat := (R.filter fun p => decide (p.s < x)).length
def muU (R : List Pc) (ys us : List Rat) : Nat := ((List.range ys.length).map fun k => cntB R (hereR ys us k) + if 0 < lroomR ys us k then 1 else 0).sum
theorem cntB_le {R : List Pc} {x y : Rat} (h : y ≤ x) : cntB R y ≤ cntB R x := by
  unfold cntB
  induction R with
  | nil => simp
  | cons p R ih =>
    rw [List.filter_cons, List.filter_cons]
    by_cases c : p.s < y
    · have c2 : p.s < x := by grind
      simp only [c, c2, decide_true, if_true, List.length_cons]; omega
    · simp only [c, decide_false, Bool.false_eq_true, if_false]
      split
      · rw [List.length_cons]; omega
      · exact ih
theorem cntB_lt {R : List Pc} {x y : Rat} (h : y ≤ x) {p : Pc} (hp : p ∈ R) (h1 : p.s < x) (h2 : y ≤ p.s) : cntB R y < cntB R x := by
  obtain ⟨l, r, rfl⟩ := List.append_of_mem hp
  have a := cntB_le (R := l) h
  have b := cntB_le (R := r) h
  unfold cntB at *
  rw [List.filter_append, List.filter_append, List.filter_cons, List.filter_cons]
  have c : ¬ p.s < y := by grind
  simp only [c, h1, decide_true, decide_false, Bool.false_eq_true, if_false, if_true, List.length_append, List.length_cons]
  omega
theorem lroom_mono {ys us vs : List Rat} {k : Nat} (hk : k < ys.length) (h : ∀ j, j < ys.length → roomR ys vs j ≤ roomR ys us j) : lroomR ys vs k ≤ lroomR ys us k := by
  obtain ⟨j, kj, jl, e⟩ := lroom_at (us := us) hk
  rw [e]
  exact Rat.le_trans (lroom_le kj jl) (h j jl)
theorem muU_step {R : List Pc} (hR : Rw R) {ys us : List Rat} (hu : UOk ys us) {b : Nat} (e : bestU R ys us = some b) : muU R ys (us.set b (us.getD b 0 + amtU R ys us b)) < muU R ys us := by
  have pk := best_pick e
  obtain ⟨a0, al, q, hq, hqR, qh, aq, last⟩ := amt_spec hR pk
  have bl : b < us.length := by rw [hu.len]; exact pk.lt
  have am : amtU R ys us b = mn (farB R (hereR ys us b)) (lroomR ys us b) := rfl
  have fe : farB R (hereR ys us b) = hereR ys us b - q.s := by unfold farB; rw [hq]
  rw [fe] at am
  generalize amtU R ys us b = a at *
  have rm : ∀ j, roomR ys (us.set b (us.getD b 0 + a)) j ≤ roomR ys us j := fun j => by
    rw [room_set bl]; split <;> grind
  have hh : ∀ k, hereR ys (us.set b (us.getD b 0 + a)) k = hereR ys us k - if k = b then a else 0 := fun k => by
    unfold hereR; rw [getD_set bl]
    split
    · rename_i e; subst e; grind
    · grind
  unfold muU
  refine sum_lt pk.lt (fun k hk ne => ?_) ?_
  · have h1 : cntB R (hereR ys (us.set b (us.getD b 0 + a)) k) ≤ cntB R (hereR ys us k) := cntB_le (by rw [hh, if_neg ne]; grind)
    have h2 := lroom_mono (us := us) (vs := us.set b (us.getD b 0 + a)) hk fun j _ => rm j
    by_cases c : 0 < lroomR ys (us.set b (us.getD b 0 + a)) k
    · rw [if_pos c, if_pos (by grind)]; omega
    · rw [if_neg c]; split <;> omega
  · have h2 := lroom_mono (us := us) (vs := us.set b (us.getD b 0 + a)) pk.lt fun j _ => rm j
    have h1 : cntB R (hereR ys (us.set b (us.getD b 0 + a)) b) ≤ cntB R (hereR ys us b) := cntB_le (by rw [hh, if_pos rfl]; grind)
    rw [if_pos pk.r0]
    rcases mn_or (a := hereR ys us b - q.s) (b := lroomR ys us b) with m | m <;> rw [m] at am
    · have : cntB R (hereR ys (us.set b (us.getD b 0 + a)) b) < cntB R (hereR ys us b) := cntB_lt (by rw [hh, if_pos rfl]; grind) hqR qh (by rw [hh, if_pos rfl]; grind)
      split <;> omega
    · have z : ¬ 0 < lroomR ys (us.set b (us.getD b 0 + a)) b := by
        obtain ⟨j, kj, jl, e2⟩ := lroom_at (us := us) pk.lt
        have := lroom_le (us := us.set b (us.getD b 0 + a)) kj jl
        rw [room_set bl, if_pos kj, ← e2, am] at this
        grind
      rw [if_neg z]; omega
def useN (R : List Pc) (ys : List Rat) : Nat := (R.length + 1) * ys.length
def useR (R : List Pc) (ys : List Rat) : List Rat := urun R ys (useN R ys)
theorem muU_max {R : List Pc} {ys us : List Rat} : muU R ys us ≤ useN R ys := by
  unfold muU useN
  have : ∀ n, ((List.range n).map fun k => cntB R (hereR ys us k) + if 0 < lroomR ys us k then 1 else 0).sum ≤ (R.length + 1) * n := fun n => by
    induction n with
    | zero => simp
    | succ n ih =>
      rw [List.range_succ, List.map_append, List.sum_append, Nat.mul_succ]
      have : cntB R (hereR ys us n) ≤ R.length := List.length_filter_le ..
      simp
      split <;> omega
  exact this _
theorem urun_stop {R : List Pc} {ys : List Rat} {i : Nat} (e : bestU R ys (urun R ys i) = none) : ∀ j, urun R ys (i + j) = urun R ys i
  | 0 => rfl
  | j + 1 => by
    have ih := urun_stop e j
    show ustep R ys (urun R ys (i + j)) = _
    rw [ih]; unfold ustep; rw [e]
theorem urun_end {R : List Pc} (hR : Rw R) {ys : List Rat} : ∀ i, muU R ys (urun R ys i) + i ≤ useN R ys ∨ bestU R ys (urun R ys i) = none := by
  intro i
  induction i with
  | zero => left; have := muU_max (R := R) (ys := ys) (us := urun R ys 0); omega
  | succ i ih =>
    cases e : bestU R ys (urun R ys i) with
    | none => right; have := urun_stop e 1; rw [this]; exact e
    | some b =>
      rcases ih with ih | ih
      · left
        have := muU_step hR (UOk.run hR i) e
        have st : urun R ys (i + 1) = (urun R ys i).set b ((urun R ys i).getD b 0 + amtU R ys (urun R ys i) b) := by
          show ustep R ys _ = _
          unfold ustep; rw [e]
        rw [st]; omega
      · rw [e] at ih; cases ih
theorem use_none {R : List Pc} (hR : Rw R) {ys : List Rat} : bestU R ys (useR R ys) = none := by
  unfold useR
  rcases urun_end hR (ys := ys) (useN R ys) with k | k
  · cases e : bestU R ys (urun R ys (useN R ys)) with
    | none => rfl
    | some b => have := muU_step hR (UOk.run hR _) e; omega
  · exact k
theorem use_at {R : List Pc} (hR : Rw R) {ys : List Rat} {i : Nat} (e : bestU R ys (urun R ys i) = none) : urun R ys i = useR R ys := by
  have z := use_none hR (ys := ys)
  unfold useR at z ⊢
  rcases Nat.le_total i (useN R ys) with k | k
  · obtain ⟨j, ej⟩ := Nat.exists_eq_add_of_le k
    rw [ej, urun_stop e]
  · obtain ⟨j, ej⟩ := Nat.exists_eq_add_of_le k
    rw [ej, urun_stop z]
theorem use_ok {R : List Pc} (hR : Rw R) {ys : List Rat} : UOk ys (useR R ys) := UOk.run hR _
/-- no right use pays less -/
theorem use_least {R : List Pc} (h : Cx R) (k0 : ∀ p ∈ R, 0 ≤ p.k) {ys ws : List Rat} (hw : UOk ys ws) : taxU R ys (useR R ys) ≤ taxU R ys ws := use_best h k0 (use_none h.rw) hw
/-! on a lattice -/
theorem urun_qi {R : List Pc} (hR : Rw R) {D : Nat} (hq : ∀ p ∈ R, QI D p.s) {ys : List Rat} (hy : ∀ y ∈ ys, QI D y) : ∀ i k, QI D ((urun R ys i).getD k 0)
  | 0, k => by show QI D ((List.replicate _ (0 : Rat)).getD k 0); rw [getD_rep0]; exact qi_zero
  | i + 1, k => by
    have ih := urun_qi hR hq hy i
    have u := UOk.run hR (ys := ys) i
    show QI D ((ustep R ys (urun R ys i)).getD k 0)
    generalize urun R ys i = us at *
    have gq : ∀ k, QI D (gn (ys.getD k 0)) := fun k => by
      have : QI D (ys.getD k 0) := by
        rw [List.getD_eq_getElem?_getD]
        cases e : ys[k]? with
        | none => exact qi_zero
        | some x => exact hy x (List.mem_of_getElem? e)
      unfold gn mx; split
      · exact qi_zero
      · exact this
    have sq : ∀ l : List Rat, (∀ x ∈ l, QI D x) → QI D (sumR l) := fun l => by
      induction l with
      | nil => intro _; exact qi_zero
      | cons x l ih => intro h; rw [sm_cons]; exact qi_add (h x (by simp)) (ih fun y hy => h y (by simp [hy]))
    unfold ustep
    split
    · exact ih k
    · rename_i b e
      have pk := best_pick e
      obtain ⟨_, _, q, hq1, hq2, _⟩ := amt_spec hR pk
      rw [getD_set (by rw [u.len]; exact pk.lt)]
      split
      · refine qi_add (ih b) ?_
        unfold amtU
        rcases mn_or (a := farB R (hereR ys us b)) (b := lroomR ys us b) with m | m <;> rw [m]
        · unfold farB; rw [hq1]
          exact qi_sub (qi_sub (gq b) (ih b)) (hq q hq2)
        · obtain ⟨j, _, jl, e2⟩ := lroom_at (us := us) pk.lt
          rw [e2]
          unfold roomR
          refine qi_sub (sq _ fun x hx => ?_) (sq _ fun x hx => ?_)
          · obtain ⟨y, hy2, rfl⟩ := List.mem_map.mp hx
            have := hy y (List.mem_of_mem_take hy2)
            unfold ls mx; split
            · exact qi_zero
            · exact qi_sub qi_zero this
          · obtain ⟨m, hm, rfl⟩ := List.getElem_of_mem (List.mem_of_mem_take hx)
            have := ih m
            rw [List.getD_eq_getElem?_getD, List.getElem?_eq_getElem hm] at this
            exact this
      · exact ih k
/-! promises -/
structure UsS (R : List Pc) (ys : List Rat) : Prop where
  cx : Cx R
  n : RwN 30 R
  len : ys.length ≤ 20
  q : ∃ D h : Nat, 0 < D ∧ D < 2 ^ 40 ∧ h * D < 2 ^ 40 ∧ (∀ p ∈ R, QI D p.s) ∧ ∀ y ∈ ys, QI D y ∧ -((h : Int) : Rat) ≤ y ∧ y ≤ ((h : Int) : Rat)
def sp_slope_below : List D → Mem → K1 → Prop := fun ds M q => ∃ R x, ds = [rowD R, rat x] ∧ RwW R ∧ 0 < x ∧ SzR 1000 x ∧ q (.tup [rat (slB (normR R) x), rat (farB (normR R) x)]) M
def sp_best_use : List D → Mem → K1 → Prop := fun ds M q => ∃ R ys, ds = [rowD R, ysD ys] ∧ UsS R ys ∧ q (ysD (useR R ys)) M
/-- uses: a tuple or a list -/
def UsA (M : Mem) (d : D) (us : List Rat) : Prop := d = ysD us ∨ ∃ a, d = .lst a ∧ M a = some (us.map rat)
def sp_rooms_ofA : List D → Mem → K1 → Prop := fun ds M q => ∃ ys us d, ds = [ysD ys, d] ∧ UsA M d us ∧ YS ys ∧ YS us ∧ us.length = ys.length ∧ q (ysD (roomsR ys us)) M
def sp_least_roomA : List D → Mem → K1 → Prop := fun ds M q => ∃ ys us d, ∃ k : Nat, ds = [ysD ys, d, .int (k : Nat)] ∧ UsA M d us ∧ YS ys ∧ YS us ∧ us.length = ys.length ∧ k < ys.length ∧ q (rat (lroomR ys us k)) M
theorem qi_abs {D h : Nat} {y : Rat} (q : QI D y) (l : -((h : Int) : Rat) ≤ y) (u : y ≤ ((h : Int) : Rat)) : Qz D (h * D) y := by
  by_cases c : 0 ≤ y
  · exact q.qz c u
  · have qn : QI D (-y) := by have := qi_sub (qi_zero (D := D)) q; rw [show (0 : Rat) - y = -y by grind] at this; exact this
    have := (qn.qz (h := h) (by grind) (by grind)).neg
    rw [show -(-y) = y by grind] at this
    exact this
theorem UsS.ys {R : List Pc} {ys : List Rat} (s : UsS R ys) : YS ys := by
  obtain ⟨D, h, d0, d1, hb, _, hy⟩ := s.q
  exact ⟨s.len, fun y hy2 => by obtain ⟨a, b, c⟩ := hy y hy2; exact (qi_abs a b c).sz d0 hb d1⟩
theorem UsS.us {R : List Pc} {ys : List Rat} (s : UsS R ys) (i : Nat) : YS (urun R ys i) := by
  obtain ⟨D, h, d0, d1, hb, hR, hy⟩ := s.q
  have u := UOk.run s.cx.rw (ys := ys) i
  refine ⟨by rw [u.len]; exact s.len, fun y hy2 => ?_⟩
  obtain ⟨k, hk, rfl⟩ := List.getElem_of_mem hy2
  have qk := urun_qi s.cx.rw hR (fun y h => (hy y h).1) i k
  have n0 := u.nn k
  have up := u.up k
  rw [List.getD_eq_getElem?_getD, List.getElem?_eq_getElem hk] at qk n0 up
  have hk2 : k < ys.length := by rw [← u.len]; exact hk
  have gb : gn (ys.getD k 0) ≤ ((h : Int) : Rat) := by
    have m := hy _ (List.mem_of_getElem? (gD_mem hk2))
    have h0 : (0 : Rat) ≤ ((h : Int) : Rat) := Rat.intCast_nonneg.mpr (by omega)
    unfold gn mx; split
    · exact h0
    · exact m.2.2
  exact (qk.qz (h := h) n0 (Rat.le_trans up gb)).sz d0 hb d1
end TB

/-! Engn: right uses place by place, the least that is paid -/
namespace TB
open PySem PySem.Spec PyProof.Rows L2
def V68 (R : List Pc) (ys : List Rat) : Rat := taxU R ys (useR R ys)
/-! right uses, place by place -/
def okF : Rat → List Rat → List Rat → Prop
  | _, [], [] => True
  | f, y :: ys, u :: us => (0 ≤ u ∧ u ≤ gn y ∧ u ≤ f) ∧ okF (f - u + ls y) ys us
  | _, _, _ => False
theorem okF_len : ∀ {f : Rat} {ys us : List Rat}, okF f ys us → us.length = ys.length
  | _, [], [], _ => rfl
  | _, [], _ :: _, h => h.elim
  | _, _ :: _, [], h => h.elim
  | _, y :: ys, u :: us, h => by rw [List.length_cons, List.length_cons, okF_len h.2]
theorem room_zero {y u : Rat} {ys us : List Rat} : roomR (y :: ys) (u :: us) 0 = 0 - u := by
  unfold roomR
  rw [show (u :: us).take (0 + 1) = [u] from rfl, sm_cons, sm_nil]
  show (0 : Rat) - (u + 0) = _
  grind
theorem room_succ {y u : Rat} {ys us : List Rat} {k : Nat} : roomR (y :: ys) (u :: us) (k + 1) = ls y - u + roomR ys us k := by
  unfold roomR
  rw [List.take_succ_cons, List.take_succ_cons, List.map_cons, sm_cons, sm_cons]
  grind
theorem okF_iff : ∀ {f : Rat} {ys us : List Rat}, okF f ys us ↔ us.length = ys.length ∧ ∀ k, k < ys.length → 0 ≤ us.getD k 0 ∧ us.getD k 0 ≤ gn (ys.getD k 0) ∧ 0 ≤ f + roomR ys us k
  | f, [], [] => ⟨fun _ => ⟨rfl, fun k hk => by simp at hk⟩, fun _ => trivial⟩
  | f, [], _ :: _ => ⟨fun h => h.elim, fun h => by simp at h⟩
  | f, _ :: _, [] => ⟨fun h => h.elim, fun h => by simp at h⟩
  | f, y :: ys, u :: us => by
    show (_ ∧ okF (f - u + ls y) ys us) ↔ _
    rw [okF_iff]
    constructor
    · rintro ⟨⟨a, b, c⟩, hl, h⟩
      refine ⟨by rw [List.length_cons, List.length_cons, hl], fun k hk => ?_⟩
      cases k with
      | zero => rw [room_zero]; exact ⟨a, b, by grind⟩
      | succ k =>
        obtain ⟨x, y', z⟩ := h k (by simpa using hk)
        rw [room_succ]
        exact ⟨x, y', by grind⟩
    · rintro ⟨hl, h⟩
      have h0 := h 0 (by simp)
      rw [room_zero] at h0
      refine ⟨⟨h0.1, h0.2.1, by have := h0.2.2; grind⟩, by simpa using hl, fun k hk => ?_⟩
      have h1 := h (k + 1) (by simpa using hk)
      rw [room_succ] at h1
      exact ⟨h1.1, h1.2.1, by have := h1.2.2; grind⟩
theorem gD_out {l : List Rat} {k : Nat} (h : ¬ k < l.length) : l.getD k 0 = 0 := by
  rw [List.getD_eq_getElem?_getD, List.getElem?_eq_none (by omega)]; rfl
theorem uok_iff {ys us : List Rat} : UOk ys us ↔ okF 0 ys us := by
  rw [okF_iff]
  constructor
  · intro h
    exact ⟨h.len, fun k hk => ⟨h.nn k, h.up k, by have := h.rm k hk; grind⟩⟩
  · rintro ⟨hl, h⟩
    refine ⟨hl, fun k => ?_, fun k => ?_, fun k hk => by have := (h k hk).2.2; grind⟩
    · by_cases c : k < ys.length
      · exact (h k c).1
      · rw [gD_out (by omega)]; exact Rat.le_refl
    · by_cases c : k < ys.length
      · exact (h k c).2.1
      · rw [gD_out (by omega)]; exact gn_nn
theorem okF_app : ∀ {A U : List Rat} {f : Rat} {B W : List Rat}, U.length = A.length → (okF f (A ++ B) (U ++ W) ↔ okF f A U ∧ okF (f - sumR U + sumR (A.map ls)) B W)
  | [], [], f, B, W, _ => by
    show okF f B W ↔ True ∧ okF (f - sumR [] + sumR []) B W
    rw [sm_nil, show f - 0 + (0 : Rat) = f by grind]; simp
  | [], _ :: _, _, _, _, h => by simp at h
  | _ :: _, [], _, _, _, h => by simp at h
  | a :: A, u :: U, f, B, W, h => by
    show (_ ∧ okF (f - u + ls a) (A ++ B) (U ++ W)) ↔ (_ ∧ okF (f - u + ls a) A U) ∧ _
    rw [okF_app (by simpa using h), List.map_cons, sm_cons, sm_cons, show f - u + ls a - sumR U + sumR (A.map ls) = f - (u + sumR U) + (ls a + sumR (A.map ls)) by grind]
    exact and_assoc.symm
theorem okF_mono : ∀ {f g : Rat} {ys us : List Rat}, f ≤ g → okF f ys us → okF g ys us
  | _, _, [], [], _, _ => trivial
  | _, _, [], _ :: _, _, h => h.elim
  | _, _, _ :: _, [], _, h => h.elim
  | _, _, y :: ys, u :: us, l, h => ⟨⟨h.1.1, h.1.2.1, Rat.le_trans h.1.2.2 l⟩, okF_mono (by grind) h.2⟩
theorem okF_free : ∀ {f : Rat} {ys us : List Rat}, 0 ≤ f → okF f ys us → 0 ≤ f - sumR us + sumR (ys.map ls)
  | _, [], [], l, _ => by show (0 : Rat) ≤ _ - 0 + 0; grind
  | _, [], _ :: _, _, h => h.elim
  | _, _ :: _, [], _, h => h.elim
  | _, y :: ys, u :: us, l, h => by
    have l2 := ls_nn (x := y)
    have := okF_free (by have := h.1.2.2; grind) h.2
    rw [List.map_cons, sm_cons, sm_cons]; grind
theorem tax_app : ∀ {R : List Pc} {A U B W : List Rat}, U.length = A.length → taxU R (A ++ B) (U ++ W) = taxU R A U + taxU R B W
  | R, A, U, B, W, h => by unfold taxU; rw [List.zip_append h.symm, List.map_append, sm_app]
theorem tax_cons {R : List Pc} {y u : Rat} {ys us : List Rat} : taxU R (y :: ys) (u :: us) = valAt R (gn y - u) + taxU R ys us := by
  unfold taxU; rw [List.zip_cons_cons, List.map_cons, sm_cons]
theorem tax_zero {R : List Pc} : ∀ ys : List Rat, taxU R ys (List.replicate ys.length 0) = taxP R ys
  | [] => rfl
  | y :: ys => by
    rw [List.length_cons, List.replicate_succ, tax_cons, tax_zero ys]
    unfold taxP
    rw [List.map_cons, sm_cons, show gn y - 0 = gn y by grind]
theorem once_ok {ys : List Rat} : UOk ys (onceR ys).1 := by
  have hl := (onceR_inv (ys := ys)).1
  have g : ∀ k, k < ys.length → _ := fun k hk => once_part (gD_mem hk) (gD_mem (l := (onceR ys).1) (by rw [hl]; exact hk))
  refine ⟨hl, fun k => ?_, fun k => ?_, fun k hk => (g k hk).2.2.1⟩
  · by_cases c : k < ys.length
    · exact (g k c).1
    · rw [gD_out (by omega)]; exact Rat.le_refl
  · by_cases c : k < ys.length
    · exact (g k c).2.1
    · rw [gD_out (l := (onceR ys).1) (by omega)]; exact gn_nn
/-- rows for which the chosen use pays least -/
structure Lst (R : List Pc) : Prop where
  cx : Cx R
  k0 : ∀ p ∈ R, 0 ≤ p.k
theorem Lst.le {R : List Pc} (s : Lst R) {ys us : List Rat} (h : okF 0 ys us) : V68 R ys ≤ taxU R ys us := use_least s.cx s.k0 (uok_iff.mpr h)
theorem Lst.ok {R : List Pc} (s : Lst R) {ys : List Rat} : okF 0 ys (useR R ys) := uok_iff.mp (use_ok s.cx.rw)
theorem Lst.plain {R : List Pc} (s : Lst R) {ys : List Rat} : V68 R ys ≤ taxP R ys := by
  rw [← tax_zero]
  exact use_least s.cx s.k0 UOk.zero
theorem Lst.once {R : List Pc} (s : Lst R) {ys : List Rat} : V68 R ys ≤ taxU R ys (onceR ys).1 := use_least s.cx s.k0 once_ok
theorem split_at {us : List Rat} {n m : Nat} (h : us.length = n + m) : ∃ U W, us = U ++ W ∧ U.length = n ∧ W.length = m :=
  ⟨us.take n, us.drop n, (List.take_append_drop n us).symm, by rw [List.length_take]; omega, by rw [List.length_drop]; omega⟩
/-- a loss that is greater -/
theorem Lst.deeper {R : List Pc} (s : Lst R) {A B : List Rat} {y z : Rat} (y0 : y < 0) (zy : z ≤ y) : V68 R (A ++ z :: B) ≤ V68 R (A ++ y :: B) := by
  have ok := s.ok (ys := A ++ y :: B)
  have hl := okF_len ok
  rw [List.length_append, List.length_cons] at hl
  obtain ⟨U, W0, e, hU, hW⟩ := split_at hl
  cases W0 with
  | nil => simp at hW
  | cons u W =>
    unfold V68
    rw [e] at ok ⊢
    rw [okF_app hU] at ok
    obtain ⟨o1, ⟨u0, ug, uf⟩, o2⟩ := ok
    have g1 : gn y = gn z := by rw [gn_neg (by grind), gn_neg (by grind)]
    have l1 : ls y ≤ ls z := by rw [ls_neg y0, ls_neg (by grind)]; grind
    refine Rat.le_trans (s.le (us := U ++ u :: W) ((okF_app hU).mpr ⟨o1, ⟨u0, by rw [← g1]; exact ug, uf⟩, okF_mono (by grind) o2⟩)) ?_
    rw [tax_app hU, tax_app hU, tax_cons, tax_cons, g1]
    exact Rat.le_refl
/-- a loss a place earlier -/
theorem Lst.earlier {R : List Pc} (s : Lst R) {A B : List Rat} {a b : Rat} (b0 : b < 0) : V68 R (A ++ b :: a :: B) ≤ V68 R (A ++ a :: b :: B) := by
  have ok := s.ok (ys := A ++ a :: b :: B)
  have hl := okF_len ok
  rw [List.length_append, List.length_cons, List.length_cons] at hl
  obtain ⟨U, W0, e, hU, hW⟩ := split_at hl
  match W0, hW with
  | [], hW => simp at hW
  | [_], hW => simp at hW
  | u :: v :: W, hW =>
    unfold V68
    rw [e] at ok ⊢
    rw [okF_app hU] at ok
    obtain ⟨o1, ⟨u0, ug, uf⟩, ⟨v0, vg, vf⟩, o2⟩ := ok
    have gb : gn b = 0 := gn_neg (by grind)
    have vz : v = 0 := by rw [gb] at vg; grind
    have lb := ls_nn (x := b)
    subst vz
    refine Rat.le_trans (s.le (us := U ++ 0 :: u :: W) ((okF_app hU).mpr ⟨o1, ⟨v0, vg, by grind⟩, ⟨u0, ug, by grind⟩, okF_mono (by grind) o2⟩)) ?_
    rw [tax_app hU, tax_app hU, tax_cons, tax_cons, tax_cons, tax_cons]
    grind
/-- a year of nothing -/
theorem Lst.idle {R : List Pc} (s : Lst R) {A B : List Rat} : V68 R (A ++ 0 :: B) = V68 R (A ++ B) + valAt R 0 := by
  have g0 : gn 0 = 0 := gn_neg Rat.le_refl
  have l0 : ls 0 = 0 := ls_pos Rat.le_refl
  refine Rat.le_antisymm ?_ ?_
  · have ok := s.ok (ys := A ++ B)
    have hl := okF_len ok
    rw [List.length_append] at hl
    obtain ⟨U, W, e, hU, hW⟩ := split_at hl
    have ev : V68 R (A ++ B) = taxU R (A ++ B) (U ++ W) := by unfold V68; rw [e]
    rw [ev]
    rw [e, okF_app hU] at ok
    have fr := okF_free (Rat.le_refl) ok.1
    refine Rat.le_trans (s.le (us := U ++ 0 :: W) ((okF_app hU).mpr ⟨ok.1, ⟨Rat.le_refl, by rw [g0]; exact Rat.le_refl, fr⟩, okF_mono (by rw [l0]; grind) ok.2⟩)) ?_
    rw [tax_app hU, tax_app hU, tax_cons, g0, show (0 : Rat) - 0 = 0 by grind]
    grind
  · have ok := s.ok (ys := A ++ 0 :: B)
    have hl := okF_len ok
    rw [List.length_append, List.length_cons] at hl
    obtain ⟨U, W0, e, hU, hW⟩ := split_at hl
    cases W0 with
    | nil => simp at hW
    | cons u W =>
      have ev : V68 R (A ++ 0 :: B) = taxU R (A ++ 0 :: B) (U ++ u :: W) := by unfold V68; rw [e]
      rw [ev]
      rw [e, okF_app hU] at ok
      obtain ⟨o1, ⟨u0, ug, uf⟩, o2⟩ := ok
      have uz : u = 0 := by rw [g0] at ug; grind
      subst uz
      have := s.le (us := U ++ W) ((okF_app hU).mpr ⟨o1, okF_mono (by rw [l0]; grind) o2⟩)
      rw [tax_app hU] at this
      rw [tax_app hU, tax_cons, g0, show (0 : Rat) - 0 = 0 by grind]
      grind
/-- joined with a new beginning -/
theorem Lst.joined {R : List Pc} (s : Lst R) {A B : List Rat} : V68 R (A ++ B) ≤ V68 R A + V68 R B := by
  have o1 := s.ok (ys := A)
  have o2 := s.ok (ys := B)
  have hU := okF_len o1
  refine Rat.le_trans (s.le (us := useR R A ++ useR R B) ((okF_app hU).mpr ⟨o1, okF_mono (okF_free Rat.le_refl o1) o2⟩)) ?_
  rw [tax_app hU]
  exact Rat.le_refl
/-! a flat rate -/
theorem once_most {ys : List Rat} : ∀ {us : List Rat}, okF 0 ys us → (onceR ys).2 ≤ sumR (ys.map ls) - sumR us := by
  induction ys using snoc_ind with
  | h0 =>
    intro us h
    cases us with
    | nil => show (0 : Rat) ≤ 0 - 0; grind
    | cons _ _ => exact h.elim
  | hs l z ih =>
    intro us h
    have hl := okF_len h
    rw [List.length_append, List.length_singleton] at hl
    obtain ⟨U, W0, rfl, hU, hW⟩ := split_at hl
    match W0, hW with
    | [], hW => simp at hW
    | _ :: _ :: _, hW => simp at hW
    | [u], hW =>
      rw [okF_app hU] at h
      obtain ⟨o1, ⟨u0, ug, uf⟩, _⟩ := h
      have k := ih o1
      rw [onceR_snoc]
      unfold onceS
      simp only
      rw [List.map_append, sm_app, sm_app]
      simp only [List.map_cons, List.map_nil, sm_cons, sm_nil]
      rcases mn_or (a := (onceR l).2) (b := gn z) with m | m <;> rw [m] <;> grind
theorem sum_rest : ∀ {ys us : List Rat}, us.length = ys.length → sumR (restR ys us) = sumR (ys.map gn) - sumR us
  | [], [], _ => by show (0 : Rat) = 0 - 0; grind
  | [], _ :: _, h => by simp at h
  | _ :: _, [], h => by simp at h
  | y :: ys, u :: us, h => by
    have e : restR (y :: ys) (u :: us) = (gn y - u) :: restR ys us := rfl
    rw [e, List.map_cons, sm_cons, sm_cons, sm_cons, sum_rest (by simpa using h)]
    grind
theorem flat_tax {k : Rat} {ys us : List Rat} (h : UOk ys us) : taxU [⟨0, 0, k⟩] ys us = k * (sumR (ys.map gn) - sumR us) := by
  rw [tax_rest, sum_line rfl h.rest0, sum_rest h.len]
  show _ * (0 : Rat) + k * _ = _
  grind
theorem lst_line {k : Rat} (k0 : 0 ≤ k) : Lst [⟨0, 0, k⟩] := by
  refine ⟨⟨⟨List.pairwise_singleton _ _, by simp, fun p hp => by simp at hp; rw [← hp]⟩, ?_, List.pairwise_singleton _ _⟩, fun p hp => by simp at hp; rw [hp]; exact k0⟩
  intro l a b r e
  have := congrArg List.length e
  simp at this; omega
/-- a flat rate: all losses that can be used are -/
theorem flat_used {k : Rat} (k0 : 0 < k) {ys : List Rat} : sumR (useR [⟨0, 0, k⟩] ys) = sumR (onceR ys).1 := by
  have s := lst_line (Rat.le_of_lt k0)
  have h := s.once (ys := ys)
  unfold V68 at h
  rw [flat_tax (use_ok s.cx.rw), flat_tax once_ok] at h
  have m := once_most (s.ok (ys := ys))
  rw [(onceR_inv (ys := ys)).2.2] at m
  refine Rat.le_antisymm (by grind) ?_
  by_cases c : sumR (onceR ys).1 ≤ sumR (useR [⟨0, 0, k⟩] ys)
  · exact c
  · have d : 0 < sumR (onceR ys).1 - sumR (useR [⟨0, 0, k⟩] ys) := by grind
    have := Rat.mul_pos k0 d
    grind
theorem flat_least {k : Rat} (k0 : 0 < k) {ys : List Rat} : V68 [⟨0, 0, k⟩] ys = k * (sumR (ys.map gn) - sumR (onceR ys).1) := by
  unfold V68
  rw [flat_tax (use_ok (lst_line (Rat.le_of_lt k0)).cx.rw), flat_used k0]
theorem once_left {ys : List Rat} : sumR (onceR ys).1 + (onceR ys).2 = sumR (ys.map ls) := by
  rw [(onceR_inv (ys := ys)).2.2]; grind
theorem qz_bd {d B : Nat} {x : Rat} (d0 : 0 < d) (h : Qz d (B * d) x) : -((B : Int) : Rat) ≤ x ∧ x ≤ ((B : Int) : Rat) := by
  obtain ⟨m, e, hm⟩ := h
  have dp : (0 : Rat) < ((d : Int) : Rat) := Rat.intCast_pos.mpr (by omega)
  have m1 : m ≤ (B : Int) * (d : Int) := by rw [← Int.natCast_mul]; omega
  have m2 : -((B : Int) * (d : Int)) ≤ m := by rw [← Int.natCast_mul]; omega
  have r1 : (m : Rat) ≤ ((B : Int) : Rat) * ((d : Int) : Rat) := by rw [← Rat.intCast_mul]; exact Rat.intCast_le_intCast.mpr m1
  have r2 : -(((B : Int) : Rat) * ((d : Int) : Rat)) ≤ (m : Rat) := by rw [← Rat.intCast_mul, ← Rat.intCast_neg]; exact Rat.intCast_le_intCast.mpr m2
  constructor
  · by_cases c : -((B : Int) : Rat) ≤ x
    · exact c
    · have := (mul_lt_r (a := x) (b := -((B : Int) : Rat)) dp).mpr (by grind)
      grind
  · by_cases c : x ≤ ((B : Int) : Rat)
    · exact c
    · have := (mul_lt_r (a := ((B : Int) : Rat)) (b := x) dp).mpr (by grind)
      grind
theorem qz_sum {d B : Nat} : ∀ {l : List Rat}, (∀ x ∈ l, Qz d B x) → Qz d (l.length * B) (sumR l)
  | [], _ => Qz.zero
  | x :: l, h => by
    rw [sm_cons, List.length_cons]
    exact ((h x (by simp)).add (qz_sum fun y hy => h y (by simp [hy]))).mono (by rw [Nat.succ_mul]; omega)
theorem gn_qz {d m : Nat} {x : Rat} (h : Qz d m x) : Qz d m (gn x) := by unfold gn mx; split; exact Qz.zero; exact h
theorem ls_qz {d m : Nat} {x : Rat} (h : Qz d m x) : Qz d m (ls x) := by
  unfold ls mx; split
  · exact Qz.zero
  · have := h.neg; rw [show -x = 0 - x by grind] at this; exact this
theorem once_q {ys : List Rat} (h : ∀ y ∈ ys, Qz 12 240 y) : Qz 12 (480 * ys.length) (onceR ys).2 ∧ ∀ u ∈ (onceR ys).1, Qz 12 240 u := by
  induction ys using snoc_ind with
  | h0 => exact ⟨.zero, by simp [onceR]⟩
  | hs l x ih =>
    obtain ⟨i1, i2⟩ := ih fun y hy => h y (by simp [hy])
    have hx := h x (by simp)
    rw [onceR_snoc]
    unfold onceS
    simp only
    have g0 := gn_nn (x := x)
    have l0 := (onceR_inv (ys := l)).2.1
    have m0 : 0 ≤ mn (onceR l).2 (gn x) := le_mn.mpr ⟨l0, g0⟩
    have m1 := (mn_le (a := (onceR l).2) (b := gn x)).2
    have gq := gn_qz hx
    have mq : QI 12 (mn (onceR l).2 (gn x)) := by
      rcases mn_or (a := (onceR l).2) (b := gn x) with m | m <;> rw [m]
      · exact i1.qi
      · exact gq.qi
    have gb := (qz_bd (B := 20) (by decide) gq).2
    have qm : Qz 12 240 (mn (onceR l).2 (gn x)) := mq.qz (h := 20) m0 (Rat.le_trans m1 gb)
    refine ⟨?_, fun u hu => ?_⟩
    · rw [List.length_append]
      exact (((i1.sub qm).add (ls_qz hx))).mono (by simp; omega)
    · rcases List.mem_append.mp hu with hu | hu
      · exact i2 u hu
      · simp at hu; subst hu; exact qm
theorem here_sz {ys us : List Rat} (hy : YS ys) (hu : YS us) (k : Nat) : SzR 81 (hereR ys us k) ∧ SzR 40 (gn (ys.getD k 0)) ∧ SzR 40 (us.getD k 0) := by
  have g : ∀ {l : List Rat}, YS l → SzR 40 (l.getD k 0) := fun {l} h => by
    rw [List.getD_eq_getElem?_getD]
    cases e : l[k]? with
    | none => exact SzR.zero.mono (by omega)
    | some x => exact h.sz x (List.mem_of_getElem? e)
  have a := gn_sz (g hy) (by omega)
  exact ⟨a.subw (g hu) (by omega), a, g hu⟩
theorem lroom_sz {ys us : List Rat} (hy : YS ys) (hu : YS us) {k : Nat} (hk : k < ys.length) : SzR 1683 (lroomR ys us k) := by
  obtain ⟨j, _, _, e⟩ := lroom_at (us := us) hk
  rw [e]; exact room_sz hy hu j
theorem slB_sz {R : List Pc} (n : RwN 30 R) {x : Rat} (sx : SzR 81 x) (x0 : 0 < x) : SzR 30 (slB R x) ∧ SzR 112 (farB R x) := by
  obtain ⟨p, hp, hpR, _⟩ := below_ex n.rw x0
  obtain ⟨a, _, c⟩ := n.sz p hpR
  unfold slB farB
  rw [hp]
  exact ⟨c, sx.subw a (by omega)⟩
theorem useB_ok {ys us : List Rat} (u : UOk ys us) : useB ys (ysD us) = true := by
  have e : useB ys (ysD us) = (decide ((us.map rat).length = ys.length) && ((us.map rat).all isRat && ((ys.zip ((us.map rat).map toR)).all okU && (roomsR ys ((us.map rat).map toR)).all fun r => decide (0 ≤ r)))) := rfl
  rw [e, toR_rats, isRat_rats, List.length_map, u.len]
  simp only [decide_true, Bool.true_and, Bool.and_eq_true, List.all_eq_true]
  refine ⟨fun p hp => ?_, fun r hr => ?_⟩
  · obtain ⟨j, hj, rfl⟩ := List.getElem_of_mem hp
    have hj2 : j < ys.length ∧ j < us.length := by rw [List.length_zip] at hj; omega
    have a := u.nn j
    have b := u.up j
    rw [List.getElem_zip]
    rw [List.getD_eq_getElem?_getD, List.getElem?_eq_getElem hj2.2] at a b
    rw [List.getD_eq_getElem?_getD, List.getElem?_eq_getElem hj2.1] at b
    simp only [Option.getD_some] at a b
    simp [okU, a, b]
  · unfold roomsR at hr
    obtain ⟨k, hk, rfl⟩ := List.mem_map.mp hr
    have hk : k < ys.length := by simpa using hk
    simpa using u.rm k hk
end TB

namespace TB
open PySem PySem.Spec PyProof.Rows L2
/-- the i-th statement of the text's top -/
def topL (i : Nat) : Stmt := PySem.Challenge.pw_taxbands_k69_whole_uses_that_even_out.main.body.getD i (.Pass ⟨0, 0, 0, 0⟩)
/-! is_whole: slots 0 value -/
def ir_is_whole : Ss :=
  (.cons (.ret (.and (.bfn (.isT .int) (.cons (.var 0) .nil)) (.not (.bfn (.isT .bool) (.cons (.var 0) .nil)))))
  .nil)
def c_is_whole : Ct := ⟨["value"], defScope (topL 5), fun _ => true, [], []⟩
theorem hc_is_whole : cSs 60 (c_is_whole) (defBody (topL 5)) = some (ir_is_whole) := by kernel_rfl
theorem hs_is_whole : FnScope ["value"] ["value"] (defScope (topL 5)) := ⟨rfl, rfl, rfl, by decide +kernel, rfl, by decide +kernel, by decide +kernel⟩
/-! common_divisor: slots 0 a, 1 b -/
def ir_common_divisor : Ss :=
  (.cons (.par 0 1 (.bfn .abs (.cons (.var 0) .nil)) (.bfn .abs (.cons (.var 1) .nil)))
  (.cons (.whl (.var 1) (.cons (.par 0 1 (.var 1) (.bin .mod (.var 0) (.var 1)))
  .nil))
  (.cons (.ret (.var 0))
  .nil)))
def c_common_divisor : Ct := ⟨["a", "b"], defScope (topL 8), fun _ => true, [], []⟩
theorem hc_common_divisor : cSs 60 (c_common_divisor) (defBody (topL 8)) = some (ir_common_divisor) := by kernel_rfl
theorem hs_common_divisor : FnScope ["a", "b"] ["a", "b"] (defScope (topL 8)) := ⟨rfl, rfl, rfl, by decide +kernel, rfl, by decide +kernel, by decide +kernel⟩
/-! is_ratio: slots 0 value -/
def ir_is_ratio : Ss :=
  (.cons (.ite (.or (.not (.bfn (.isT .tuple) (.cons (.var 0) .nil))) (.or (.cmp .ne (.bfn .len (.cons (.var 0) .nil)) (.cst (.int 2))) (.or (.not (.call 0 (.cons (.ix (.var 0) (.cst (.int 0))) .nil))) (.not (.call 0 (.cons (.ix (.var 0) (.cst (.int 1))) .nil)))))) (.cons (.ret (.cst (.bl false)))
  .nil) .nil)
  (.cons (.ret (.and (.cmp .gt (.ix (.var 0) (.cst (.int 1))) (.cst (.int 0))) (.cmp .eq (.call 1 (.cons (.ix (.var 0) (.cst (.int 0))) (.cons (.ix (.var 0) (.cst (.int 1))) .nil))) (.cst (.int 1)))))
  .nil))
def c_is_ratio : Ct := ⟨["value"], defScope (topL 9), fun _ => true, [("common_divisor", 1, 2), ("is_whole", 0, 1)], []⟩
theorem hc_is_ratio : cSs 60 (c_is_ratio) (defBody (topL 9)) = some (ir_is_ratio) := by kernel_rfl
theorem hs_is_ratio : FnScope ["value"] ["value"] (defScope (topL 9)) := ⟨rfl, rfl, rfl, by decide +kernel, rfl, by decide +kernel, by decide +kernel⟩
/-! ratio: slots 0 p, 1 q, 2 d -/
def ir_ratio : Ss :=
  (.cons (.ite (.cmp .eq (.var 1) (.cst (.int 0))) (.cons .stuck
  .nil) .nil)
  (.cons (.ite (.cmp .lt (.var 1) (.cst (.int 0))) (.cons (.par 0 1 (.neg (.var 0)) (.neg (.var 1)))
  .nil) .nil)
  (.cons (.asg (.nm 2) (.call 1 (.cons (.var 0) (.cons (.var 1) .nil))))
  (.cons (.ret (.tup (.cons (.bin .fdiv (.var 0) (.var 2)) (.cons (.bin .fdiv (.var 1) (.var 2)) .nil))))
  .nil))))
def c_ratio : Ct := ⟨["p", "q", "d"], defScope (topL 10), fun _ => true, [("common_divisor", 1, 2)], []⟩
theorem hc_ratio : cSs 60 (c_ratio) (defBody (topL 10)) = some (ir_ratio) := by kernel_rfl
theorem hs_ratio : FnScope ["p", "q", "d"] ["p", "q"] (defScope (topL 10)) := ⟨rfl, rfl, rfl, by decide +kernel, rfl, by decide +kernel, by decide +kernel⟩
/-! plus: slots 0 one, 1 other -/
def ir_plus : Ss :=
  (.cons (.ret (.call 3 (.cons (.bin .add (.bin .mul (.ix (.var 0) (.cst (.int 0))) (.ix (.var 1) (.cst (.int 1)))) (.bin .mul (.ix (.var 1) (.cst (.int 0))) (.ix (.var 0) (.cst (.int 1))))) (.cons (.bin .mul (.ix (.var 0) (.cst (.int 1))) (.ix (.var 1) (.cst (.int 1)))) .nil))))
  .nil)
def c_plus : Ct := ⟨["one", "other"], defScope (topL 11), fun _ => true, [("ratio", 3, 2)], []⟩
theorem hc_plus : cSs 60 (c_plus) (defBody (topL 11)) = some (ir_plus) := by kernel_rfl
theorem hs_plus : FnScope ["one", "other"] ["one", "other"] (defScope (topL 11)) := ⟨rfl, rfl, rfl, by decide +kernel, rfl, by decide +kernel, by decide +kernel⟩
/-! minus: slots 0 one, 1 other -/
def ir_minus : Ss :=
  (.cons (.ret (.call 3 (.cons (.bin .sub (.bin .mul (.ix (.var 0) (.cst (.int 0))) (.ix (.var 1) (.cst (.int 1)))) (.bin .mul (.ix (.var 1) (.cst (.int 0))) (.ix (.var 0) (.cst (.int 1))))) (.cons (.bin .mul (.ix (.var 0) (.cst (.int 1))) (.ix (.var 1) (.cst (.int 1)))) .nil))))
  .nil)
def c_minus : Ct := ⟨["one", "other"], defScope (topL 12), fun _ => true, [("ratio", 3, 2)], []⟩
theorem hc_minus : cSs 60 (c_minus) (defBody (topL 12)) = some (ir_minus) := by kernel_rfl
theorem hs_minus : FnScope ["one", "other"] ["one", "other"] (defScope (topL 12)) := ⟨rfl, rfl, rfl, by decide +kernel, rfl, by decide +kernel, by decide +kernel⟩
/-! times: slots 0 one, 1 other -/
def ir_times : Ss :=
  (.cons (.ret (.call 3 (.cons (.bin .mul (.ix (.var 0) (.cst (.int 0))) (.ix (.var 1) (.cst (.int 0)))) (.cons (.bin .mul (.ix (.var 0) (.cst (.int 1))) (.ix (.var 1) (.cst (.int 1)))) .nil))))
  .nil)
def c_times : Ct := ⟨["one", "other"], defScope (topL 13), fun _ => true, [("ratio", 3, 2)], []⟩
theorem hc_times : cSs 60 (c_times) (defBody (topL 13)) = some (ir_times) := by kernel_rfl
theorem hs_times : FnScope ["one", "other"] ["one", "other"] (defScope (topL 13)) := ⟨rfl, rfl, rfl, by decide +kernel, rfl, by decide +kernel, by decide +kernel⟩
/-! less: slots 0 one, 1 other -/
def ir_less : Ss :=
  (.cons (.ret (.cmp .lt (.bin .mul (.ix (.var 0) (.cst (.int 0))) (.ix (.var 1) (.cst (.int 1)))) (.bin .mul (.ix (.var 1) (.cst (.int 0))) (.ix (.var 0) (.cst (.int 1))))))
  .nil)
def c_less : Ct := ⟨["one", "other"], defScope (topL 14), fun _ => true, [], []⟩
theorem hc_less : cSs 60 (c_less) (defBody (topL 14)) = some (ir_less) := by kernel_rfl
theorem hs_less : FnScope ["one", "other"] ["one", "other"] (defScope (topL 14)) := ⟨rfl, rfl, rfl, by decide +kernel, rfl, by decide +kernel, by decide +kernel⟩
/-! sum_of: slots 0 ratios, 1 found, 2 one -/
def ir_sum_of : Ss :=
  (.cons (.asg (.nm 1) (.cst (.tup [(.int 0), (.int 1)])))
  (.cons (.for_ (.nm 2) (.seq (.var 0)) (.cons (.asg (.nm 1) (.call 4 (.cons (.var 1) (.cons (.var 2) .nil))))
  .nil))
  (.cons (.ret (.var 1))
  .nil)))
def c_sum_of : Ct := ⟨["ratios", "found", "one"], defScope (topL 15), fun _ => true, [("plus", 4, 2)], [("ZERO", (.tup [(.int 0), (.int 1)]))]⟩
theorem hc_sum_of : cSs 60 (c_sum_of) (defBody (topL 15)) = some (ir_sum_of) := by kernel_rfl
theorem hs_sum_of : FnScope ["ratios", "found", "one"] ["ratios"] (defScope (topL 15)) := ⟨rfl, rfl, rfl, by decide +kernel, rfl, by decide +kernel, by decide +kernel⟩
/-! along: slots 0 piece, 1 x, 2 start, 3 value, 4 slope -/
def ir_along : Ss :=
  (.cons (.asg (.tp (.cons (.nm 2) (.cons (.nm 3) (.cons (.nm 4) .nil)))) (.var 0))
  (.cons (.ret (.call 4 (.cons (.var 3) (.cons (.call 6 (.cons (.var 4) (.cons (.call 5 (.cons (.var 1) (.cons (.var 2) .nil))) .nil))) .nil))))
  .nil))
def c_along : Ct := ⟨["piece", "x", "start", "value", "slope"], defScope (topL 18), fun _ => true, [("minus", 5, 2), ("plus", 4, 2), ("times", 6, 2)], []⟩
theorem hc_along : cSs 60 (c_along) (defBody (topL 18)) = some (ir_along) := by kernel_rfl
theorem hs_along : FnScope ["piece", "x", "start", "value", "slope"] ["piece", "x"] (defScope (topL 18)) := ⟨rfl, rfl, rfl, by decide +kernel, rfl, by decide +kernel, by decide +kernel⟩
/-! limited: slots 0 pieces -/
def ir_limited : Ss :=
  (.cons (.ite (.cmp .gt (.bfn .len (.cons (.var 0) .nil)) (.cst (.int 60))) (.cons .stuck
  .nil) .nil)
  (.cons (.ret (.bfn .tuple (.cons (.var 0) .nil)))
  .nil))
def c_limited : Ct := ⟨["pieces"], defScope (topL 19), fun _ => true, [], [("MAX_PIECES", (.int 60))]⟩
theorem hc_limited : cSs 60 (c_limited) (defBody (topL 19)) = some (ir_limited) := by kernel_rfl
theorem hs_limited : FnScope ["pieces"] ["pieces"] (defScope (topL 19)) := ⟨rfl, rfl, rfl, by decide +kernel, rfl, by decide +kernel, by decide +kernel⟩
/-! normal: slots 0 row, 1 found, 2 piece -/
def ir_normal_1 : Ss :=
  (.cons (.ite (.or (.not (.var 1)) (.or (.cmp .ne (.ix (.ix (.var 1) (.neg (.cst (.int 1)))) (.cst (.int 2))) (.ix (.var 2) (.cst (.int 2)))) (.cmp .ne (.call 9 (.cons (.ix (.var 1) (.neg (.cst (.int 1)))) (.cons (.ix (.var 2) (.cst (.int 0))) .nil))) (.ix (.var 2) (.cst (.int 1)))))) (.cons (.expr (.mth .append (.var 1) (.cons (.var 2) .nil)))
  .nil) .nil)
  .nil)
def ir_normal_2 : Ss :=
  (.cons (.ret (.call 10 (.cons (.var 1) .nil)))
  .nil)
def ir_normal : Ss :=
  (.cons (.asg (.nm 1) (.lst .nil))
  (.cons (.for_ (.nm 2) (.seq (.var 0)) ir_normal_1)
  ir_normal_2))
def c_normal : Ct := ⟨["row", "found", "piece"], defScope (topL 20), fun _ => true, [("along", 9, 2), ("limited", 10, 1)], []⟩
theorem hc_normal : cSs 60 (c_normal) (defBody (topL 20)) = some (ir_normal) := by kernel_rfl
theorem hs_normal : FnScope ["row", "found", "piece"] ["row"] (defScope (topL 20)) := ⟨rfl, rfl, rfl, by decide +kernel, rfl, by decide +kernel, by decide +kernel⟩
/-! upper: slots 0 one, 1 other -/
def ir_upper : Ss :=
  (.cons (.ret (.ite (.call 7 (.cons (.var 0) (.cons (.var 1) .nil))) (.var 1) (.var 0)))
  .nil)
def c_upper : Ct := ⟨["one", "other"], defScope (topL 22), fun _ => true, [("less", 7, 2)], []⟩
theorem hc_upper : cSs 60 (c_upper) (defBody (topL 22)) = some (ir_upper) := by kernel_rfl
theorem hs_upper : FnScope ["one", "other"] ["one", "other"] (defScope (topL 22)) := ⟨rfl, rfl, rfl, by decide +kernel, rfl, by decide +kernel, by decide +kernel⟩
/-! lower: slots 0 one, 1 other -/
def ir_lower : Ss :=
  (.cons (.ret (.ite (.call 7 (.cons (.var 0) (.cons (.var 1) .nil))) (.var 0) (.var 1)))
  .nil)
def c_lower : Ct := ⟨["one", "other"], defScope (topL 23), fun _ => true, [("less", 7, 2)], []⟩
theorem hc_lower : cSs 60 (c_lower) (defBody (topL 23)) = some (ir_lower) := by kernel_rfl
theorem hs_lower : FnScope ["one", "other"] ["one", "other"] (defScope (topL 23)) := ⟨rfl, rfl, rfl, by decide +kernel, rfl, by decide +kernel, by decide +kernel⟩
/-! gains_of: slots 0 years, 1 x -/
def ir_gains_of : Ss :=
  (.cons (.ret (.bfn .tuple (.cons (.comp (.call 12 (.cons (.var 1) (.cons (.cst (.tup [(.int 0), (.int 1)])) .nil))) (.nm 1) (.seq (.var 0)) .no [1]) .nil)))
  .nil)
def c_gains_of : Ct := ⟨["years", "x"], defScope (topL 24), fun _ => true, [("upper", 12, 2)], [("ZERO", (.tup [(.int 0), (.int 1)]))]⟩
theorem hc_gains_of : cSs 60 (c_gains_of) (defBody (topL 24)) = some (ir_gains_of) := by kernel_rfl
theorem hs_gains_of : FnScope ["years", "x"] ["years"] (defScope (topL 24)) := ⟨rfl, rfl, rfl, by decide +kernel, rfl, by decide +kernel, by decide +kernel⟩
/-! carried_at_once: slots 0 years, 1 left, 2 found, 3 x, 4 part -/
def ir_carried_at_once : Ss :=
  (.cons (.par 1 2 (.cst (.tup [(.int 0), (.int 1)])) (.lst .nil))
  (.cons (.for_ (.nm 3) (.seq (.var 0)) (.cons (.asg (.nm 4) (.call 13 (.cons (.var 1) (.cons (.call 12 (.cons (.var 3) (.cons (.cst (.tup [(.int 0), (.int 1)])) .nil))) .nil))))
  (.cons (.expr (.mth .append (.var 2) (.cons (.var 4) .nil)))
  (.cons (.asg (.nm 1) (.call 4 (.cons (.call 5 (.cons (.var 1) (.cons (.var 4) .nil))) (.cons (.call 12 (.cons (.call 5 (.cons (.cst (.tup [(.int 0), (.int 1)])) (.cons (.var 3) .nil))) (.cons (.cst (.tup [(.int 0), (.int 1)])) .nil))) .nil))))
  .nil))))
  (.cons (.ret (.tup (.cons (.bfn .tuple (.cons (.var 2) .nil)) (.cons (.var 1) .nil))))
  .nil)))
def c_carried_at_once : Ct := ⟨["years", "left", "found", "x", "part"], defScope (topL 25), fun _ => true, [("lower", 13, 2), ("minus", 5, 2), ("plus", 4, 2), ("upper", 12, 2)], [("ZERO", (.tup [(.int 0), (.int 1)]))]⟩
theorem hc_carried_at_once : cSs 60 (c_carried_at_once) (defBody (topL 25)) = some (ir_carried_at_once) := by kernel_rfl
theorem hs_carried_at_once : FnScope ["years", "left", "found", "x", "part"] ["years"] (defScope (topL 25)) := ⟨rfl, rfl, rfl, by decide +kernel, rfl, by decide +kernel, by decide +kernel⟩
/-! rooms_of: slots 0 years, 1 use, 2 found, 3 free, 4 x, 5 part -/
def ir_rooms_of : Ss :=
  (.cons (.par 2 3 (.lst .nil) (.cst (.tup [(.int 0), (.int 1)])))
  (.cons (.for_ (.tp (.cons (.nm 4) (.cons (.nm 5) .nil))) (.zip (.var 0) (.var 1)) (.cons (.asg (.nm 3) (.call 5 (.cons (.var 3) (.cons (.var 5) .nil))))
  (.cons (.expr (.mth .append (.var 2) (.cons (.var 3) .nil)))
  (.cons (.asg (.nm 3) (.call 4 (.cons (.var 3) (.cons (.call 12 (.cons (.call 5 (.cons (.cst (.tup [(.int 0), (.int 1)])) (.cons (.var 4) .nil))) (.cons (.cst (.tup [(.int 0), (.int 1)])) .nil))) .nil))))
  .nil))))
  (.cons (.ret (.bfn .tuple (.cons (.var 2) .nil)))
  .nil)))
def c_rooms_of : Ct := ⟨["years", "use", "found", "free", "x", "part"], defScope (topL 26), fun _ => true, [("minus", 5, 2), ("plus", 4, 2), ("upper", 12, 2)], [("ZERO", (.tup [(.int 0), (.int 1)]))]⟩
theorem hc_rooms_of : cSs 60 (c_rooms_of) (defBody (topL 26)) = some (ir_rooms_of) := by kernel_rfl
theorem hs_rooms_of : FnScope ["years", "use", "found", "free", "x", "part"] ["years", "use"] (defScope (topL 26)) := ⟨rfl, rfl, rfl, by decide +kernel, rfl, by decide +kernel, by decide +kernel⟩
/-! is_use: slots 0 years, 1 value, 2 part, 3 gain, 4 free -/
def ir_is_use : Ss :=
  (.cons (.ite (.or (.not (.bfn (.isT .tuple) (.cons (.var 1) .nil))) (.or (.cmp .ne (.bfn .len (.cons (.var 1) .nil)) (.bfn .len (.cons (.var 0) .nil))) (.not (.bfn .all (.cons (.comp (.call 2 (.cons (.var 2) .nil)) (.nm 2) (.seq (.var 1)) .no [2]) .nil))))) (.cons (.ret (.cst (.bl false)))
  .nil) .nil)
  (.cons (.ite (.bfn .any (.cons (.comp (.or (.call 7 (.cons (.var 2) (.cons (.cst (.tup [(.int 0), (.int 1)])) .nil))) (.call 7 (.cons (.var 3) (.cons (.var 2) .nil)))) (.tp (.cons (.nm 2) (.cons (.nm 3) .nil))) (.zip (.var 1) (.call 14 (.cons (.var 0) .nil))) .no [2, 3]) .nil)) (.cons (.ret (.cst (.bl false)))
  .nil) .nil)
  (.cons (.ret (.not (.bfn .any (.cons (.comp (.call 7 (.cons (.var 4) (.cons (.cst (.tup [(.int 0), (.int 1)])) .nil))) (.nm 4) (.seq (.call 16 (.cons (.var 0) (.cons (.var 1) .nil)))) .no [4]) .nil))))
  .nil)))
def c_is_use : Ct := ⟨["years", "value", "part", "gain", "free"], defScope (topL 27), fun _ => true, [("gains_of", 14, 1), ("is_ratio", 2, 1), ("less", 7, 2), ("rooms_of", 16, 2)], [("ZERO", (.tup [(.int 0), (.int 1)]))]⟩
theorem hc_is_use : cSs 60 (c_is_use) (defBody (topL 27)) = some (ir_is_use) := by kernel_rfl
theorem hs_is_use : FnScope ["years", "value", "part", "gain", "free"] ["years", "value"] (defScope (topL 27)) := ⟨rfl, rfl, rfl, by decide +kernel, rfl, by decide +kernel, by decide +kernel⟩
/-! slope_below: slots 0 row, 1 x, 2 pieces, 3 piece -/
def ir_slope_below : Ss :=
  (.cons (.asg (.nm 2) (.comp (.var 3) (.nm 3) (.seq (.call 11 (.cons (.var 0) .nil))) (.yes (.call 7 (.cons (.ix (.var 3) (.cst (.int 0))) (.cons (.var 1) .nil)))) [3]))
  (.cons (.ret (.tup (.cons (.ix (.ix (.var 2) (.neg (.cst (.int 1)))) (.cst (.int 2))) (.cons (.call 5 (.cons (.var 1) (.cons (.ix (.ix (.var 2) (.neg (.cst (.int 1)))) (.cst (.int 0))) .nil))) .nil))))
  .nil))
def c_slope_below : Ct := ⟨["row", "x", "pieces", "piece"], defScope (topL 28), fun _ => true, [("less", 7, 2), ("minus", 5, 2), ("normal", 11, 1)], []⟩
theorem hc_slope_below : cSs 60 (c_slope_below) (defBody (topL 28)) = some (ir_slope_below) := by kernel_rfl
theorem hs_slope_below : FnScope ["row", "x", "pieces", "piece"] ["row", "x"] (defScope (topL 28)) := ⟨rfl, rfl, rfl, by decide +kernel, rfl, by decide +kernel, by decide +kernel⟩
/-! least_room: slots 0 years, 1 use, 2 k, 3 rooms, 4 found, 5 free -/
def ir_least_room : Ss :=
  (.cons (.asg (.nm 3) (.call 16 (.cons (.var 0) (.cons (.var 1) .nil))))
  (.cons (.asg (.nm 4) (.ix (.var 3) (.var 2)))
  (.cons (.for_ (.nm 5) (.seq (.sl (.var 3) (.yes (.var 2)) .no)) (.cons (.asg (.nm 4) (.call 13 (.cons (.var 4) (.cons (.var 5) .nil))))
  .nil))
  (.cons (.ret (.var 4))
  .nil))))
def c_least_room : Ct := ⟨["years", "use", "k", "rooms", "found", "free"], defScope (topL 30), fun _ => true, [("lower", 13, 2), ("rooms_of", 16, 2)], []⟩
theorem hc_least_room : cSs 60 (c_least_room) (defBody (topL 30)) = some (ir_least_room) := by kernel_rfl
theorem hs_least_room : FnScope ["years", "use", "k", "rooms", "found", "free"] ["years", "use", "k"] (defScope (topL 30)) := ⟨rfl, rfl, rfl, by decide +kernel, rfl, by decide +kernel, by decide +kernel⟩
/-! best_use: slots 0 row, 1 years, 2 use, 3 best, 4 k, 5 gain, 6 here, 7 room, 8 slope, 9 far -/
def ir_best_use_2 : Ss :=
  (.cons (.par 6 7 (.call 5 (.cons (.var 5) (.cons (.ix (.var 2) (.var 4)) .nil))) (.call 19 (.cons (.var 1) (.cons (.var 2) (.cons (.var 4) .nil)))))
  (.cons (.ite (.and (.call 7 (.cons (.cst (.tup [(.int 0), (.int 1)])) (.cons (.var 6) .nil))) (.call 7 (.cons (.cst (.tup [(.int 0), (.int 1)])) (.cons (.var 7) .nil)))) (.cons (.asg (.tp (.cons (.nm 8) (.cons (.nm 9) .nil))) (.call 18 (.cons (.var 0) (.cons (.var 6) .nil))))
  (.cons (.ite (.and (.call 7 (.cons (.cst (.tup [(.int 0), (.int 1)])) (.cons (.var 8) .nil))) (.or (.cmp .isN (.var 3) (.cst .non)) (.call 7 (.cons (.ix (.var 3) (.cst (.int 0))) (.cons (.var 8) .nil))))) (.cons (.asg (.nm 3) (.tup (.cons (.var 8) (.cons (.var 4) (.cons (.call 13 (.cons (.var 9) (.cons (.var 7) .nil))) .nil)))))
  .nil) .nil)
  .nil)) .nil)
  .nil))
def ir_best_use_4 : Ss :=
  (.cons (.asg (.ix (.var 2) (.ix (.var 3) (.cst (.int 1)))) (.call 4 (.cons (.ix (.var 2) (.ix (.var 3) (.cst (.int 1)))) (.cons (.ix (.var 3) (.cst (.int 2))) .nil))))
  .nil)
def ir_best_use_3 : Ss :=
  (.cons (.ite (.cmp .isN (.var 3) (.cst .non)) (.cons (.ret (.bfn .tuple (.cons (.var 2) .nil)))
  .nil) .nil)
  ir_best_use_4)
def ir_best_use_1 : Ss :=
  (.cons (.asg (.nm 3) (.cst .non))
  (.cons (.for_ (.tp (.cons (.nm 4) (.cons (.nm 5) .nil))) (.enum (.call 14 (.cons (.var 1) .nil))) ir_best_use_2)
  ir_best_use_3))
def ir_best_use : Ss :=
  (.cons (.asg (.nm 2) (.bin .mul (.lst (.cons (.cst (.tup [(.int 0), (.int 1)])) .nil)) (.bfn .len (.cons (.var 1) .nil))))
  (.cons (.whl (.cst (.bl true)) ir_best_use_1)
  .nil))
def c_best_use : Ct := ⟨["row", "years", "use", "best", "k", "gain", "here", "room", "slope", "far"], defScope (topL 29), fun _ => true, [("gains_of", 14, 1), ("least_room", 19, 3), ("less", 7, 2), ("lower", 13, 2), ("minus", 5, 2), ("plus", 4, 2), ("slope_below", 18, 2)], [("ZERO", (.tup [(.int 0), (.int 1)]))]⟩
theorem hc_best_use : cSs 60 (c_best_use) (defBody (topL 29)) = some (ir_best_use) := by kernel_rfl
theorem hs_best_use : FnScope ["row", "years", "use", "best", "k", "gain", "here", "room", "slope", "far"] ["row", "years"] (defScope (topL 29)) := ⟨rfl, rfl, rfl, by decide +kernel, rfl, by decide +kernel, by decide +kernel⟩
/-! ordered: slots 0 incomes, 1 found, 2 x, 3 other -/
def ir_ordered_1 : Ss :=
  (.cons (.expr (.mth .insert (.var 1) (.cons (.bfn .len (.cons (.comp (.var 3) (.nm 3) (.seq (.var 1)) (.yes (.not (.call 7 (.cons (.var 2) (.cons (.var 3) .nil))))) [3]) .nil)) (.cons (.var 2) .nil))))
  .nil)
def ir_ordered_2 : Ss :=
  (.cons (.ret (.bfn .tuple (.cons (.var 1) .nil)))
  .nil)
def ir_ordered : Ss :=
  (.cons (.asg (.nm 1) (.lst .nil))
  (.cons (.for_ (.nm 2) (.seq (.var 0)) ir_ordered_1)
  ir_ordered_2))
def c_ordered : Ct := ⟨["incomes", "found", "x", "other"], defScope (topL 32), fun _ => true, [("less", 7, 2)], []⟩
theorem hc_ordered : cSs 60 (c_ordered) (defBody (topL 32)) = some (ir_ordered) := by kernel_rfl
theorem hs_ordered : FnScope ["incomes", "found", "x", "other"] ["incomes"] (defScope (topL 32)) := ⟨rfl, rfl, rfl, by decide +kernel, rfl, by decide +kernel, by decide +kernel⟩
/-! begun_sums: slots 0 incomes, 1 found, 2 x -/
def ir_begun_sums_1 : Ss :=
  (.cons (.expr (.mth .append (.var 1) (.cons (.call 4 (.cons (.ix (.var 1) (.neg (.cst (.int 1)))) (.cons (.var 2) .nil))) .nil)))
  .nil)
def ir_begun_sums_2 : Ss :=
  (.cons (.ret (.bfn .tuple (.cons (.var 1) .nil)))
  .nil)
def ir_begun_sums : Ss :=
  (.cons (.asg (.nm 1) (.lst (.cons (.cst (.tup [(.int 0), (.int 1)])) .nil)))
  (.cons (.for_ (.nm 2) (.seq (.call 21 (.cons (.var 0) .nil))) ir_begun_sums_1)
  ir_begun_sums_2))
def c_begun_sums : Ct := ⟨["incomes", "found", "x"], defScope (topL 33), fun _ => true, [("ordered", 21, 1), ("plus", 4, 2)], [("ZERO", (.tup [(.int 0), (.int 1)]))]⟩
theorem hc_begun_sums : cSs 60 (c_begun_sums) (defBody (topL 33)) = some (ir_begun_sums) := by kernel_rfl
theorem hs_begun_sums : FnScope ["incomes", "found", "x"] ["incomes"] (defScope (topL 33)) := ⟨rfl, rfl, rfl, by decide +kernel, rfl, by decide +kernel, by decide +kernel⟩
/-! first_below: slots 0 one, 1 other, 2 k, 3 mine, 4 its -/
def ir_first_below_1 : Ss :=
  (.cons (.ite (.call 7 (.cons (.var 3) (.cons (.var 4) .nil))) (.cons (.ret (.var 2))
  .nil) .nil)
  .nil)
def ir_first_below_2 : Ss :=
  (.cons (.ret (.cst .non))
  .nil)
def ir_first_below : Ss :=
  (.cons (.for_ (.tp (.cons (.nm 2) (.cons (.tp (.cons (.nm 3) (.cons (.nm 4) .nil))) .nil))) (.ezip (.call 22 (.cons (.var 0) .nil)) (.call 22 (.cons (.var 1) .nil))) ir_first_below_1)
  ir_first_below_2)
def c_first_below : Ct := ⟨["one", "other", "k", "mine", "its"], defScope (topL 34), fun _ => true, [("begun_sums", 22, 1), ("less", 7, 2)], []⟩
theorem hc_first_below : cSs 60 (c_first_below) (defBody (topL 34)) = some (ir_first_below) := by kernel_rfl
theorem hs_first_below : FnScope ["one", "other", "k", "mine", "its"] ["one", "other"] (defScope (topL 34)) := ⟨rfl, rfl, rfl, by decide +kernel, rfl, by decide +kernel, by decide +kernel⟩
/-! is_more_even: slots 0 one, 1 other -/
def ir_is_more_even : Ss :=
  (.cons (.ret (.cmp .isN (.call 23 (.cons (.var 0) (.cons (.var 1) .nil))) (.cst .non)))
  .nil)
def c_is_more_even : Ct := ⟨["one", "other"], defScope (topL 35), fun _ => true, [("first_below", 23, 2)], []⟩
theorem hc_is_more_even : cSs 60 (c_is_more_even) (defBody (topL 35)) = some (ir_is_more_even) := by kernel_rfl
theorem hs_is_more_even : FnScope ["one", "other"] ["one", "other"] (defScope (topL 35)) := ⟨rfl, rfl, rfl, by decide +kernel, rfl, by decide +kernel, by decide +kernel⟩
/-! over_line: slots 0 incomes, 1 c, 2 x -/
def ir_over_line : Ss :=
  (.cons (.ret (.call 8 (.cons (.comp (.call 5 (.cons (.var 2) (.cons (.var 1) .nil))) (.nm 2) (.seq (.var 0)) (.yes (.call 7 (.cons (.var 1) (.cons (.var 2) .nil)))) [2]) .nil)))
  .nil)
def c_over_line : Ct := ⟨["incomes", "c", "x"], defScope (topL 36), fun _ => true, [("less", 7, 2), ("minus", 5, 2), ("sum_of", 8, 1)], []⟩
theorem hc_over_line : cSs 60 (c_over_line) (defBody (topL 36)) = some (ir_over_line) := by kernel_rfl
theorem hs_over_line : FnScope ["incomes", "c", "x"] ["incomes", "c"] (defScope (topL 36)) := ⟨rfl, rfl, rfl, by decide +kernel, rfl, by decide +kernel, by decide +kernel⟩
/-! line_against: slots 0 one, 1 other, 2 c -/
def ir_line_against_1 : Ss :=
  (.cons (.ite (.call 7 (.cons (.call 25 (.cons (.var 1) (.cons (.var 2) .nil))) (.cons (.call 25 (.cons (.var 0) (.cons (.var 2) .nil))) .nil))) (.cons (.ret (.var 2))
  .nil) .nil)
  .nil)
def ir_line_against_2 : Ss :=
  (.cons (.ret (.cst .non))
  .nil)
def ir_line_against : Ss :=
  (.cons (.for_ (.nm 2) (.seq (.call 21 (.cons (.var 1) .nil))) ir_line_against_1)
  ir_line_against_2)
def c_line_against : Ct := ⟨["one", "other", "c"], defScope (topL 37), fun _ => true, [("less", 7, 2), ("ordered", 21, 1), ("over_line", 25, 2)], []⟩
theorem hc_line_against : cSs 60 (c_line_against) (defBody (topL 37)) = some (ir_line_against) := by kernel_rfl
theorem hs_line_against : FnScope ["one", "other", "c"] ["one", "other"] (defScope (topL 37)) := ⟨rfl, rfl, rfl, by decide +kernel, rfl, by decide +kernel, by decide +kernel⟩
/-! _law_box: slots 0 script -/
def ir_law_box : Ss :=
  (.cons (.ret (.lst (.cons (.bfn .list (.cons (.sl (.var 0) .no (.yes (.cst (.int 63)))) .nil)) (.cons (.cst (.int 0)) (.cons (.bin .add (.cst (.int 4711)) (.bfn .len (.cons (.var 0) .nil))) .nil)))))
  .nil)
def c_law_box : Ct := ⟨["script"], defScope (topL 39), fun _ => true, [], []⟩
theorem hc_law_box : cSs 60 (c_law_box) (defBody (topL 39)) = some (ir_law_box) := by kernel_rfl
theorem hs_law_box : FnScope ["script"] ["script"] (defScope (topL 39)) := ⟨rfl, rfl, rfl, by decide +kernel, rfl, by decide +kernel, by decide +kernel⟩
/-! _law_load: slots 0 box, 1 cells, 2 cell, 3 size, 4 first, 5 second -/
def ir_law_load : Ss :=
  (.cons (.asg (.nm 1) (.ix (.var 0) (.cst (.int 0))))
  (.cons (.ite (.cmp .gt (.bfn .len (.cons (.var 1) .nil)) (.cst (.int 0))) (.cons (.asg (.nm 2) (.bfn .int (.cons (.mth .popAt (.var 1) (.cons (.cst (.int 0)) .nil)) .nil)))
  (.cons (.asg (.nm 3) (.ite (.cmp .ge (.var 2) (.cst (.int 0))) (.bin .mul (.cst (.int 2)) (.var 2)) (.bin .sub (.bin .mul (.neg (.cst (.int 2))) (.var 2)) (.cst (.int 1)))))
  (.cons (.ite (.cmp .ge (.var 3) (.cst (.int 1000000000000000000))) (.cons (.ret (.var 3))
  .nil) .nil)
  (.cons (.asg (.ix (.var 0) (.cst (.int 2))) (.bin .mod (.bfn .int (.cons (.bin .add (.bin .add (.bin .mul (.ix (.var 0) (.cst (.int 2))) (.cst (.int 69621))) (.bin .mul (.var 3) (.cst (.int 48271)))) (.cst (.int 11))) .nil)) (.cst (.int 2147483647))))
  .nil)))) .nil)
  (.cons (.asg (.nm 4) (.bin .mod (.bfn .int (.cons (.bin .add (.bin .mul (.ix (.var 0) (.cst (.int 2))) (.cst (.int 48271))) (.cst (.int 17))) .nil)) (.cst (.int 2147483629))))
  (.cons (.asg (.nm 5) (.bin .mod (.bfn .int (.cons (.bin .add (.bin .mul (.var 4) (.cst (.int 69621))) (.cst (.int 5))) .nil)) (.cst (.int 2147483587))))
  (.cons (.asg (.ix (.var 0) (.cst (.int 2))) (.bin .mod (.bfn .int (.cons (.bin .add (.bin .mul (.var 5) (.cst (.int 40692))) (.cst (.int 3))) .nil)) (.cst (.int 2147483563))))
  (.cons (.ret (.bin .add (.bin .add (.bin .mul (.var 4) (.cst (.int 4611686014132420609))) (.bin .mul (.var 5) (.cst (.int 2147483647)))) (.ix (.var 0) (.cst (.int 2)))))
  .nil))))))
def c_law_load : Ct := ⟨["box", "cells", "cell", "size", "first", "second"], defScope (topL 40), fun _ => true, [], []⟩
theorem hc_law_load : cSs 60 (c_law_load) (defBody (topL 40)) = some (ir_law_load) := by kernel_rfl
theorem hs_law_load : FnScope ["box", "cells", "cell", "size", "first", "second"] ["box"] (defScope (topL 40)) := ⟨rfl, rfl, rfl, by decide +kernel, rfl, by decide +kernel, by decide +kernel⟩
/-! _law_draw: slots 0 box, 1 many, 2 digit -/
def ir_law_draw : Ss :=
  (.cons (.ite (.cmp .lt (.ix (.var 0) (.cst (.int 1))) (.var 1)) (.cons (.asg (.ix (.var 0) (.cst (.int 1))) (.call 28 (.cons (.var 0) .nil)))
  .nil) .nil)
  (.cons (.asg (.nm 2) (.bin .mod (.bfn .int (.cons (.ix (.var 0) (.cst (.int 1))) .nil)) (.var 1)))
  (.cons (.asg (.ix (.var 0) (.cst (.int 1))) (.bin .fdiv (.ix (.var 0) (.cst (.int 1))) (.var 1)))
  (.cons (.ret (.var 2))
  .nil))))
def c_law_draw : Ct := ⟨["box", "many", "digit"], defScope (topL 41), fun _ => true, [("_law_load", 28, 1)], []⟩
theorem hc_law_draw : cSs 60 (c_law_draw) (defBody (topL 41)) = some (ir_law_draw) := by kernel_rfl
theorem hs_law_draw : FnScope ["box", "many", "digit"] ["box", "many"] (defScope (topL 41)) := ⟨rfl, rfl, rfl, by decide +kernel, rfl, by decide +kernel, by decide +kernel⟩
/-! _law_divisor: slots 0 a, 1 b -/
def ir_law_divisor : Ss :=
  (.cons (.whl (.cmp .ne (.var 1) (.cst (.int 0))) (.cons (.par 0 1 (.var 1) (.bin .sub (.var 0) (.bin .mul (.bin .fdiv (.var 0) (.var 1)) (.var 1))))
  .nil))
  (.cons (.ret (.var 0))
  .nil))
def c_law_divisor : Ct := ⟨["a", "b"], defScope (topL 42), fun _ => true, [], []⟩
theorem hc_law_divisor : cSs 60 (c_law_divisor) (defBody (topL 42)) = some (ir_law_divisor) := by kernel_rfl
theorem hs_law_divisor : FnScope ["a", "b"] ["a", "b"] (defScope (topL 42)) := ⟨rfl, rfl, rfl, by decide +kernel, rfl, by decide +kernel, by decide +kernel⟩
/-! _law_ratio: slots 0 p, 1 q, 2 d -/
def ir_law_ratio : Ss :=
  (.cons (.asg (.nm 2) (.call 30 (.cons (.bfn .abs (.cons (.var 0) .nil)) (.cons (.bfn .abs (.cons (.var 1) .nil)) .nil))))
  (.cons (.ret (.ite (.cmp .gt (.var 1) (.cst (.int 0))) (.tup (.cons (.bin .fdiv (.var 0) (.var 2)) (.cons (.bin .fdiv (.var 1) (.var 2)) .nil))) (.tup (.cons (.bin .fdiv (.neg (.var 0)) (.var 2)) (.cons (.bin .fdiv (.neg (.var 1)) (.var 2)) .nil)))))
  .nil))
def c_law_ratio : Ct := ⟨["p", "q", "d"], defScope (topL 43), fun _ => true, [("_law_divisor", 30, 2)], []⟩
theorem hc_law_ratio : cSs 60 (c_law_ratio) (defBody (topL 43)) = some (ir_law_ratio) := by kernel_rfl
theorem hs_law_ratio : FnScope ["p", "q", "d"] ["p", "q"] (defScope (topL 43)) := ⟨rfl, rfl, rfl, by decide +kernel, rfl, by decide +kernel, by decide +kernel⟩
/-! _law_plus: slots 0 one, 1 other -/
def ir_law_plus : Ss :=
  (.cons (.ret (.call 31 (.cons (.bin .add (.bin .mul (.ix (.var 0) (.cst (.int 0))) (.ix (.var 1) (.cst (.int 1)))) (.bin .mul (.ix (.var 1) (.cst (.int 0))) (.ix (.var 0) (.cst (.int 1))))) (.cons (.bin .mul (.ix (.var 0) (.cst (.int 1))) (.ix (.var 1) (.cst (.int 1)))) .nil))))
  .nil)
def c_law_plus : Ct := ⟨["one", "other"], defScope (topL 44), fun _ => true, [("_law_ratio", 31, 2)], []⟩
theorem hc_law_plus : cSs 60 (c_law_plus) (defBody (topL 44)) = some (ir_law_plus) := by kernel_rfl
theorem hs_law_plus : FnScope ["one", "other"] ["one", "other"] (defScope (topL 44)) := ⟨rfl, rfl, rfl, by decide +kernel, rfl, by decide +kernel, by decide +kernel⟩
/-! _law_minus: slots 0 one, 1 other -/
def ir_law_minus : Ss :=
  (.cons (.ret (.call 31 (.cons (.bin .sub (.bin .mul (.ix (.var 0) (.cst (.int 0))) (.ix (.var 1) (.cst (.int 1)))) (.bin .mul (.ix (.var 1) (.cst (.int 0))) (.ix (.var 0) (.cst (.int 1))))) (.cons (.bin .mul (.ix (.var 0) (.cst (.int 1))) (.ix (.var 1) (.cst (.int 1)))) .nil))))
  .nil)
def c_law_minus : Ct := ⟨["one", "other"], defScope (topL 45), fun _ => true, [("_law_ratio", 31, 2)], []⟩
theorem hc_law_minus : cSs 60 (c_law_minus) (defBody (topL 45)) = some (ir_law_minus) := by kernel_rfl
theorem hs_law_minus : FnScope ["one", "other"] ["one", "other"] (defScope (topL 45)) := ⟨rfl, rfl, rfl, by decide +kernel, rfl, by decide +kernel, by decide +kernel⟩
/-! _law_less: slots 0 one, 1 other -/
def ir_law_less : Ss :=
  (.cons (.ret (.cmp .lt (.bin .mul (.ix (.var 0) (.cst (.int 0))) (.ix (.var 1) (.cst (.int 1)))) (.bin .mul (.ix (.var 1) (.cst (.int 0))) (.ix (.var 0) (.cst (.int 1))))))
  .nil)
def c_law_less : Ct := ⟨["one", "other"], defScope (topL 46), fun _ => true, [], []⟩
theorem hc_law_less : cSs 60 (c_law_less) (defBody (topL 46)) = some (ir_law_less) := by kernel_rfl
theorem hs_law_less : FnScope ["one", "other"] ["one", "other"] (defScope (topL 46)) := ⟨rfl, rfl, rfl, by decide +kernel, rfl, by decide +kernel, by decide +kernel⟩
/-! _law_total: slots 0 rows, 1 found, 2 one -/
def ir_law_total : Ss :=
  (.cons (.asg (.nm 1) (.tup (.cons (.cst (.int 0)) (.cons (.cst (.int 1)) .nil))))
  (.cons (.for_ (.nm 2) (.seq (.var 0)) (.cons (.asg (.nm 1) (.call 32 (.cons (.var 1) (.cons (.var 2) .nil))))
  .nil))
  (.cons (.ret (.var 1))
  .nil)))
def c_law_total : Ct := ⟨["rows", "found", "one"], defScope (topL 47), fun _ => true, [("_law_plus", 32, 2)], []⟩
theorem hc_law_total : cSs 60 (c_law_total) (defBody (topL 47)) = some (ir_law_total) := by kernel_rfl
theorem hs_law_total : FnScope ["rows", "found", "one"] ["rows"] (defScope (topL 47)) := ⟨rfl, rfl, rfl, by decide +kernel, rfl, by decide +kernel, by decide +kernel⟩
/-! _law_bending: slots 0 many, 1 found, 2 value, 3 k, 4 slope -/
def ir_law_bending : Ss :=
  (.cons (.par 1 2 (.lst .nil) (.tup (.cons (.cst (.int 0)) (.cons (.cst (.int 1)) .nil))))
  (.cons (.for_ (.nm 3) (.rng1 (.var 0)) (.cons (.asg (.nm 4) (.call 31 (.cons (.bin .add (.var 3) (.cst (.int 1))) (.cons (.bin .add (.var 0) (.cst (.int 1))) .nil))))
  (.cons (.expr (.mth .append (.var 1) (.cons (.tup (.cons (.tup (.cons (.var 3) (.cons (.cst (.int 1)) .nil))) (.cons (.var 2) (.cons (.var 4) .nil)))) .nil)))
  (.cons (.asg (.nm 2) (.call 32 (.cons (.var 2) (.cons (.var 4) .nil))))
  .nil))))
  (.cons (.ret (.bfn .tuple (.cons (.var 1) .nil)))
  .nil)))
def c_law_bending : Ct := ⟨["many", "found", "value", "k", "slope"], defScope (topL 48), fun _ => true, [("_law_plus", 32, 2), ("_law_ratio", 31, 2)], []⟩
theorem hc_law_bending : cSs 60 (c_law_bending) (defBody (topL 48)) = some (ir_law_bending) := by kernel_rfl
theorem hs_law_bending : FnScope ["many", "found", "value", "k", "slope"] ["many"] (defScope (topL 48)) := ⟨rfl, rfl, rfl, by decide +kernel, rfl, by decide +kernel, by decide +kernel⟩
/-! _law_all: slots 0 years, 1 rows, 2 k, 3 longer, 4 row, 5 lost_before, 6 x, 7 most, 8 part -/
def ir_law_all_2 : Ss :=
  (.cons (.asg (.nm 5) (.bfn .sum (.cons (.comp (.neg (.ix (.var 6) (.cst (.int 0)))) (.nm 6) (.seq (.sl (.var 0) .no (.yes (.var 2)))) (.yes (.cmp .lt (.ix (.var 6) (.cst (.int 0))) (.cst (.int 0)))) [6]) .nil)))
  (.cons (.asg (.nm 7) (.bfn .min (.cons (.bfn .max (.cons (.ix (.ix (.var 0) (.var 2)) (.cst (.int 0))) (.cons (.cst (.int 0)) .nil))) (.cons (.bin .sub (.var 5) (.bfn .sum (.cons (.comp (.ix (.var 8) (.cst (.int 0))) (.nm 8) (.seq (.var 4)) .no [8]) .nil))) .nil))))
  (.cons (.expr (.mth .extend (.var 3) (.cons (.comp (.bin .add (.var 4) (.tup (.cons (.tup (.cons (.var 8) (.cons (.cst (.int 1)) .nil))) .nil))) (.nm 8) (.rng1 (.bin .add (.var 7) (.cst (.int 1)))) .no [8]) .nil)))
  .nil)))
def ir_law_all_3 : Ss :=
  (.cons (.asg (.nm 1) (.var 3))
  .nil)
def ir_law_all_1 : Ss :=
  (.cons (.asg (.nm 3) (.lst .nil))
  (.cons (.for_ (.nm 4) (.seq (.var 1)) ir_law_all_2)
  ir_law_all_3))
def ir_law_all_4 : Ss :=
  (.cons (.ret (.var 1))
  .nil)
def ir_law_all : Ss :=
  (.cons (.asg (.nm 1) (.lst (.cons (.tup .nil) .nil)))
  (.cons (.for_ (.nm 2) (.rng1 (.bfn .len (.cons (.var 0) .nil))) ir_law_all_1)
  ir_law_all_4))
def c_law_all : Ct := ⟨["years", "rows", "k", "longer", "row", "lost_before", "x", "most", "part"], defScope (topL 49), fun _ => true, [], []⟩
theorem hc_law_all : cSs 60 (c_law_all) (defBody (topL 49)) = some (ir_law_all) := by kernel_rfl
theorem hs_law_all : FnScope ["years", "rows", "k", "longer", "row", "lost_before", "x", "most", "part"] ["years"] (defScope (topL 49)) := ⟨rfl, rfl, rfl, by decide +kernel, rfl, by decide +kernel, by decide +kernel⟩
/-! law: slots 0 script, 1 box, 2 row, 3 turn, 4 years, 5 k, 6 use, 7 gains, 8 left, 9 x, 10 part, 11 total, 12 other, 13 rest -/
def ir_law_4 : Ss :=
  (.cons (.ite (.and (.cmp .eq (.call 35 (.cons (.var 12) .nil)) (.var 11)) (.or (.cmp .notN (.call 24 (.cons (.var 8) (.cons (.var 13) .nil))) (.cst (.bl true))) (.cmp .notN (.call 26 (.cons (.var 8) (.cons (.var 13) .nil))) (.cst .non)))) (.cons (.ret (.cst (.bl false)))
  .nil) .nil)
  .nil)
def ir_law_3 : Ss :=
  (.cons (.asg (.nm 13) (.bfn .tuple (.cons (.comp (.call 33 (.cons (.var 9) (.cons (.var 10) .nil))) (.tp (.cons (.nm 9) (.cons (.nm 10) .nil))) (.zip (.var 7) (.var 12)) .no [9, 10]) .nil)))
  (.cons (.ite (.call 34 (.cons (.var 11) (.cons (.call 35 (.cons (.var 12) .nil)) .nil))) (.cons (.ret (.cst (.bl false)))
  .nil) .nil)
  ir_law_4))
def ir_law_2 : Ss :=
  (.cons (.for_ (.nm 12) (.seq (.call 37 (.cons (.var 4) .nil))) ir_law_3)
  .nil)
def ir_law_1 : Ss :=
  (.cons (.asg (.nm 4) (.bfn .tuple (.cons (.comp (.tup (.cons (.bin .sub (.call 29 (.cons (.var 1) (.cons (.cst (.int 14)) .nil))) (.cst (.int 4))) (.cons (.cst (.int 1)) .nil))) (.nm 5) (.rng1 (.bin .add (.cst (.int 1)) (.call 29 (.cons (.var 1) (.cons (.cst (.int 5)) .nil))))) .no [5]) .nil)))
  (.cons (.asg (.nm 6) (.call 20 (.cons (.var 2) (.cons (.var 4) .nil))))
  (.cons (.asg (.nm 7) (.call 14 (.cons (.var 4) .nil)))
  (.cons (.asg (.nm 8) (.bfn .tuple (.cons (.comp (.call 33 (.cons (.var 9) (.cons (.var 10) .nil))) (.tp (.cons (.nm 9) (.cons (.nm 10) .nil))) (.zip (.var 7) (.var 6)) .no [9, 10]) .nil)))
  (.cons (.asg (.nm 11) (.call 35 (.cons (.var 6) .nil)))
  (.cons (.ite (.or (.cmp .notN (.call 17 (.cons (.var 4) (.cons (.var 6) .nil))) (.cst (.bl true))) (.cmp .ne (.var 11) (.call 35 (.cons (.ix (.call 15 (.cons (.var 4) .nil)) (.cst (.int 0))) .nil)))) (.cons (.ret (.cst (.bl false)))
  .nil) .nil)
  ir_law_2))))))
def ir_law_5 : Ss :=
  (.cons (.ret (.cst (.bl true)))
  .nil)
def ir_law : Ss :=
  (.cons (.asg (.nm 1) (.call 27 (.cons (.var 0) .nil)))
  (.cons (.asg (.nm 2) (.call 36 (.cons (.cst (.int 16)) .nil)))
  (.cons (.for_ (.nm 3) (.rng1 (.cst (.int 5))) ir_law_1)
  ir_law_5)))
def c_law : Ct := ⟨["script", "box", "row", "turn", "years", "k", "use", "gains", "left", "x", "part", "total", "other", "rest"], defScope (topL 50), fun _ => true, [("_law_all", 37, 1), ("_law_bending", 36, 1), ("_law_box", 27, 1), ("_law_draw", 29, 2), ("_law_less", 34, 2), ("_law_minus", 33, 2), ("_law_total", 35, 1), ("best_use", 20, 2), ("carried_at_once", 15, 1), ("gains_of", 14, 1), ("is_more_even", 24, 2), ("is_use", 17, 2), ("line_against", 26, 2)], []⟩
theorem hc_law : cSs 60 (c_law) (defBody (topL 50)) = some (ir_law) := by kernel_rfl
theorem hs_law : FnScope ["script", "box", "row", "turn", "years", "k", "use", "gains", "left", "x", "part", "total", "other", "rest"] ["script"] (defScope (topL 50)) := ⟨rfl, rfl, rfl, by decide +kernel, rfl, by decide +kernel, by decide +kernel⟩
/-! whole numbers -/
def rI (zs : List Int) : List Rat := zs.map fun z : Int => (z : Rat)
theorem rI_len {zs : List Int} : (rI zs).length = zs.length := List.length_map ..
theorem rI_get {zs : List Int} {k : Nat} : (rI zs)[k]? = zs[k]?.map fun z : Int => (z : Rat) := by unfold rI; rw [List.getElem?_map]
theorem rI_take {zs : List Int} {k : Nat} : (rI zs).take k = rI (zs.take k) := by unfold rI; rw [List.map_take]
theorem rI_app {xs ys : List Int} : rI (xs ++ ys) = rI xs ++ rI ys := List.map_append ..
theorem sm_rI : ∀ {zs : List Int}, sumR (rI zs) = ((zs.sum : Int) : Rat)
  | [] => rfl
  | z :: zs => by
    have e : rI (z :: zs) = (z : Rat) :: rI zs := rfl
    rw [e, sm_cons, sm_rI, List.sum_cons, Rat.intCast_add]
def gI (z : Int) : Int := if z < 0 then 0 else z
def lI (z : Int) : Int := if z < 0 then -z else 0
theorem gn_int {z : Int} : gn (z : Rat) = ((gI z : Int) : Rat) := by
  unfold gI
  by_cases c : z < 0
  · rw [if_pos c, gn_neg (Rat.le_of_lt (Rat.intCast_neg_iff.mpr c))]; rfl
  · rw [if_neg c]
    by_cases d : z = 0
    · subst d; exact gn_neg Rat.le_refl
    · exact gn_pos (Rat.intCast_pos.mpr (by omega))
theorem ls_int {z : Int} : ls (z : Rat) = ((lI z : Int) : Rat) := by
  unfold lI
  by_cases c : z < 0
  · rw [if_pos c, ls_neg (Rat.intCast_neg_iff.mpr c), Rat.intCast_neg]
  · rw [if_neg c, ls_pos (Rat.intCast_nonneg.mpr (by omega))]; rfl
theorem ls_rI {zs : List Int} : (rI zs).map ls = rI (zs.map lI) := by
  unfold rI
  rw [List.map_map, List.map_map]
  exact List.map_congr_left fun z _ => ls_int
theorem gn_rI {zs : List Int} : (rI zs).map gn = rI (zs.map gI) := by
  unfold rI
  rw [List.map_map, List.map_map]
  exact List.map_congr_left fun z _ => gn_int
/-- the row that bends at each whole income -/
def sl69 (k : Nat) : Rat := Rat.divInt ((k : Int) + 1) 17
def vl69 : Nat → Rat
  | 0 => 0
  | k + 1 => vl69 k + sl69 k
def pc69 (k : Nat) : Pc := ⟨((k : Int) : Rat), vl69 k, sl69 k⟩
def bnd69 : List Pc := (List.range 16).map pc69
theorem bnd_get {k : Nat} {p : Pc} (h : bnd69[k]? = some p) : k < 16 ∧ p = pc69 k := by
  unfold bnd69 at h
  rw [List.getElem?_map] at h
  by_cases c : k < 16
  · rw [List.getElem?_range c] at h
    simp at h; exact ⟨c, h.symm⟩
  · rw [List.getElem?_eq_none (by simp; omega)] at h; simp at h
theorem bnd_mem {p : Pc} (h : p ∈ bnd69) : ∃ k, k < 16 ∧ p = pc69 k := by
  obtain ⟨k, hk⟩ := List.mem_iff_getElem?.mp h
  exact ⟨k, bnd_get hk⟩
theorem sl_lt {j k : Nat} (h : j < k) : sl69 j < sl69 k := by
  unfold sl69
  rw [Rat.divInt_eq_div, Rat.divInt_eq_div, Rat.div_def, Rat.div_def]
  exact (mul_lt_r (by decide +kernel)).mpr (Rat.intCast_lt_intCast.mpr (by omega))
theorem sl_pos {k : Nat} : 0 < sl69 k := by
  unfold sl69
  rw [Rat.divInt_eq_div, Rat.div_def]
  exact Rat.mul_pos (Rat.intCast_pos.mpr (by omega)) (by decide +kernel)
theorem bnd_cx : Cx bnd69 := by
  refine ⟨⟨?_, by unfold bnd69; simp, fun p hp => ?_⟩, ?_, ?_⟩
  · unfold Asc bnd69
    rw [List.pairwise_map]
    exact List.pairwise_lt_range.imp fun h => Rat.intCast_lt_intCast.mpr (by omega)
  · have : bnd69.head? = some (pc69 0) := rfl
    rw [this] at hp
    cases hp; rfl
  · intro l a b r e
    have h0 : bnd69[l.length]? = some a := by rw [e]; simp
    have h1 : bnd69[l.length + 1]? = some b := by rw [e, show l ++ a :: b :: r = (l ++ [a]) ++ b :: r by simp, List.getElem?_append_right (by simp)]; simp
    obtain ⟨_, rfl⟩ := bnd_get h0
    obtain ⟨_, rfl⟩ := bnd_get h1
    show vl69 _ + sl69 _ * ((((l.length + 1 : Nat) : Int) : Rat) - ((l.length : Int) : Rat)) = vl69 _ + sl69 _
    have : (((l.length + 1 : Nat) : Int) : Rat) = ((l.length : Int) : Rat) + 1 := by
      rw [show ((l.length + 1 : Nat) : Int) = (l.length : Int) + 1 by omega, Rat.intCast_add]; rfl
    rw [this]; grind
  · unfold bnd69
    rw [List.pairwise_map]
    exact List.pairwise_lt_range.imp fun h => sl_lt h
theorem vl_q : ∀ k : Nat, k ≤ 16 → Qz 17 (17 * k) (vl69 k)
  | 0, _ => Qz.zero
  | k + 1, h => by
    have s : Qz 17 17 (sl69 k) := ⟨(k : Int) + 1, by unfold sl69; rw [Rat.divInt_eq_div]; grind, by omega⟩
    exact ((vl_q k (by omega)).add s).mono (by omega)
theorem bnd_sz : ∀ p ∈ bnd69, SzR 10 p.s ∧ SzR 10 p.v ∧ SzR 10 p.k := fun p hp => by
  obtain ⟨k, hk, rfl⟩ := bnd_mem hp
  refine ⟨sz_int (n := 10) (m := (k : Int)) (.lit 10 (by omega) (by omega)) (by omega), ((vl_q k (by omega)).mono (C := 272) (by omega)).sz (by decide) (by decide) (by decide), ?_⟩
  show SzR 10 (Rat.divInt ((k : Int) + 1) 17)
  exact SzR.divInt (.lit 10 (by omega) (by omega)) (.lit 10 (by decide) (by omega)) (by decide)
theorem bnd_lst : Lst bnd69 := ⟨bnd_cx, fun p hp => by obtain ⟨k, hk, rfl⟩ := bnd_mem hp; exact Rat.le_of_lt sl_pos⟩
/-- years of the law -/
structure I69 (zs : List Int) : Prop where
  ne : zs ≠ []
  len : zs.length ≤ 5
  q : ∀ z ∈ zs, -4 ≤ z ∧ z ≤ 9
theorem qi_int {z : Int} {D : Nat} : QI D (z : Rat) := by
  refine ⟨z * D, ?_⟩
  rw [Rat.intCast_mul]
theorem I69.us {zs : List Int} (h : I69 zs) : UsS bnd69 (rI zs) := by
  refine ⟨bnd_cx, ⟨bnd_cx.rw, by decide, fun p hp => ?_⟩, by rw [rI_len]; have := h.len; omega, 1, 9, by decide, by decide, by decide, fun p hp => ?_, fun y hy => ?_⟩
  · obtain ⟨a, b, c⟩ := bnd_sz p hp
    exact ⟨a.mono (by omega), b.mono (by omega), c.mono (by omega)⟩
  · obtain ⟨k, hk, rfl⟩ := bnd_mem hp
    exact qi_int
  · unfold rI at hy
    obtain ⟨z, hz, rfl⟩ := List.mem_map.mp hy
    obtain ⟨a, b⟩ := h.q z hz
    refine ⟨qi_int, ?_, Rat.intCast_le_intCast.mpr (by omega)⟩
    rw [← Rat.intCast_neg]
    exact Rat.intCast_le_intCast.mpr (by omega)
theorem ov_zero {l : List Rat} (h : ∀ x ∈ l, 0 ≤ x) : ovR l 0 = sumR l := by
  rw [ov_up]
  congr 1
  have : ∀ x ∈ l, upA 0 x = x := fun x hx => by have := h x hx; unfold upA; split <;> grind
  rw [List.map_congr_left this, List.map_id']
theorem bnd_ph {ys : List Rat} {k : Nat} (hk : k < 16) : Ph2 ys (useR bnd69 ys) ((k : Int) : Rat) := by
  have hz : pc69 k ∈ bnd69 := List.mem_map.mpr ⟨k, List.mem_range.mpr hk, rfl⟩
  exact ph_end bnd_cx (i := useN bnd69 ys) (use_none bnd_cx.rw) hz sl_pos
/-- as much is used as can be -/
theorem bnd_all {ys : List Rat} : sumR (useR bnd69 ys) = sumR (onceR ys).1 := by
  have u := use_ok (R := bnd69) bnd_cx.rw (ys := ys)
  refine Rat.le_antisymm ?_ ?_
  · have m := once_most (bnd_lst.ok (ys := ys))
    rw [(onceR_inv (ys := ys)).2.2] at m
    grind
  · have p := bnd_ph (ys := ys) (k := 0) (by decide) _ once_ok
    rw [show (((0 : Nat) : Int) : Rat) = 0 from rfl, ov_zero u.rest0, ov_zero once_ok.rest0, sum_rest u.len, sum_rest once_ok.len] at p
    grind
theorem use_most {ys us : List Rat} (h : okF 0 ys us) : sumR us ≤ sumR (onceR ys).1 := by
  have m := once_most h
  rw [(onceR_inv (ys := ys)).2.2] at m
  grind
theorem bnd_even {ys ws : List Rat} (hw : UOk ys ws) (he : sumR ws = sumR (useR bnd69 ys)) (hi : ∀ x ∈ restR ys ws, ∃ n : Nat, n < 16 ∧ x = ((n : Int) : Rat)) : Ev (restR ys (useR bnd69 ys)) (restR ys ws) := by
  have u := use_ok (R := bnd69) bnd_cx.rw (ys := ys)
  have e : (restR ys (useR bnd69 ys)).length = (restR ys ws).length := by rw [rest_len u.len, rest_len hw.len]
  have s : sumR (restR ys (useR bnd69 ys)) = sumR (restR ys ws) := by rw [sum_rest u.len, sum_rest hw.len, he]
  refine ⟨e, s, fun c => (ov_le e s c).mpr (maj_all e (maj_of e fun d hd => (ov_le e s d).mp ?_) c)⟩
  obtain ⟨n, hn, rfl⟩ := hi d hd
  exact bnd_ph hn ws hw
/-- whole uses, place by place -/
theorem ok_snoc {ys us : List Rat} {y u : Rat} (h : okF 0 ys us) (u0 : 0 ≤ u) (ug : u ≤ gn y) (uf : u ≤ sumR (ys.map ls) - sumR us) : okF 0 (ys ++ [y]) (us ++ [u]) := by
  rw [okF_app (okF_len h)]
  exact ⟨h, ⟨u0, ug, by grind⟩, trivial⟩
structure W69 (zs ns : List Int) : Prop where
  ok : okF 0 (rI zs) (rI ns)
  q : ∀ n ∈ ns, 0 ≤ n ∧ n ≤ 9
theorem W69.len {zs ns : List Int} (h : W69 zs ns) : ns.length = zs.length := by have := okF_len h.ok; rw [rI_len, rI_len] at this; exact this
theorem W69.free {zs ns : List Int} (h : W69 zs ns) : ns.sum ≤ (zs.map lI).sum := by
  have := okF_free Rat.le_refl h.ok
  rw [sm_rI, ls_rI, sm_rI] at this
  have h2 : ((ns.sum : Int) : Rat) ≤ (((zs.map lI).sum : Int) : Rat) := by grind
  exact Rat.intCast_le_intCast.mp h2
theorem W69.snoc {zs ns : List Int} {z n : Int} (h : W69 zs ns) (n0 : 0 ≤ n) (n9 : n ≤ 9) (ng : n ≤ gI z) (nf : n ≤ (zs.map lI).sum - ns.sum) : W69 (zs ++ [z]) (ns ++ [n]) := by
  refine ⟨?_, fun m hm => ?_⟩
  · rw [rI_app, rI_app]
    show okF 0 (rI zs ++ [((z : Int) : Rat)]) (rI ns ++ [((n : Int) : Rat)])
    refine ok_snoc h.ok (Rat.intCast_nonneg.mpr n0) ?_ ?_
    · show ((n : Int) : Rat) ≤ gn ((z : Int) : Rat)
      rw [gn_int]; exact Rat.intCast_le_intCast.mpr ng
    · rw [sm_rI, ls_rI, sm_rI, ← Rat.intCast_sub]
      exact Rat.intCast_le_intCast.mpr nf
  · rcases List.mem_append.mp hm with hm | hm
    · exact h.q m hm
    · simp at hm; subst hm; exact ⟨n0, n9⟩
theorem W69.rest {zs ns : List Int} (h : W69 zs ns) (iz : I69 zs) : ∀ x ∈ restR (rI zs) (rI ns), ∃ n : Nat, n < 16 ∧ x = ((n : Int) : Rat) := fun x hx => by
  have u := uok_iff.mpr h.ok
  obtain ⟨k, hk, rfl⟩ := List.getElem_of_mem hx
  have hk2 : k < (rI zs).length := by rw [rest_len u.len] at hk; exact hk
  have hk3 : k < zs.length := by rw [rI_len] at hk2; exact hk2
  have hk4 : k < ns.length := by rw [h.len]; exact hk3
  have e := rest_get u.len hk2
  rw [List.getElem?_eq_getElem hk] at e
  injection e with e
  have up := u.up k
  have ez : (rI zs).getD k 0 = ((zs[k] : Int) : Rat) := by rw [List.getD_eq_getElem?_getD, rI_get, List.getElem?_eq_getElem hk3]; rfl
  have en : (rI ns).getD k 0 = ((ns[k] : Int) : Rat) := by rw [List.getD_eq_getElem?_getD, rI_get, List.getElem?_eq_getElem hk4]; rfl
  rw [ez, en, gn_int] at up
  have up := Rat.intCast_le_intCast.mp up
  have q1 := (h.q _ (List.getElem_mem hk4)).1
  have q2 := iz.q _ (List.getElem_mem hk3)
  rw [e]
  unfold hereR
  rw [ez, en, gn_int, ← Rat.intCast_sub]
  refine ⟨(gI zs[k] - ns[k]).toNat, ?_, ?_⟩
  · unfold gI at *; split <;> omega
  · congr 1; omega
/-! promises -/
def zD (zs : List Int) : D := ysD (rI zs)
def sp_law_bending : List D → Mem → K1 → Prop := fun ds M q => ds = [.int 16] ∧ q (rowD bnd69) M
def sp_law_all : List D → Mem → K1 → Prop := fun ds M q => ∃ zs, ds = [zD zs] ∧ I69 zs ∧ ∀ (Ns : List (List Int)) a M', (∀ ns ∈ Ns, W69 zs ns) → Ns.length ≤ 100000 → M' a = some (Ns.map zD) → Sub M M' → q (.lst a) M'
def Gm : Gam := fun g => match g with
  | 0 => sp_is_whole
  | 1 => sp_common_divisor
  | 2 => sp_is_ratio
  | 3 => sp_ratio
  | 4 => sp_plus
  | 5 => sp_minus
  | 6 => sp_times
  | 7 => sp_less
  | 8 => sp_sum_of
  | 9 => sp_along
  | 10 => sp_limited
  | 11 => sp_normal
  | 12 => sp_upper
  | 13 => sp_lower
  | 14 => sp_gains_of
  | 15 => sp_carried_at_once
  | 16 => sp_rooms_ofA
  | 17 => sp_is_use
  | 18 => sp_slope_below
  | 19 => sp_least_roomA
  | 20 => sp_best_use
  | 21 => sp_ordered
  | 22 => sp_begun_sums
  | 23 => sp_first_below
  | 24 => sp_is_more_even
  | 25 => sp_over_line
  | 26 => sp_line_against
  | 27 => sp_law_box
  | 28 => sp_law_load
  | 29 => sp_law_draw
  | 30 => sp_law_divN
  | 31 => sp_law_ratio
  | 32 => sp_law_plus
  | 33 => sp_law_minus
  | 34 => sp_law_less
  | 35 => sp_law_total
  | 36 => sp_law_bending
  | 37 => sp_law_all
  | 38 => spLaw
  | _ => fun _ _ _ => False
theorem Gm_0 : Gm 0 = sp_is_whole := rfl
theorem Gm_1 : Gm 1 = sp_common_divisor := rfl
theorem Gm_2 : Gm 2 = sp_is_ratio := rfl
theorem Gm_3 : Gm 3 = sp_ratio := rfl
theorem Gm_4 : Gm 4 = sp_plus := rfl
theorem Gm_5 : Gm 5 = sp_minus := rfl
theorem Gm_6 : Gm 6 = sp_times := rfl
theorem Gm_7 : Gm 7 = sp_less := rfl
theorem Gm_8 : Gm 8 = sp_sum_of := rfl
theorem Gm_9 : Gm 9 = sp_along := rfl
theorem Gm_10 : Gm 10 = sp_limited := rfl
theorem Gm_11 : Gm 11 = sp_normal := rfl
theorem Gm_12 : Gm 12 = sp_upper := rfl
theorem Gm_13 : Gm 13 = sp_lower := rfl
theorem Gm_14 : Gm 14 = sp_gains_of := rfl
theorem Gm_15 : Gm 15 = sp_carried_at_once := rfl
theorem Gm_16 : Gm 16 = sp_rooms_ofA := rfl
theorem Gm_17 : Gm 17 = sp_is_use := rfl
theorem Gm_18 : Gm 18 = sp_slope_below := rfl
theorem Gm_19 : Gm 19 = sp_least_roomA := rfl
theorem Gm_20 : Gm 20 = sp_best_use := rfl
theorem Gm_21 : Gm 21 = sp_ordered := rfl
theorem Gm_22 : Gm 22 = sp_begun_sums := rfl
theorem Gm_23 : Gm 23 = sp_first_below := rfl
theorem Gm_24 : Gm 24 = sp_is_more_even := rfl
theorem Gm_25 : Gm 25 = sp_over_line := rfl
theorem Gm_26 : Gm 26 = sp_line_against := rfl
theorem Gm_27 : Gm 27 = sp_law_box := rfl
theorem Gm_28 : Gm 28 = sp_law_load := rfl
theorem Gm_29 : Gm 29 = sp_law_draw := rfl
theorem Gm_30 : Gm 30 = sp_law_divN := rfl
theorem Gm_31 : Gm 31 = sp_law_ratio := rfl
theorem Gm_32 : Gm 32 = sp_law_plus := rfl
theorem Gm_33 : Gm 33 = sp_law_minus := rfl
theorem Gm_34 : Gm 34 = sp_law_less := rfl
theorem Gm_35 : Gm 35 = sp_law_total := rfl
theorem Gm_36 : Gm 36 = sp_law_bending := rfl
theorem Gm_37 : Gm 37 = sp_law_all := rfl
theorem Gm_38 : Gm 38 = spLaw := rfl
local macro_rules | `(tactic| walk_at "wp") => `(tactic| simp only [wpSs, wpS, wpE, wpEs, wpO, wpC, wpT, wpTs, wpI, get, put, wipeE, clr, reps, bfW, mthW, isT_tup, isT_rat, isTy, eqW_int, eqW_bl, eqW_rat, eqW_rats, eqW_str, sl_from1, ix_rat0, ix_rat1, at0, at1, at2, at3, isWh_int, entry_eq, add_int, sub_int, imul_int, fdiv_int, mod_int, pow_int, add_str, add_tup, add_lst, mul_tup, mul_lst, min_int, max_int, min_lst, max_lst, srt_lst, cmp_isb, cmp_isntb, aug_lst, aug_add, aug_sub, aug_mul, lt_int, le_int, gt_int, ge_int, cmp_eq, cmp_ne, cmp_in, cmp_notin, cmp_is, cmp_isnt, in_tup, in_lst, isNon_int, isNon_non, isNon_tup, isNon_rat, ix_tup, ix_lst, len_tup, len_lst, len_scr, abs_int, tuple_lst, tuple_tup, list_tup, list_lst, all_lst, sset_lst, rev_tup, rev_lst, str_int, any_lst, int_int, int_bl, isT_bl, isT_int, isT_non, isT_str, isT_lst, tru_int, tru_bl, tru_non, tru_tup, tru_lst, set_lst, app_lst, popAt0, mth_c, pop_lst, ext_tup, ext_lst, idx_lst, mth_o, seq_tup, seq_lst, enum_tup, enum_lst, seqOf_tup, seqOf_lst, ezip_tup, zip_tup, zip_tl, rng1_int, rng2_int, sl_tup, sl_lst, sl_scr, ex_some, ex_some1, ex_cons, ite_t, ite_f, ix0, ix1, ix2, ix3, up_up, rat_neg, rat01, rat11,
  sp_is_whole_eq, sp_common_divisor_eq, sp_is_ratio_eq, sp_ratio_eq, sp_law_divisor_eq, sp_rr_eq, sp_over_eq, sp_law_same_eq, sp_law_box_eq, spDr_eq, sp_law_draw_eq, sp_law_mix_eq, sp_law_tape_eq, sp_law_take_eq, spinsW_eq, sp_law_divN_eq, sp_law_spoilt_eq, sp_law_bent_eq, sp_law_bentB_eq, sp_couple_of_eq, sp_plus, sp_minus, sp_times, sp_less, sp_law_ratio, sp_law_plus, sp_law_times, sp_law_load, sp_law_add, sp_law_off, sp_law_by, sp_law_less, sp_law_is_fall, sp_law_rises, sp_law_below, sp_law_minus, sp_law_total, sp_law_borne, sp_law_edges, sp_law_apart, sp_law_is_income, sp_law_is_couple, sp_upper, sp_lower, sp_law_ordered, sp_law_begun, sp_law_over,
  Gm_0, Gm_1, Gm_2, Gm_3, Gm_4, Gm_5, Gm_6, Gm_7, Gm_8, Gm_9, Gm_10, Gm_11, Gm_12, Gm_13, Gm_14, Gm_15, Gm_16, Gm_17, Gm_18, Gm_19, Gm_20, Gm_21, Gm_22, Gm_23, Gm_24, Gm_25, Gm_26, Gm_27, Gm_28, Gm_29, Gm_30, Gm_31, Gm_32, Gm_33, Gm_34, Gm_35, Gm_36, Gm_37, Gm_38,
  List.map, List.length, List.append, Nat.reduceSub, Nat.reduceAdd, Nat.sub_self, Option.some.injEq, D.int.injEq, D.bl.injEq, D.tup.injEq, D.lst.injEq, exists_eq_left', exists_eq_left, exists_eq_right, List.cons_append, List.nil_append, List.set_cons_zero, List.set_cons_succ, List.head?_cons, List.tail_cons, Ts.len,
  Bool.not_true, Bool.not_false, Bool.true_and, Bool.and_true, Bool.false_and, Bool.and_false, reduceIte, decide_true, decide_false, bne_self_eq_false, true_and, and_true, List.isEmpty_cons, List.isEmpty_nil])
theorem env14 {ρ : En} (h : ρ.length = 14) : ∃ x0 x1 x2 x3 x4 x5 x6 x7 x8 x9 x10 x11 x12 x13, ρ = x0::x1::x2::x3::x4::x5::x6::x7::x8::x9::x10::x11::x12::x13::[] := by
  obtain ⟨x0, r0, rfl, h0⟩ := len_succ h
  obtain ⟨x1, r1, rfl, h1⟩ := len_succ h0
  obtain ⟨x2, r2, rfl, h2⟩ := len_succ h1
  obtain ⟨x3, r3, rfl, h3⟩ := len_succ h2
  obtain ⟨x4, r4, rfl, h4⟩ := len_succ h3
  obtain ⟨x5, r5, rfl, h5⟩ := len_succ h4
  obtain ⟨x6, r6, rfl, h6⟩ := len_succ h5
  obtain ⟨x7, r7, rfl, h7⟩ := len_succ h6
  obtain ⟨x8, r8, rfl, h8⟩ := len_succ h7
  obtain ⟨x9, r9, rfl, h9⟩ := len_succ h8
  obtain ⟨x10, r10, rfl, h10⟩ := len_succ h9
  obtain ⟨x11, r11, rfl, h11⟩ := len_succ h10
  obtain ⟨x12, r12, rfl, h12⟩ := len_succ h11
  obtain ⟨x13, r13, rfl, h13⟩ := len_succ h12
  exact ⟨x0, x1, x2, x3, x4, x5, x6, x7, x8, x9, x10, x11, x12, x13, by rw [len_zero h13]⟩
theorem bd_is_whole : Body Gm ir_is_whole 1 1 (Gm 0) := by
  rintro ds M q hl ⟨d, rfl, hp, h⟩
  cases d <;> simp [D.pure] at hp <;> simp only [ir_is_whole] <;> walk_at "wp" <;> exact Out.mk h
theorem bd_common_divisor : Body Gm ir_common_divisor 2 2 (Gm 1) := by
  rintro ds M q hl ⟨a, b, rfl, h⟩
  simp only [ir_common_divisor] <;> walk_at "wp"
  refine ⟨fun m ρ M' => ∃ a' b' : Int, ρ = [some (.int a'), some (.int b')] ∧ M' = M ∧ 0 ≤ a' ∧ 0 ≤ b' ∧ m = b'.natAbs ∧ Int.gcd a' b' = Int.gcd a b, ⟨_, _, _, rfl, rfl, by omega, by omega, rfl, gcd_abs a b⟩, ?_⟩
  rintro m ρ M' ⟨a', b', rfl, rfl, ha, hb, rfl, hg⟩
  walk_at "wp"
  by_cases z : b' = 0
  · subst z
    simp only [bne_self_eq_false, Bool.false_eq_true, if_false]
    have : a' = (Int.gcd a b : Nat) := by rw [← hg, Int.gcd_zero_right]; omega
    rw [this]
    exact .mk h
  · rw [if_pos (by simpa using z)]
    refine ⟨_, fun ρ' M' h => h, z, ?_⟩
    refine ⟨_, ?_, _, _, rfl, rfl, hb, ?_, rfl, ?_⟩
    · rw [Int.fmod_eq_emod_of_nonneg _ hb]
      have := Int.emod_lt_of_pos a' (show 0 < b' by omega)
      have := Int.emod_nonneg a' z
      omega
    · rw [Int.fmod_eq_emod_of_nonneg _ hb]; exact Int.emod_nonneg a' z
    · rw [gcd_step]; exact hg
theorem bd_is_ratio : Body Gm ir_is_ratio 1 1 (Gm 2) := by
  rintro ds M q hl ⟨d, rfl, hp, h⟩
  simp only [ir_is_ratio]
  cases d with
  | tup es =>
    by_cases hn : es.length = 2
    · match es, hn, hp, h with
      | [a, b], _, hp, h =>
        simp only [D.pure, D.pureL, Bool.and_eq_true] at hp
        walk_at "wp"
        refine ⟨hp.1, ?_⟩
        by_cases ha : ∃ i, a = .int i
        · obtain ⟨i, rfl⟩ := ha
          walk_at "wp"
          refine ⟨hp.2.1, ?_⟩
          by_cases hb : ∃ i, b = .int i
          · obtain ⟨j, rfl⟩ := hb
            rw [isRat_int] at h
            walk_at "wp"
            by_cases z : 0 < j
            · simp only [z, decide_true, if_true, Bool.true_and] at h ⊢
              have : decide ((Int.gcd i j : Int) = 1) = decide (Int.gcd i j = 1) := by rw [Bool.eq_iff_iff]; simp; omega
              rw [this]; exact .mk h
            · simp only [z, decide_false, if_false, Bool.false_and, Bool.false_eq_true] at h ⊢
              exact .mk h
          · have e : isWh b = false := by cases b <;> first | rfl | exact (hb ⟨_, rfl⟩).elim
            rw [isRat_b (fun i e => hb ⟨i, e⟩)] at h
            simp only [e, Bool.not_false, if_true]
            exact .mk h
        · have e : isWh a = false := by cases a <;> first | rfl | exact (ha ⟨_, rfl⟩).elim
          rw [isRat_a (fun i e => ha ⟨i, e⟩)] at h
          simp only [e, Bool.not_false, if_true]
          exact .mk h
    · rw [isRat_len hn] at h
      walk_at "wp"
      rw [if_pos (by simp; omega), if_pos (by simp; omega)]
      exact .mk h
  | lst a => simp [D.pure] at hp
  | scr a ns => simp [D.pure] at hp
  | _ => walk_at "wp"; exact .mk h
theorem bd_ratio : Body Gm ir_ratio 3 2 (Gm 3) := by
  rintro ds M q hl ⟨a, b, rfl, hb, ha, hs, h⟩
  simp only [ir_ratio] <;> walk_at "wp"
  rw [if_neg (by simpa using hb)]
  have g1 : ∀ x y : Int, x ≠ 0 → Sz 8100 x → DvOk (Int.gcd y x) := fun x y z s => by
    refine Sz.dv (n := 8100) (s.of_le ?_) (by omega)
    exact Nat.le_of_dvd (by omega) (Int.natAbs_dvd_natAbs.mpr (Int.gcd_dvd_right ..))
  by_cases z : b < 0
  · rw [if_pos (by simpa using z)]
    have := gcd_pos (p := -a) (q := -b) (by omega)
    refine ⟨⟨by omega, g1 _ _ (by omega) hs.neg⟩, ⟨by omega, g1 _ _ (by omega) hs.neg⟩, ?_⟩
    rw [ratio_pos (by omega), Rat.neg_divInt_neg]
    exact .mk h
  · rw [if_neg (by simpa using z)]
    have := gcd_pos (p := a) (q := b) (by omega)
    refine ⟨⟨by omega, g1 _ _ (by omega) hs⟩, ⟨by omega, g1 _ _ (by omega) hs⟩, ?_⟩
    rw [ratio_pos (by omega)]
    exact .mk h
theorem bd_plus : Body Gm ir_plus 2 2 (Gm 4) := by
  rintro ds M q hl ⟨x, y, rfl, hx, hy, h⟩
  simp only [ir_plus] <;> walk_at "wp"
  refine ⟨hx.num.ok hy.den (by omega), hy.num.ok hx.den (by omega), hx.den.ok hy.den (by omega), Int.mul_ne_zero (den_ne x) (den_ne y), (hx.num.mul hy.den (Nat.le_refl _)).add (hy.num.mul hx.den (by omega)) (by omega), hx.den.mul hy.den (by omega), ?_⟩
  rw [rat_add]; exact .mk h
theorem bd_minus : Body Gm ir_minus 2 2 (Gm 5) := by
  rintro ds M q hl ⟨x, y, rfl, hx, hy, h⟩
  simp only [ir_minus] <;> walk_at "wp"
  refine ⟨hx.num.ok hy.den (by omega), hy.num.ok hx.den (by omega), hx.den.ok hy.den (by omega), Int.mul_ne_zero (den_ne x) (den_ne y), (hx.num.mul hy.den (Nat.le_refl _)).sub (hy.num.mul hx.den (by omega)) (by omega), hx.den.mul hy.den (by omega), ?_⟩
  rw [rat_sub]; exact .mk h
theorem bd_times : Body Gm ir_times 2 2 (Gm 6) := by
  rintro ds M q hl ⟨x, y, rfl, hx, hy, h⟩
  simp only [ir_times] <;> walk_at "wp"
  refine ⟨hx.num.ok hy.num (by omega), hx.den.ok hy.den (by omega), Int.mul_ne_zero (den_ne x) (den_ne y), hx.num.mul hy.num (by omega), hx.den.mul hy.den (by omega), ?_⟩
  rw [rat_mul]; exact .mk h
theorem bd_less : Body Gm ir_less 2 2 (Gm 7) := by
  rintro ds M q hl ⟨x, y, rfl, hx, hy, h⟩
  simp only [ir_less] <;> walk_at "wp"
  refine ⟨hx.num.ok hy.den (by omega), hy.num.ok hx.den (by omega), ?_⟩
  have : decide (x.num * ↑y.den < y.num * ↑x.den) = decide (x < y) := by rw [Bool.eq_iff_iff]; simp [Rat.lt_iff]
  rw [this]; exact .mk h
theorem bd_sum_of : Body Gm ir_sum_of 3 1 (Gm 8) := by
  rintro ds M q hl ⟨rs, hd, hr, hs, h⟩
  simp only [ir_sum_of]
  have step : ∀ i r, rs[i]? = some r → SzR 4000 (sumR (rs.take i)) ∧ SzR 4000 r ∧ sumR (rs.take i) + r = sumR (rs.take (i + 1)) := fun i r e =>
    ⟨hs i (Nat.le_of_lt (List.getElem?_eq_some_iff.mp e).1), hr r (List.mem_of_getElem? e), (sumR_take e).symm⟩
  have body : ∀ (w : D) (i : Nat) (d : D) (x y : Option D), (rs.map rat)[i]? = some d → x = some w → ∃ r, d = rat r ∧ rs[i]? = some r := by
    intro w i d x y hd _
    simp only [List.getElem?_map, Option.map_eq_some_iff] at hd
    obtain ⟨r, hr2, rfl⟩ := hd
    exact ⟨r, rfl, hr2⟩
  rcases hd with rfl | ⟨a, rfl, hM⟩
  · walk_at "wp"
    intro hz
    refine ⟨fun i ρ M' => M' = M ∧ ∃ x y, ρ = [x, some (rat (sumR (rs.take i))), y], ⟨rfl, _, _, rfl⟩, fun _ _ _ _ _ => trivial, ?_, ?_⟩
    · rintro i d ρ M' hd ⟨rfl, x, y, rfl⟩
      obtain ⟨r, rfl, hi⟩ := body .non i d _ x hd rfl
      obtain ⟨s1, s2, s3⟩ := step i r hi
      walk_at "wp"
      exact ⟨s1, s2, x, some (rat r), by rw [s3]⟩
    · rintro ρ M' ⟨rfl, x, y, rfl⟩
      rw [List.length_map, List.take_length]
      walk_at "wp"
      exact .mk h
  · walk_at "wp"
    simp only [hM, ex_some]
    intro hz
    refine ⟨fun i ρ M' => M' = M ∧ ∃ x y, ρ = [x, some (rat (sumR (rs.take i))), y], ⟨rfl, _, _, rfl⟩, ?_, ?_, ?_⟩
    · rintro i ρ M' _ ⟨rfl, _⟩; exact hM
    · rintro i d ρ M' hd ⟨rfl, x, y, rfl⟩
      obtain ⟨r, rfl, hi⟩ := body .non i d _ x hd rfl
      obtain ⟨s1, s2, s3⟩ := step i r hi
      walk_at "wp"
      exact ⟨s1, s2, x, some (rat r), by rw [s3]⟩
    · rintro ρ M' ⟨rfl, x, y, rfl⟩
      rw [List.length_map, List.take_length]
      walk_at "wp"
      exact .mk h
theorem bd_along : Body Gm ir_along 5 2 (Gm 9) := by
  rintro ds M q hl ⟨p, x, rfl, sp, hx, h⟩
  obtain ⟨h1, h2, h3⟩ := pc_at_szW sp hx
  simp only [ir_along, pc]
  walk_at "wp"
  exact ⟨hx.mono (by omega), sp.s.mono (by omega), sp.k.mono (by omega), h1.mono (by omega), sp.v.mono (by omega), h2.mono (by omega), .mk h⟩
theorem bd_limited : Body Gm ir_limited 1 1 (Gm 10) := by
  rintro ds M q hl ⟨a, xs, rfl, hm, hx, h⟩
  simp only [ir_limited]
  walk_at "wp"
  simp only [hm, ex_some]
  have : ¬ (60 : Int) < (xs.length : Nat) := by omega
  simp only [this, decide_false, ite_f, Bool.false_eq_true, if_false]
  exact .mk h
theorem bd_normal : Body Gm ir_normal 3 1 (Gm 11) := by
  rintro ds M q hl ⟨R, rfl, hR, h⟩
  simp only [ir_normal, rowD]
  walk_at "wp"
  intro f hf hz
  refine ⟨fun i ρ M' => ∃ e2, ρ = [some (.tup (R.map pc)), some (.lst f), e2] ∧ M' f = some ((normR (R.take i)).map pc) ∧ Sub M M', ⟨_, rfl, up_same, Sub.up hf⟩, fun _ _ _ _ _ => trivial, ?_, ?_⟩
  · rintro i d ρ M' hd ⟨e2, rfl, hfm, hsub⟩
    rw [List.getElem?_map, Option.map_eq_some_iff] at hd
    obtain ⟨p, hp, rfl⟩ := hd
    have sp := hR.sz p (List.mem_of_getElem? hp)
    have st : normR (R.take (i + 1)) = nstep (normR (R.take i)) p := by
      rw [List.take_add_one, hp]; exact normR_snoc
    have hsz : ∀ a ∈ normR (R.take i), SzW a := fun a ha => hR.sz a (List.mem_of_mem_take ((normR_sub _).subset ha))
    have hlen : (normR (R.take i)).length < sizeLine := by
      have h1 := (normR_sub (R.take i)).length_le
      have h2 : (R.take i).length ≤ 60 := Nat.le_trans (List.length_take_le' ..) hR.len
      exact Nat.lt_of_le_of_lt (Nat.le_trans h1 h2) (by decide)
    have up : ∀ l, Sub M (M'.up f l) := fun l r ds hr => by
      have hrf : r ≠ f := fun e => by subst e; rw [hf] at hr; cases hr
      rw [up_ne hrf]; exact hsub r ds hr
    simp only [ir_normal_1]
    try walk_at "wp"
    rw [st]
    generalize normR (R.take i) = F at *
    simp only [hfm, Option.map_some, ex_some, ex_some1, true_and]
    cases hl : F.getLast? with
    | none =>
      have e : F = [] := List.getLast?_eq_none_iff.mp hl
      subst e
      simp only [List.map_nil, List.isEmpty_nil, Bool.not_true, Bool.not_false, Bool.false_eq_true, if_false, if_true]
      refine ⟨by decide, _, rfl, ?_, up _⟩
      rw [up_same]; rfl
    | some c =>
      have hne : F ≠ [] := fun e => by subst e; simp at hl
      have emp : (F.map pc).isEmpty = false := by
        cases F with
        | nil => exact (hne rfl).elim
        | cons _ _ => rfl
      have hc : c ∈ F := List.mem_of_getLast? hl
      have nst : nstep F p = if c.k = p.k ∧ c.at p.s = p.v then F else F ++ [p] := by unfold nstep; rw [hl]
      have keep : ∃ e2', [some (D.tup (R.map pc)), some (.lst f), some (pc p)] = [some (D.tup (R.map pc)), some (.lst f), e2'] := ⟨_, rfl⟩
      have app : M'.up f (F.map pc ++ [pc p]) f = some ((F ++ [p]).map pc) := by rw [up_same]; simp
      simp only [emp, Bool.not_false, Bool.not_true, Bool.false_eq_true, if_true, if_false]
      refine ⟨pc c, atLast_of pc hl, ?_⟩
      simp only [pc]
      try walk_at "wp"
      rw [nst]
      by_cases z1 : c.k = p.k
      · simp only [z1, decide_true, Bool.not_true, Bool.false_eq_true, if_false, true_and, hfm, ex_some]
        refine ⟨pc c, atLast_of pc hl, ?_⟩
        refine ⟨c, p.s, rfl, hsz c hc, sp.s, ?_⟩
        try walk_at "wp"
        by_cases z2 : c.at p.s = p.v
        · simp only [z2, decide_true, Bool.not_true, Bool.false_eq_true, if_false, if_true]
          first
            | exact ⟨_, rfl, hfm, hsub⟩
        · simp only [z2, decide_false, Bool.not_false, if_true, if_false]
          simp only [hfm, ex_some, ex_some1, true_and]
          exact ⟨by rw [List.length_map]; exact hlen, _, rfl, app, up _⟩
      · simp only [z1, decide_false, Bool.not_false, if_true, false_and, if_false]
        simp only [hfm, ex_some, ex_some1, true_and]
        exact ⟨by rw [List.length_map]; exact hlen, _, rfl, app, up _⟩
  · rintro ρ M' ⟨e2, rfl, hfm, hsub⟩
    rw [List.length_map, List.take_length] at hfm
    simp only [ir_normal_2]
    try walk_at "wp"
    refine ⟨f, _, rfl, hfm, ?_, .sub hsub h⟩
    rw [List.length_map]
    exact Nat.le_trans (normR_sub R).length_le hR.len
theorem bd_upper : Body Gm ir_upper 2 2 (Gm 12) := by
  rintro ds M q hl ⟨x, y, rfl, sx, sy, h⟩
  simp only [ir_upper]
  walk_at "wp"
  refine ⟨sx, sy, ?_⟩
  have h : q (rat (mx x y)) M := h
  unfold mx at h
  by_cases c : x < y
  · rw [if_pos c] at h
    simp only [c, decide_true, if_true]
    exact .mk h
  · rw [if_neg c] at h
    simp only [c, decide_false, Bool.false_eq_true, if_false]
    exact .mk h
theorem bd_lower : Body Gm ir_lower 2 2 (Gm 13) := by
  rintro ds M q hl ⟨x, y, rfl, sx, sy, h⟩
  simp only [ir_lower]
  walk_at "wp"
  refine ⟨sx, sy, ?_⟩
  have h : q (rat (mn x y)) M := h
  unfold mn at h
  by_cases c : x < y
  · rw [if_pos c] at h
    simp only [c, decide_true, if_true]
    exact .mk h
  · rw [if_neg c] at h
    simp only [c, decide_false, Bool.false_eq_true, if_false]
    exact .mk h
theorem bd_gains_of : Body Gm ir_gains_of 2 1 (Gm 14) := by
  rintro ds M q hl ⟨ys, rfl, hy, h⟩
  simp only [ir_gains_of, ysD]
  walk_at "wp"
  intro hz
  refine ⟨hz, Wm ys (fun x => rat (gn x)) M, .zero, fun _ _ _ _ _ => trivial, ?_, ?_⟩
  · rintro i d acc M' hd w
    obtain ⟨x, hx, rfl⟩ := mp_get hd
    have sx := hy.sz x (List.mem_of_getElem? hx)
    try simp only [rat01]
    try walk_at "wp"
    exact ⟨sx.mono (by omega), SzR.zero.mono (by omega), w.step hx rfl⟩
  rintro acc M' hac w p hp
  obtain ⟨rfl, rfl⟩ := w.done (by rw [List.length_map])
  try simp only [up_same, ex_some]
  try walk_at "wp"
  have e : ysD (ys.map gn) = .tup (ys.map fun x => rat (gn x)) := by unfold ysD; rw [List.map_map]; rfl
  rw [e] at h
  exact .sub (Sub.up hp) h
theorem bd_carried_at_once : Body Gm ir_carried_at_once 5 1 (Gm 15) := by
  rintro ds M q hl ⟨ys, rfl, hy, hs, h⟩
  simp only [ir_carried_at_once, ysD]
  walk_at "wp"
  try simp only [rat01]
  intro f hf
  try walk_at "wp"
  intro hz
  refine ⟨fun i ρ M' => ∃ e3 e4, ρ = [some (.tup (ys.map rat)), some (rat (onceR (ys.take i)).2), some (.lst f), e3, e4] ∧ M' f = some ((onceR (ys.take i)).1.map rat) ∧ Sub M M', ⟨_, _, rfl, up_same, Sub.up hf⟩, fun _ _ _ _ _ => trivial, ?_, ?_⟩
  · rintro i d ρ M' hd ⟨e3, e4, rfl, mf, sb⟩
    obtain ⟨x, hx, rfl⟩ := mp_get hd
    have sx := hy.sz x (List.mem_of_getElem? hx)
    have sl := hs i
    have sg : SzR 40 (gn x) := gn_sz sx (by omega)
    have sm : SzR 1000 (mn (onceR (ys.take i)).2 (gn x)) := mn_sz sl (sg.mono (by omega))
    have e1 : onceR (ys.take (i + 1)) = onceS (onceR (ys.take i)) x := by rw [List.take_add_one, hx]; exact onceR_snoc
    have l1 : (onceR (ys.take i)).1.length ≤ 20 := by rw [onceR_inv.1]; exact Nat.le_trans (List.length_take_le' _ _) hy.len
    try simp only [rat01]
    try walk_at "wp"
    refine ⟨sx.mono (by omega), SzR.zero.mono (by omega), ?_⟩
    try walk_at "wp"
    refine ⟨sl.mono (by omega), sg.mono (by omega), ?_⟩
    try walk_at "wp"
    refine ⟨⟨_, mf⟩, _, mf, ?_, ?_⟩
    · rw [List.length_map]; exact Nat.lt_of_le_of_lt l1 (by decide)
    try walk_at "wp"
    refine ⟨sl.mono (by omega), sm.mono (by omega), ?_⟩
    refine ⟨SzR.zero.mono (by omega), sx.mono (by omega), ?_⟩
    refine ⟨(SzR.zero.subw sx (k := 42) (by omega)).mono (by omega), SzR.zero.mono (by omega), ?_⟩
    refine ⟨(sl.sub sm (k := 2001) (by omega)).mono (by omega), (ls_sz0 sx (m := 42) (by omega)).mono (by omega), ?_⟩
    refine ⟨some (rat x), some (rat (mn (onceR (ys.take i)).2 (gn x))), by rw [e1]; rfl, ?_, sub_set sb hf⟩
    rw [up_same, e1]; unfold onceS; simp; rfl
  · rintro ρ M' ⟨e3, e4, rfl, mf, sb⟩
    rw [List.length_map, List.take_length] at mf ⊢
    try walk_at "wp"
    refine ⟨_, mf, ?_⟩
    exact .sub sb h
theorem bd_rooms_of : Body Gm ir_rooms_of 6 2 (Gm 16) := by
  rintro ds M q hl ⟨ys, us, ud, rfl, hua, hy, hu, hlen, h⟩
  simp only [ir_rooms_of, ysD]
  walk_at "wp"
  try simp only [rat01]
  intro f hf
  try walk_at "wp"
  rcases hua with rfl | ⟨a, rfl, ma⟩
  · simp only [ysD]
    try walk_at "wp"
    intro z1 z2
    rw [zip_map2]
    have lz : (ys.zip us).length = ys.length := by rw [List.length_zip]; omega
    refine ⟨fun i ρ M' => ∃ e4 e5, ρ = [some (.tup (ys.map rat)), some (.tup (us.map rat)), some (.lst f), some (rat (sumR ((ys.take i).map ls) - sumR (us.take i))), e4, e5] ∧ M' f = some (((List.range i).map (roomR ys us)).map rat) ∧ Sub M M', ⟨_, _, by rw [show sumR ((ys.take 0).map ls) - sumR (us.take 0) = 0 from by show (0 : Rat) - 0 = 0; grind], up_same, Sub.up hf⟩, fun _ _ _ _ _ => trivial, ?_, ?_⟩
    · rintro i d ρ M' hd ⟨e4, e5, rfl, mf, sb⟩
      obtain ⟨p, hp, rfl⟩ := mp_get hd
      obtain ⟨x, u⟩ := p
      obtain ⟨hx, hv⟩ := List.getElem?_zip_eq_some.mp hp
      have hi : i < ys.length := (List.getElem?_eq_some_iff.mp hx).1
      have sx := hy.sz x (List.mem_of_getElem? hx)
      have su := hu.sz u (List.mem_of_getElem? hv)
      have s1 : SzR 1683 (sumR ((ys.take i).map ls) - sumR (us.take i)) := (hy.ls i).subw (hu.us i) (by omega)
      have e1 : sumR ((ys.take i).map ls) - sumR (us.take i) - u = roomR ys us i := by unfold roomR; rw [sumR_take hv]; grind
      have s2 := room_sz hy hu i
      have e2 : roomR ys us i + ls x = sumR ((ys.take (i + 1)).map ls) - sumR (us.take (i + 1)) := by
        unfold roomR
        rw [map_step hx, sumR_snoc]; grind
      have lt : (((List.range i).map (roomR ys us)).map rat).length < sizeLine := by
        rw [List.length_map, List.length_map, List.length_range]
        exact Nat.lt_of_lt_of_le hi (Nat.le_trans hy.len (by decide))
      try simp only [rat01]
      try walk_at "wp"
      refine ⟨s1.mono (by omega), su.mono (by omega), ?_⟩
      rw [e1]
      try walk_at "wp"
      refine ⟨⟨_, mf⟩, _, mf, lt, ?_⟩
      try walk_at "wp"
      refine ⟨SzR.zero.mono (by omega), sx.mono (by omega), ?_⟩
      refine ⟨(SzR.zero.subw sx (k := 42) (by omega)).mono (by omega), SzR.zero.mono (by omega), ?_⟩
      refine ⟨s2.mono (by omega), (ls_sz0 sx (m := 42) (by omega)).mono (by omega), ?_⟩
      refine ⟨some (rat x), some (rat u), by rw [← e2]; rfl, ?_, sub_set sb hf⟩
      rw [up_same, List.range_succ]; simp
    · rintro ρ M' ⟨e4, e5, rfl, mf, sb⟩
      rw [List.length_map, lz] at mf
      try walk_at "wp"
      refine ⟨_, mf, ?_⟩
      exact .sub sb h
  · skip
    rw [zip_tl]
    refine ⟨_, Sub.up hf _ _ ma, ?_⟩
    intro z1 z2
    rw [zip_map2]
    have lz : (ys.zip us).length = ys.length := by rw [List.length_zip]; omega
    refine ⟨fun i ρ M' => ∃ e4 e5, ρ = [some (.tup (ys.map rat)), some (.lst a), some (.lst f), some (rat (sumR ((ys.take i).map ls) - sumR (us.take i))), e4, e5] ∧ M' f = some (((List.range i).map (roomR ys us)).map rat) ∧ Sub M M', ⟨_, _, by rw [show sumR ((ys.take 0).map ls) - sumR (us.take 0) = 0 from by show (0 : Rat) - 0 = 0; grind], up_same, Sub.up hf⟩, fun _ _ _ _ h => ?_, ?_, ?_⟩
    · obtain ⟨_, _, _, _, sb⟩ := h
      exact sb _ _ ma
    · rintro i d ρ M' hd ⟨e4, e5, rfl, mf, sb⟩
      obtain ⟨p, hp, rfl⟩ := mp_get hd
      obtain ⟨x, u⟩ := p
      obtain ⟨hx, hv⟩ := List.getElem?_zip_eq_some.mp hp
      have hi : i < ys.length := (List.getElem?_eq_some_iff.mp hx).1
      have sx := hy.sz x (List.mem_of_getElem? hx)
      have su := hu.sz u (List.mem_of_getElem? hv)
      have s1 : SzR 1683 (sumR ((ys.take i).map ls) - sumR (us.take i)) := (hy.ls i).subw (hu.us i) (by omega)
      have e1 : sumR ((ys.take i).map ls) - sumR (us.take i) - u = roomR ys us i := by unfold roomR; rw [sumR_take hv]; grind
      have s2 := room_sz hy hu i
      have e2 : roomR ys us i + ls x = sumR ((ys.take (i + 1)).map ls) - sumR (us.take (i + 1)) := by
        unfold roomR
        rw [map_step hx, sumR_snoc]; grind
      have lt : (((List.range i).map (roomR ys us)).map rat).length < sizeLine := by
        rw [List.length_map, List.length_map, List.length_range]
        exact Nat.lt_of_lt_of_le hi (Nat.le_trans hy.len (by decide))
      try simp only [rat01]
      try walk_at "wp"
      refine ⟨s1.mono (by omega), su.mono (by omega), ?_⟩
      rw [e1]
      try walk_at "wp"
      refine ⟨⟨_, mf⟩, _, mf, lt, ?_⟩
      try walk_at "wp"
      refine ⟨SzR.zero.mono (by omega), sx.mono (by omega), ?_⟩
      refine ⟨(SzR.zero.subw sx (k := 42) (by omega)).mono (by omega), SzR.zero.mono (by omega), ?_⟩
      refine ⟨s2.mono (by omega), (ls_sz0 sx (m := 42) (by omega)).mono (by omega), ?_⟩
      refine ⟨some (rat x), some (rat u), by rw [← e2]; rfl, ?_, sub_set sb hf⟩
      rw [up_same, List.range_succ]; simp
    · rintro ρ M' ⟨e4, e5, rfl, mf, sb⟩
      rw [List.length_map, lz] at mf
      try walk_at "wp"
      refine ⟨_, mf, ?_⟩
      exact .sub sb h
theorem bd_is_use : Body Gm ir_is_use 5 2 (Gm 17) := by
  rintro ds M q hl ⟨ys, d, n, L, k, rfl, hy, hd, n40, h⟩
  have hp := (fD_pure hd).1
  simp only [ir_is_use, ysD]
  cases d with
  | lst a => simp [D.pure] at hp
  | scr a ns => simp [D.pure] at hp
  | tup es =>
    obtain ⟨k', rfl, hL, hm⟩ := fD_some hd
    have eb : useB ys (.tup es) = (decide (es.length = ys.length) && (es.all isRat && ((ys.zip (es.map toR)).all okU && (roomsR ys (es.map toR)).all fun r => decide (0 ≤ r)))) := rfl
    rw [eb] at h
    walk_at "wp"
    by_cases c1 : es.length = ys.length
    · have c1' : (((es.length : Nat) : Int) = (((ys.map rat).length : Nat) : Int)) := by rw [List.length_map]; omega
      simp only [c1, decide_true, Bool.true_and] at h
      simp only [c1', decide_true, Bool.not_true, Bool.false_eq_true, if_false]
      try walk_at "wp"
      intro hz
      refine ⟨hz, Wm es (fun d => .bl (isRat d)) M, .zero, fun _ _ _ _ _ => trivial, ?_, ?_⟩
      · rintro i d acc M' hd2 w
        exact ⟨(fD_pure (hm d (List.mem_of_getElem? hd2))).1, w.step hd2 rfl⟩
      rintro acc M' hac w p hp2
      obtain ⟨rfl, rfl⟩ := w.done rfl
      simp only [bl_map, up_same, ex_some, blsOf_map, all_id]
      by_cases c2 : es.all isRat = true
      · simp only [c2, Bool.true_and] at h
        simp only [c2, Bool.not_true, Bool.false_eq_true, if_false]
        have es_eq := isRats c2
        have ss := isRats_sz c2 hm
        have hlu : (es.map toR).length = ys.length := by rw [List.length_map]; exact c1
        have hu : YS (es.map toR) := ⟨by rw [hlu]; exact hy.len, fun x hx => (ss x hx).mono n40⟩
        generalize es.map toR = us at *
        subst es_eq
        have sb1 : Sub M' (M'.up p ((List.map isRat (us.map rat)).map D.bl)) := Sub.up hp2
        generalize M'.up p ((List.map isRat (us.map rat)).map D.bl) = M1 at *
        try walk_at "wp"
        refine ⟨ys, rfl, hy, ?_⟩
        simp only [ysD]
        try walk_at "wp"
        intro z1 z2
        rw [List.map_map, zip_map2]
        have lz : (us.zip ys).length ≤ 20 := by rw [List.length_zip]; have := hy.len; omega
        refine ⟨by rw [List.length_map]; exact Nat.le_trans lz (by decide), Wm (us.zip ys) (fun p => .bl (!okU (p.2, p.1))) M1, .zero, fun _ _ _ _ _ => trivial, ?_, ?_⟩
        · rintro i d acc M2 hd2 w
          obtain ⟨pr, hpr, rfl⟩ := mp_get hd2
          have hmem := List.mem_of_getElem? hpr
          have su := hu.sz _ (List.of_mem_zip hmem).1
          have sg := gn_sz (hy.sz _ (List.of_mem_zip hmem).2) (by omega)
          simp only [Function.comp]
          try simp only [rat01]
          try walk_at "wp"
          refine ⟨su.mono (by omega), SzR.zero.mono (by omega), ?_⟩
          by_cases a1 : pr.1 < 0
          · have a2 : ¬ 0 ≤ pr.1 := by grind
            simp only [a1, decide_true, if_true]
            exact w.step hpr (by simp [okU, a2])
          · have a2 : 0 ≤ pr.1 := by grind
            simp only [a1, decide_false, Bool.false_eq_true, if_false]
            try walk_at "wp"
            refine ⟨sg.mono (by omega), su.mono (by omega), ?_⟩
            refine w.step hpr ?_
            by_cases a3 : gn pr.2 < pr.1
            · have a4 : ¬ pr.1 ≤ gn pr.2 := by grind
              simp [okU, a2, a3, a4]
            · have a4 : pr.1 ≤ gn pr.2 := by grind
              simp [okU, a2, a3, a4]
        rintro acc M2 hac2 w p2 hp3
        obtain ⟨rfl, rfl⟩ := w.done (by rw [List.length_map])
        simp only [bl_map, up_same, ex_some, blsOf_map, any_id]
        have ea : (us.zip ys).any (fun p => !okU (p.2, p.1)) = !(ys.zip us).all okU := by
          exact zip_any ys us
        rw [ea]
        by_cases c3 : (ys.zip us).all okU = true
        · simp only [c3, Bool.true_and] at h
          simp only [c3, Bool.not_true, Bool.false_eq_true, if_false]
          try walk_at "wp"
          first | refine ⟨ys, us, rfl, hy, hu, hlu, ?_⟩ | refine ⟨ys, us, _, rfl, .inl rfl, hy, hu, hlu, ?_⟩
          have hr : ∀ r ∈ roomsR ys us, SzR 1683 r := fun r hr => by
            unfold roomsR at hr
            obtain ⟨j, _, rfl⟩ := List.mem_map.mp hr
            exact room_sz hy hu j
          generalize roomsR ys us = rs at *
          simp only [ysD]
          have sb2 := sb1.trans (Sub.up (ds := ((us.zip ys).map fun p => !okU (p.2, p.1)).map D.bl) hp3)
          generalize M2.up p2 (((us.zip ys).map fun p => !okU (p.2, p.1)).map D.bl) = M3 at *
          try walk_at "wp"
          intro hz3
          refine ⟨hz3, Wm rs (fun r => .bl (decide (r < 0))) M3, .zero, fun _ _ _ _ _ => trivial, ?_, ?_⟩
          · rintro i d acc M4 hd2 w
            obtain ⟨r, hr2, rfl⟩ := mp_get hd2
            try simp only [rat01]
            try walk_at "wp"
            exact ⟨(hr r (List.mem_of_getElem? hr2)).mono (by omega), SzR.zero.mono (by omega), w.step hr2 rfl⟩
          rintro acc M4 hac3 w p3 hp4
          obtain ⟨rfl, rfl⟩ := w.done (by rw [List.length_map])
          simp only [bl_map, up_same, ex_some, blsOf_map, any_id]
          have eb2 : (!rs.any fun r => decide (r < 0)) = rs.all fun r => decide (0 ≤ r) := by
            rw [List.not_any_eq_all_not]
            congr 1
            funext r
            by_cases a : r < 0
            · have : ¬ 0 ≤ r := by grind
              simp [a, this]
            · have : 0 ≤ r := by grind
              simp [a, this]
          rw [eb2]
          exact .sub (sb2.trans (Sub.up hp4)) h
        · have c3 : (ys.zip us).all okU = false := by simpa using c3
          simp only [c3, Bool.false_and] at h
          simp only [c3, Bool.not_false, if_true]
          try walk_at "wp"
          exact .sub (sb1.trans (Sub.up hp3)) h
      · have c2 : es.all isRat = false := by simpa using c2
        simp only [c2, Bool.false_and] at h
        simp only [c2, Bool.not_false, if_true]
        try walk_at "wp"
        exact .sub (Sub.up hp2) h
    · have c1' : ¬ (((es.length : Nat) : Int) = (((ys.map rat).length : Nat) : Int)) := by rw [List.length_map]; omega
      simp only [c1, decide_false, Bool.false_and] at h
      simp only [c1', decide_false, Bool.not_false, if_true]
      try walk_at "wp"
      exact .mk h
  | _ => walk_at "wp"; exact .mk h
theorem bd_slope_below : Body Gm ir_slope_below 4 2 (Gm 18) := by
  rintro ds M q hl ⟨R, x, rfl, hR, hx0, sx, h⟩
  have hN : RwW (normR R) := ⟨normR_rw hR.rw, Nat.le_trans (normR_sub R).length_le hR.len, normR_w hR.sz⟩
  simp only [ir_slope_below]
  walk_at "wp"
  refine ⟨R, rfl, hR, ?_⟩
  generalize normR R = N at *
  obtain ⟨p, hp, hpN, _⟩ := below_ex hN.rw hx0
  have e1 : slB N x = p.k := by unfold slB; rw [hp]
  have e2 : farB N x = x - p.s := by unfold farB; rw [hp]
  rw [e1, e2] at h
  simp only [rowD]
  try walk_at "wp"
  intro hz
  refine ⟨hz, Wf N (fun p => decide (p.s < x)) pc M, .zero, fun _ _ _ _ _ => trivial, ?_, ?_⟩
  · rintro j d acc M2 hd w
    obtain ⟨p, hp, rfl⟩ := mp_get hd
    have sp := hN.sz p (List.mem_of_getElem? hp)
    try simp only [pc]
    try walk_at "wp"
    refine ⟨sp.s.mono (by omega), sx.mono (by omega), ?_⟩
    by_cases c : p.s < x
    · simp only [c, decide_true, if_true]
      exact w.step hp (by simp [c]) rfl
    · simp only [c, decide_false, Bool.false_eq_true, if_false]
      exact w.skip hp (by simp [c])
  intro acc M2 hac w f hf
  obtain ⟨rfl, rfl⟩ := w.done (by rw [List.length_map])
  have hm : atI ((N.filter fun p => decide (p.s < x)).map pc) (-1) = some (pc p) := atLast_of pc hp
  have sp := hN.sz p hpN
  have sb := Sub.up (M := M2) (ds := (N.filter fun p => decide (p.s < x)).map pc) hf
  have mf : (M2.up f ((N.filter fun p => decide (p.s < x)).map pc)) f = some ((N.filter fun p => decide (p.s < x)).map pc) := up_same
  generalize M2.up f ((N.filter fun p => decide (p.s < x)).map pc) = M3 at *
  try walk_at "wp"
  try simp only [mf, ex_some]
  refine ⟨_, hm, ?_⟩
  try simp only [pc]
  try walk_at "wp"
  try simp only [mf, ex_some]
  refine ⟨_, hm, ?_⟩
  try simp only [pc]
  try walk_at "wp"
  refine ⟨sx.mono (by omega), sp.s.mono (by omega), ?_⟩
  exact .sub sb h
theorem bd_least_room : Body Gm ir_least_room 6 3 (Gm 19) := by
  rintro ds M q hl ⟨ys, us, ud, k, rfl, hua, hy, hu, hlen, hk, h⟩
  have hs : ∀ r ∈ roomsR ys us, SzR 1683 r := fun r hr => by
    unfold roomsR at hr
    obtain ⟨j, _, rfl⟩ := List.mem_map.mp hr
    exact room_sz hy hu j
  have ll : (roomsR ys us).length = ys.length := roomsR_len
  have hg := roomsR_get (ys := ys) (us := us) hk
  simp only [ir_least_room]
  walk_at "wp"
  refine ⟨ys, us, ud, rfl, hua, hy, hu, hlen, ?_⟩
  unfold lroomR at h
  generalize roomsR ys us = rs at *
  simp only [ysD]
  try walk_at "wp"
  refine ⟨_, at_map hg rfl, ?_⟩
  try walk_at "wp"
  have ec : cutD (rs.map rat) (some (k : Int)) none = (rs.drop k).map rat := by rw [cut_from (by rw [List.length_map]; omega), List.map_drop]
  rw [ec]
  have ed : rs.drop k = roomR ys us k :: rs.drop (k + 1) := by
    rw [List.drop_eq_getElem_cons (by omega), (List.getElem?_eq_some_iff.mp hg).2]
  have hs2 : ∀ r ∈ rs.drop k, SzR 1683 r := fun r hr => hs r (List.mem_of_mem_drop hr)
  rw [ed] at h hs2 ⊢
  generalize roomR ys us k = a at *
  generalize rs.drop (k + 1) = l at *
  intro hz
  refine ⟨fun i ρ M' => M' = M ∧ ∃ e5, ρ = [some (.tup (ys.map rat)), some ud, some (.int k), some (.tup (rs.map rat)), some (rat (minR (a :: l.take (i - 1)))), e5], ⟨rfl, _, rfl⟩, fun _ _ _ _ _ => trivial, ?_, ?_⟩
  · rintro i d ρ M' hd ⟨rfl, e5, rfl⟩
    obtain ⟨x, hx, rfl⟩ := mp_get hd
    have sx := hs2 x (List.mem_of_getElem? hx)
    have sm : SzR 1683 (minR (a :: l.take (i - 1))) := by
      refine hs2 _ ?_
      have := minR_mem (l := a :: l.take (i - 1)) (by simp)
      rcases List.mem_cons.mp this with h | h
      · rw [h]; simp
      · exact List.mem_cons_of_mem _ (List.mem_of_mem_take h)
    try walk_at "wp"
    refine ⟨sm.mono (by omega), sx.mono (by omega), ?_⟩
    have : mn (minR (a :: l.take (i - 1))) x = minR (a :: l.take i) := by
      cases i with
      | zero =>
        simp at hx; subst hx
        simp [minR, mn]
      | succ j =>
        rw [List.getElem?_cons_succ] at hx
        rw [List.take_add_one, hx, Nat.add_sub_cancel]
        exact (minR_step (a := a) (l := l.take j)).symm
    exact ⟨some (rat x), by rw [this]; rfl⟩
  · rintro ρ M' ⟨rfl, e5, rfl⟩
    try walk_at "wp"
    try rw [List.length_map]
    try simp only [List.length_cons, Nat.add_sub_cancel, List.take_length]
    exact .mk h
def buD (R : List Pc) (ys us : List Rat) : Option Nat → D
  | none => .non
  | some b => .tup [rat (slU R ys us b), .int (b : Nat), rat (amtU R ys us b)]
theorem pick_no {c : Nat → Bool} {f : Nat → Rat} {n : Nat} (h : c n = false) : pickU c f (n + 1) = pickU c f n := by
  rw [pick_succ]; unfold pickF; rw [h]; rfl
theorem pick_new {c : Nat → Bool} {f : Nat → Rat} {n : Nat} (h : c n = true) (e : pickU c f n = none) : pickU c f (n + 1) = some n := by
  rw [pick_succ, e]; unfold pickF; rw [h]; rfl
theorem pick_more {c : Nat → Bool} {f : Nat → Rat} {n b : Nat} (h : c n = true) (e : pickU c f n = some b) : pickU c f (n + 1) = if f b < f n then some n else some b := by
  rw [pick_succ, e]; unfold pickF; rw [h]; rfl
theorem best_use_1 {R : List Pc} {ys us : List Rat} (s : UsS R ys) (hu : YS us) (u : UOk ys us) {p : Addr} {e3 e4 e5 e6 e7 e8 e9 : Option D} {M : Mem} {F : Ed} (mp : M p = some (us.map rat))
    (hN : bestU R ys us = none → F.rt (ysD us) M)
    (hF : ∀ b, bestU R ys us = some b → ∀ e3 e4 e5 e6 e7 e8 e9, F.nx [some (rowD R), some (ysD ys), some (.lst p), e3, e4, e5, e6, e7, e8, e9] (M.up p ((us.set b (us.getD b 0 + amtU R ys us b)).map rat))) :
    wpSs Gm ir_best_use_1 [some (rowD R), some (ysD ys), some (.lst p), e3, e4, e5, e6, e7, e8, e9] M F := by
  have nR' : normR R = R := Cx.norm s.cx.up
  have hy := s.ys
  simp only [ir_best_use_1, ysD]
  walk_at "wp"
  refine ⟨ys, rfl, hy, ?_⟩
  simp only [ysD]
  try walk_at "wp"
  intro hz
  refine ⟨fun j ρ M' => M' = M ∧ ∃ e4 e5 e6 e7 e8 e9, ρ = [some (rowD R), some (.tup (ys.map rat)), some (.lst p), some (buD R ys us (pickU (candU R ys us) (slU R ys us) j)), e4, e5, e6, e7, e8, e9], ⟨rfl, _, _, _, _, _, _, rfl⟩, fun _ _ _ _ _ => trivial, ?_, ?_⟩
  · rintro j d ρ M' hd ⟨rfl, e4, e5, e6, e7, e8, e9, rfl⟩
    obtain ⟨x, hx, rfl⟩ := enumD_get hd
    obtain ⟨x, hx2, rfl⟩ := mp_get hx
    rw [List.getElem?_map] at hx2
    have hj : j < ys.length := by
      by_cases c : j < ys.length
      · exact c
      · rw [List.getElem?_eq_none (by omega)] at hx2; simp at hx2
    have ex : gn (ys.getD j 0) = x := by
      rw [gD_mem hj] at hx2
      simpa using hx2
    have hul : j < us.length := by rw [u.len]; exact hj
    have huj : (us.map rat)[j]? = some (rat (us.getD j 0)) := by rw [List.getElem?_map, gD_mem hul]; rfl
    obtain ⟨sh, sg, su⟩ := here_sz hy hu j
    have sr := lroom_sz hy hu hj
    try walk_at "wp"
    simp only [ir_best_use_2]
    try walk_at "wp"
    simp only [mp, ex_some]
    refine ⟨_, by rw [show (0 + j : Nat) = j by omega, atNat]; exact huj, ?_⟩
    try walk_at "wp"
    refine ⟨by rw [← ex]; exact sg.mono (by omega), su.mono (by omega), ?_⟩
    rw [show x - us.getD j 0 = hereR ys us j by rw [← ex]; rfl]
    try walk_at "wp"
    refine ⟨ys, us, .lst p, j, by rw [show (0 + j : Nat) = j by omega]; rfl, .inr ⟨p, rfl, mp⟩, hy, hu, u.len, hj, ?_⟩
    try walk_at "wp"
    refine ⟨z_szR (by decide), sh.mono (by omega), ?_⟩
    by_cases c1 : 0 < hereR ys us j
    · simp only [c1, decide_true, if_true]
      try walk_at "wp"
      refine ⟨z_szR (by decide), sr.mono (by omega), ?_⟩
      by_cases c2 : 0 < lroomR ys us j
      · simp only [c2, decide_true, if_true]
        obtain ⟨sb, sf⟩ := slB_sz s.n sh c1
        try walk_at "wp"
        refine ⟨R, _, rfl, s.n.w (by omega), c1, sh.mono (by omega), ?_⟩
        rw [nR']
        try walk_at "wp"
        refine ⟨z_szR (by decide), sb.mono (by omega), ?_⟩
        by_cases c3 : 0 < slB R (hereR ys us j)
        · have cj : candU R ys us j = true := cand_iff.mpr ⟨c1, c2, c3⟩
          simp only [c3, decide_true, if_true]
          cases eb : pickU (candU R ys us) (slU R ys us) j with
          | none =>
            simp only [buD]
            try simp only [D.isNon, if_true]
            try walk_at "wp"
            refine ⟨sf.mono (by omega), sr.mono (by omega), some (.int ((j : Nat) : Int)), some (rat x), some (rat (hereR ys us j)), some (rat (lroomR ys us j)), some (rat (slB R (hereR ys us j))), some (rat (farB R (hereR ys us j))), ?_⟩
            rw [pick_new cj eb, show (0 + j : Nat) = j by omega]
            rfl
          | some b =>
            have cb := ((pick_spec (c := candU R ys us) (f := slU R ys us) j).2 b eb).2.1
            obtain ⟨b1, b2, b3⟩ := cand_iff.mp cb
            have sbb := (slB_sz s.n (here_sz hy hu b).1 b1).1
            simp only [buD]
            try simp only [D.isNon, Bool.false_eq_true, if_false]
            try walk_at "wp"
            refine ⟨sbb.mono (by omega), sb.mono (by omega), ?_⟩
            by_cases c4 : slU R ys us b < slB R (hereR ys us j)
            · simp only [c4, decide_true, if_true]
              try walk_at "wp"
              refine ⟨sf.mono (by omega), sr.mono (by omega), some (.int ((j : Nat) : Int)), some (rat x), some (rat (hereR ys us j)), some (rat (lroomR ys us j)), some (rat (slB R (hereR ys us j))), some (rat (farB R (hereR ys us j))), ?_⟩
              rw [pick_more cj eb, if_pos (show slU R ys us b < slU R ys us j from c4), show (0 + j : Nat) = j by omega]
              rfl
            · simp only [c4, decide_false, Bool.false_eq_true, if_false]
              try walk_at "wp"
              refine ⟨some (.int ((0 + j : Nat) : Int)), some (rat x), some (rat (hereR ys us j)), some (rat (lroomR ys us j)), some (rat (slB R (hereR ys us j))), some (rat (farB R (hereR ys us j))), ?_⟩
              rw [pick_more cj eb, if_neg (show ¬ slU R ys us b < slU R ys us j from c4)]
        · have cj : candU R ys us j = false := by
            cases h : candU R ys us j with
            | false => rfl
            | true => exact absurd (cand_iff.mp h).2.2 c3
          simp only [c3, decide_false, Bool.false_eq_true, if_false]
          try walk_at "wp"
          try simp only [ite_self]
          rw [pick_no cj]
          exact ⟨_, _, _, _, _, _, rfl⟩
      · have cj : candU R ys us j = false := by
          cases h : candU R ys us j with
          | false => rfl
          | true => exact absurd (cand_iff.mp h).2.1 c2
        simp only [c2, decide_false, Bool.false_eq_true, if_false]
        try walk_at "wp"
        rw [pick_no cj]
        exact ⟨_, _, _, _, _, _, rfl⟩
    · have cj : candU R ys us j = false := by
        cases h : candU R ys us j with
        | false => rfl
        | true => exact absurd (cand_iff.mp h).1 c1
      simp only [c1, decide_false, Bool.false_eq_true, if_false]
      try walk_at "wp"
      rw [pick_no cj]
      exact ⟨_, _, _, _, _, _, rfl⟩
  · rintro ρ M' ⟨rfl, e4, e5, e6, e7, e8, e9, rfl⟩
    rw [enumD_length, List.length_map, List.length_map]
    rw [show pickU (candU R ys us) (slU R ys us) ys.length = bestU R ys us from rfl]
    simp only [ir_best_use_3]
    cases e : bestU R ys us with
    | none =>
      simp only [buD]
      try walk_at "wp"
      exact ⟨_, mp, hN e⟩
    | some b =>
      have pk := best_pick e
      have bl : b < us.length := by rw [u.len]; exact pk.lt
      obtain ⟨sh, sg, su⟩ := here_sz hy hu b
      obtain ⟨_, sf⟩ := slB_sz s.n sh pk.h0
      have sa : SzR 1683 (amtU R ys us b) := mn_sz (sf.mono (by omega)) (lroom_sz hy hu pk.lt)
      have hub : atI (us.map rat) ((b : Nat) : Int) = some (rat (us.getD b 0)) := by rw [atNat, List.getElem?_map, gD_mem bl]; rfl
      have hi : ixN (us.map rat).length ((b : Nat) : Int) = some b := by
        unfold ixN
        rw [if_pos (by omega), if_pos (by rw [List.length_map]; omega)]
        simp
      simp only [buD]
      try walk_at "wp"
      simp only [ir_best_use_4]
      try walk_at "wp"
      refine ⟨_, mp, _, hub, ?_⟩
      try walk_at "wp"
      refine ⟨su.mono (by omega), sa.mono (by omega), ?_⟩
      try walk_at "wp"
      refine ⟨_, mp, _, hi, ?_⟩
      have hF := hF b e (some (buD R ys us (some b))) e4 e5 e6 e7 e8 e9
      rw [List.map_set] at hF
      exact hF
theorem bd_best_use : Body Gm ir_best_use 10 2 (Gm 20) := by
  rintro ds M q hl ⟨R, ys, rfl, s, h⟩
  simp only [ir_best_use, ysD]
  walk_at "wp"
  try simp only [rat01]
  intro p0 hp0
  have sb0 := Sub.up (M := M) (ds := [rat 0]) hp0
  have m0 : (M.up p0 [rat 0]) p0 = some [rat 0] := up_same
  generalize M.up p0 [rat 0] = M0 at *
  try simp only [List.length_map]
  refine ⟨_, m0, ⟨by omega, by have := s.len; omega, by simp⟩, ?_⟩
  intro p hp
  have eR : (List.replicate ((ys.length : Nat) : Int).toNat [rat 0]).flatten = (urun R ys 0).map rat := by
    show _ = (List.replicate ys.length (0 : Rat)).map rat
    rw [Int.toNat_natCast, List.map_replicate]
    generalize ys.length = n
    induction n with
    | zero => rfl
    | succ n ih => rw [List.replicate_succ, List.replicate_succ, List.flatten_cons, ih]; rfl
  rw [eR]
  have nM : M p = none := sb0.none hp
  have sb1 := sb0.trans (Sub.up (M := M0) (ds := (urun R ys 0).map rat) hp)
  have m1 : (M0.up p ((urun R ys 0).map rat)) p = some ((urun R ys 0).map rat) := up_same
  generalize M0.up p ((urun R ys 0).map rat) = M1 at *
  refine ⟨fun m ρ M' => ∃ i e3 e4 e5 e6 e7 e8 e9, m = muU R ys (urun R ys i) ∧ ρ = [some (rowD R), some (.tup (ys.map rat)), some (.lst p), e3, e4, e5, e6, e7, e8, e9] ∧ M' p = some ((urun R ys i).map rat) ∧ Sub M M', ⟨_, 0, _, _, _, _, _, _, _, rfl, rfl, m1, sb1⟩, ?_⟩
  rintro m ρ M' ⟨i, e3, e4, e5, e6, e7, e8, e9, rfl, rfl, m', sb'⟩
  have u := UOk.run s.cx.rw (ys := ys) i
  have hu := s.us i
  try walk_at "wp"
  refine ⟨fun ρ M2 => ∃ m', m' < muU R ys (urun R ys i) ∧ ∃ j e3 e4 e5 e6 e7 e8 e9, m' = muU R ys (urun R ys j) ∧ ρ = [some (rowD R), some (.tup (ys.map rat)), some (.lst p), e3, e4, e5, e6, e7, e8, e9] ∧ M2 p = some ((urun R ys j).map rat) ∧ Sub M M2, fun _ _ h => h, ?_⟩
  refine best_use_1 s hu u m' (fun e => ?_) fun b e e3 e4 e5 e6 e7 e8 e9 => ?_
  · rw [use_at s.cx.rw e]
    exact .sub sb' h
  · have st : urun R ys (i + 1) = (urun R ys i).set b ((urun R ys i).getD b 0 + amtU R ys (urun R ys i) b) := by
      show ustep R ys _ = _
      unfold ustep; rw [e]
    refine ⟨_, muU_step s.cx.rw u e, i + 1, e3, e4, e5, e6, e7, e8, e9, by rw [st], rfl, ?_, sb'.at nM⟩
    rw [st]; exact up_same
theorem bd_ordered : Body Gm ir_ordered 4 1 (Gm 21) := by
  rintro ds M q hl ⟨xs, hd, ok, h⟩
  simp only [ir_ordered]
  have step : ∀ (e0 e2 e3 : Option D) (i : Nat) (x : Rat) (r : Addr) (M' : Mem) (F : Ed), xs[i]? = some x → M r = none → Sub M M' → M' r = some ((ordR (xs.take i)).map rat) →
      (∀ M2 e3, Sub M M2 → M2 r = some ((ordR (xs.take (i + 1))).map rat) → F.nx [e0, some (.lst r), some (rat x), e3] M2) → wpSs Gm ir_ordered_1 [e0, some (.lst r), some (rat x), e3] M' F := by
    intro e0 e2 e3 i x r M' F hx hr sb mr hF
    have st := ord_step hx
    have sx := ok.2 x (List.mem_of_getElem? hx)
    have sR : ∀ y ∈ ordR (xs.take i), SzR 1800 y := fun y hy => ok.2 y (List.mem_of_mem_take (ord_mem.mp hy))
    have lR : (ordR (xs.take i)).length ≤ 12 := by rw [ord_len]; exact Nat.le_trans (List.length_take_le' ..) ok.1
    rw [st] at hF
    generalize ordR (xs.take i) = R at *
    simp only [ir_ordered_1]
    walk_at "wp"
    simp only [mr, ex_some]
    refine ⟨⟨_, rfl⟩, ?_⟩
    intro hz2
    refine ⟨hz2, Wf R (fun y => !decide (x < y)) rat M', .zero, fun _ _ _ _ w => by rw [w.1]; exact mr, ?_, ?_⟩
    · rintro j d acc M2 hd w
      obtain ⟨y, hy, rfl⟩ := mp_get hd
      have sy := sR y (List.mem_of_getElem? hy)
      try walk_at "wp"
      refine ⟨sx.mono (by omega), sy.mono (by omega), ?_⟩
      by_cases c : x < y
      · simp only [c, decide_true, Bool.not_true, Bool.false_eq_true, if_false]
        exact w.skip hy (by simp [c])
      · simp only [c, decide_false, Bool.not_false, if_true]
        exact w.step hy (by simp [c]) rfl
    · intro acc M2 hac w p hp
      obtain ⟨rfl, rfl⟩ := w.done (by rw [List.length_map])
      have hpr : r ≠ p := ne_some mr hp
      have hn : (R.filter fun y => !decide (x < y)).length ≤ R.length := List.length_filter_le ..
      have sb2 := sb.trans (Sub.up (ds := (R.filter fun y => !decide (x < y)).map rat) hp)
      have mr2 : (M2.up p ((R.filter fun y => !decide (x < y)).map rat)) r = some (R.map rat) := by rw [up_ne hpr]; exact mr
      have mp2 : (M2.up p ((R.filter fun y => !decide (x < y)).map rat)) p = some ((R.filter fun y => !decide (x < y)).map rat) := up_same
      generalize M2.up p ((R.filter fun y => !decide (x < y)).map rat) = M3 at *
      try walk_at "wp"
      simp only [mp2, mr2, List.length_map, ex_some, ex_some1, true_and]
      refine ⟨Nat.lt_of_le_of_lt (m := 12) (by omega) (by decide), by omega, by omega, ?_⟩
      refine hF _ _ (sub_set sb2 hr) ?_
      rw [up_same]
      unfold insU
      simp [List.map_take, List.map_drop]
  have endS : ∀ {r : Addr} {M' : Mem} {e0 e2 e3 : Option D}, M r = none → Sub M M' → M' r = some ((ordR xs).map rat) → wpSs Gm ir_ordered_2 [e0, some (.lst r), e2, e3] M' ⟨fun _ M' => Out q .non M', Out q, fun _ _ => False, fun _ _ => False⟩ := fun {r M' e0 e2 e3} hr sb mr => by
    simp only [ir_ordered_2]
    walk_at "wp"
    simp only [mr, ex_some]
    exact .sub sb h
  rcases hd with rfl | ⟨a, rfl, hM⟩
  · walk_at "wp"
    intro r hr hz
    refine ⟨fun i ρ M' => Sub M M' ∧ M' r = some ((ordR (xs.take i)).map rat) ∧ ∃ e2 e3, ρ = [some (.tup (xs.map rat)), some (.lst r), e2, e3], ⟨Sub.up hr, up_same, _, _, rfl⟩, fun _ _ _ _ _ => trivial, ?_, ?_⟩
    · rintro i d ρ M' hd ⟨sb, mr, e2, e3, rfl⟩
      obtain ⟨x, hx, rfl⟩ := mp_get hd
      try walk_at "wp"
      exact step _ e2 _ i x r M' _ hx hr sb mr fun M2 e3 s2 m2 => ⟨s2, m2, _, _, rfl⟩
    · rintro ρ M' ⟨sb, mr, e2, e3, rfl⟩
      rw [List.length_map, List.take_length] at mr
      exact endS hr sb mr
  · walk_at "wp"
    intro r hr
    have ha := Sub.keepU (es := []) hr hM
    simp only [ha, ex_some]
    intro hz
    refine ⟨fun i ρ M' => Sub M M' ∧ M' r = some ((ordR (xs.take i)).map rat) ∧ ∃ e2 e3, ρ = [some (.lst a), some (.lst r), e2, e3], ⟨Sub.up hr, up_same, _, _, rfl⟩, fun _ _ _ _ h => h.1 _ _ hM, ?_, ?_⟩
    · rintro i d ρ M' hd ⟨sb, mr, e2, e3, rfl⟩
      obtain ⟨x, hx, rfl⟩ := mp_get hd
      try walk_at "wp"
      exact step _ e2 _ i x r M' _ hx hr sb mr fun M2 e3 s2 m2 => ⟨s2, m2, _, _, rfl⟩
    · rintro ρ M' ⟨sb, mr, e2, e3, rfl⟩
      rw [List.length_map, List.take_length] at mr
      exact endS hr sb mr
theorem bd_begun_sums : Body Gm ir_begun_sums 3 1 (Gm 22) := by
  rintro ds M q hl ⟨xs, rfl, ok, h⟩
  simp only [ir_begun_sums]
  walk_at "wp"
  try simp only [rat01]
  intro r hr
  have e0 : [rat 0] = ((List.range 1).map (begA xs)).map rat := rfl
  have sb := Sub.up (M := M) (ds := [rat 0]) hr
  have mr : (M.up r [rat 0]) r = some [rat 0] := up_same
  rw [e0] at sb mr ⊢
  generalize M.up r (((List.range 1).map (begA xs)).map rat) = M1 at *
  try walk_at "wp"
  refine ⟨xs, .inl rfl, ok.mono (by omega), ?_⟩
  try walk_at "wp"
  intro hz
  refine ⟨fun i ρ M' => Sub M M' ∧ M' r = some (((List.range (i + 1)).map (begA xs)).map rat) ∧ ∃ e0 e2, ρ = [e0, some (.lst r), e2], ⟨sb, mr, _, _, rfl⟩, fun _ _ _ _ _ => trivial, ?_, ?_⟩
  · rintro i d ρ M' hd ⟨sb2, mr2, e0, e2, rfl⟩
    obtain ⟨x, hx, rfl⟩ := mp_get hd
    have il := (List.getElem?_eq_some_iff.mp hx).1
    rw [ord_len] at il
    have l12 := ok.1
    have sx : SzR 150 x := ok.ord.2 x (List.mem_of_getElem? hx)
    have sA : SzR 1900 (begA xs i) := ok.beg (by omega)
    have e : begA xs i + x = begA xs (i + 1) := (sumR_take hx).symm
    have ia : atI (((List.range (i + 1)).map (begA xs)).map rat) (-1) = some (rat (begA xs i)) := by
      rw [List.range_succ, List.map_append, List.map_append]
      exact atLast _ _
    simp only [ir_begun_sums_1]
    try walk_at "wp"
    simp only [mr2, ia, ex_some]
    try walk_at "wp"
    refine ⟨⟨_, rfl⟩, sA.mono (by omega), sx.mono (by omega), ?_⟩
    try walk_at "wp"
    simp only [mr2, ex_some, ex_some1, true_and]
    refine ⟨?_, ?_⟩
    · refine Nat.le_trans (m := 40) ?_ (by decide)
      simp
      omega
    · refine ⟨sub_set sb2 hr, ?_, _, _, rfl⟩
      rw [up_same, e, List.range_succ (n := i + 1), List.map_append, List.map_append]
      rfl
  · rintro ρ M' ⟨sb2, mr2, e0, e2, rfl⟩
    rw [List.length_map, ord_len] at mr2
    simp only [ir_begun_sums_2]
    try walk_at "wp"
    simp only [mr2, ex_some]
    exact .sub sb2 h
theorem bd_first_below : Body Gm ir_first_below 5 2 (Gm 23) := by
  rintro ds M q hl ⟨a, b, rfl, oa, ob, h⟩
  simp only [ir_first_below]
  walk_at "wp"
  refine ⟨a, rfl, oa, ?_⟩
  refine ⟨b, rfl, ob, ?_⟩
  simp only [ezip_tup]
  intro _ _
  try walk_at "wp"
  have la := begR_len (xs := a)
  have lb := begR_len (xs := b)
  refine ⟨fun i ρ M' => M' = M ∧ (∀ j, j < i → ¬ begA a j < begA b j) ∧ ∃ e0 e1 e2 e3 e4, ρ = [e0, e1, e2, e3, e4], ⟨rfl, fun j hj => absurd hj (by omega), _, _, _, _, _, rfl⟩, fun _ _ _ _ _ => trivial, ?_, ?_⟩
  · rintro i d ρ M' hd ⟨rfl, hj, e0, e1, e2, e3, e4, rfl⟩
    obtain ⟨d1, h1, rfl⟩ := enumD_get hd
    obtain ⟨x, y, hx, hy, rfl⟩ := zipD_get h1
    obtain ⟨u, hu, rfl⟩ := mp_get hx
    obtain ⟨v, hv, rfl⟩ := mp_get hy
    obtain ⟨k1, rfl⟩ := begR_get hu
    obtain ⟨k2, rfl⟩ := begR_get hv
    have s1 : SzR 1900 (begA a i) := oa.beg (by omega)
    have s2 : SzR 1900 (begA b i) := ob.beg (by omega)
    rw [Nat.zero_add]
    simp only [ir_first_below_1]
    try walk_at "wp"
    refine ⟨s1.mono (by omega), s2.mono (by omega), ?_⟩
    by_cases c : begA a i < begA b i
    · simp only [c, decide_true, if_true]
      try walk_at "wp"
      rw [fb_some (k := i) (by omega) c hj] at h
      exact .mk h
    · simp only [c, decide_false, Bool.false_eq_true, if_false]
      try walk_at "wp"
      refine ⟨fun j hj2 => ?_, _, _, _, _, _, rfl⟩
      by_cases e : j = i
      · subst e; exact c
      · exact hj j (by omega)
  · rintro ρ M' ⟨rfl, hj, e0, e1, e2, e3, e4, rfl⟩
    rw [enumD_length, zipD_length, List.length_map, List.length_map, la, lb] at hj
    simp only [ir_first_below_2]
    try walk_at "wp"
    rw [fb_none.mpr fun k hk => hj k (by omega)] at h
    exact .mk h
theorem bd_is_more_even : Body Gm ir_is_more_even 2 2 (Gm 24) := by
  rintro ds M q hl ⟨a, b, rfl, oa, ob, h⟩
  simp only [ir_is_more_even]
  walk_at "wp"
  refine ⟨a, b, rfl, oa, ob, ?_⟩
  try walk_at "wp"
  rw [kD_isNon]
  exact .mk h
theorem bd_over_line : Body Gm ir_over_line 3 2 (Gm 25) := by
  rintro ds M q hl ⟨xs, c, rfl, ok, sc, h⟩
  simp only [ir_over_line]
  obtain ⟨ol, so⟩ := ok.over (m := 3000) sc (by omega)
  walk_at "wp"
  intro hz
  refine ⟨hz, Wf xs (fun x => decide (c < x)) (fun x => rat (x - c)) M, .zero, fun _ _ _ _ _ => trivial, ?_, ?_⟩
  · rintro j d acc M2 hd w
    obtain ⟨x, hx, rfl⟩ := mp_get hd
    have sx := ok.2 x (List.mem_of_getElem? hx)
    try walk_at "wp"
    refine ⟨sc.mono (by omega), sx.mono (by omega), ?_⟩
    by_cases k : c < x
    · simp only [k, decide_true, if_true]
      try walk_at "wp"
      refine ⟨sx.mono (by omega), sc.mono (by omega), ?_⟩
      exact w.step hx (by simp [k]) rfl
    · simp only [k, decide_false, Bool.false_eq_true, if_false]
      exact w.skip hx (by simp [k])
  · intro acc M2 hac w p hp
    obtain ⟨rfl, rfl⟩ := w.done (by rw [List.length_map])
    have e : ((xs.filter fun x => decide (c < x)).map fun x => rat (x - c)) = ((xs.filter fun x => decide (c < x)).map fun x => x - c).map rat := by rw [List.map_map]; rfl
    rw [e]
    have sb := Sub.up (M := M2) (ds := ((xs.filter fun x => decide (c < x)).map fun x => x - c).map rat) hp
    refine ⟨_, .inr ⟨p, rfl, up_same⟩, fun r hr => (ol.2 r hr).mono (by omega), fun i _ => (ol.take.sum (m := 3000) (by omega)).mono (by omega), ?_⟩
    exact .sub sb h
theorem bd_line_against : Body Gm ir_line_against 3 2 (Gm 26) := by
  rintro ds M q hl ⟨a, b, rfl, oa, ob, h⟩
  simp only [ir_line_against]
  walk_at "wp"
  refine ⟨b, .inl rfl, ob.mono (by omega), ?_⟩
  try walk_at "wp"
  intro hz
  refine ⟨fun i ρ M' => M' = M ∧ (∀ c ∈ (ordR b).take i, ¬ ovR b c < ovR a c) ∧ ∃ e2, ρ = [some (.tup (a.map rat)), some (.tup (b.map rat)), e2], ⟨rfl, fun c hc => by simp at hc, _, rfl⟩, fun _ _ _ _ _ => trivial, ?_, ?_⟩
  · rintro i d ρ M' hd ⟨rfl, hj, e2, rfl⟩
    obtain ⟨c, hc, rfl⟩ := mp_get hd
    have sc : SzR 120 c := ob.ord.2 c (List.mem_of_getElem? hc)
    obtain ⟨_, s1⟩ := oa.over (m := 3000) sc (by omega)
    obtain ⟨_, s2⟩ := ob.over (m := 3000) sc (by omega)
    simp only [ir_line_against_1]
    try walk_at "wp"
    refine ⟨b, c, rfl, ob, sc, ?_⟩
    refine ⟨a, c, rfl, oa, sc, ?_⟩
    try walk_at "wp"
    refine ⟨s2.mono (by omega), s1.mono (by omega), ?_⟩
    by_cases k : ovR b c < ovR a c
    · simp only [k, decide_true, if_true]
      try walk_at "wp"
      have e : laR a b = some c := by
        unfold laR
        rw [List.find?_eq_some_iff_getElem]
        refine ⟨by simpa using k, i, (List.getElem?_eq_some_iff.mp hc).1, (List.getElem?_eq_some_iff.mp hc).2, fun j hji => ?_⟩
        have := hj _ (List.mem_of_getElem? (i := j) (by rw [List.getElem?_take, if_pos hji]; exact List.getElem?_eq_getElem (Nat.lt_trans hji (List.getElem?_eq_some_iff.mp hc).1)))
        simpa using this
      rw [e] at h
      exact .mk h
    · simp only [k, decide_false, Bool.false_eq_true, if_false]
      try walk_at "wp"
      refine ⟨fun y hy => ?_, _, rfl⟩
      rw [List.take_add_one, hc] at hy
      rcases List.mem_append.mp hy with hy | hy
      · exact hj y hy
      · simp at hy; subst hy; exact k
  · rintro ρ M' ⟨rfl, hj, e2, rfl⟩
    rw [List.length_map, List.take_length] at hj
    simp only [ir_line_against_2]
    try walk_at "wp"
    have e : laR a b = none := by
      unfold laR
      rw [List.find?_eq_none]
      intro y hy
      simpa using hj y hy
    rw [e] at h
    exact .mk h
theorem bd_law_box : Body Gm ir_law_box 1 1 (Gm 27) := by
  rintro ds M q hl ⟨a, ns, rfl, hn, h⟩
  simp only [ir_law_box]
  walk_at "wp"
  refine ⟨Nat.le_trans hn (by decide), ?_⟩
  intro p hp
  simp only [up_same, ex_some]
  intro c hc b hb
  have hcp : c ≠ p := fun e => by subst e; rw [up_same] at hc; cases hc
  have hbc : b ≠ c := fun e => by subst e; rw [up_same] at hb; cases hb
  have hbp : b ≠ p := fun e => by subst e; rw [up_ne hbc, up_same] at hb; cases hb
  rw [up_ne hcp] at hc
  rw [up_ne hbc, up_ne hbp] at hb
  refine .mk (h b c _ hb hc ⟨hbc, cutD ns none (some 63), 0, 4711 + ns.length, up_same, by rw [up_ne hbc.symm, up_same], by omega, by omega, by omega, ?_⟩ (((Fr.up hp).trans .atC).trans .atB))
  unfold cutD
  rw [List.length_take, List.length_drop]
  omega
theorem bd_law_load : Body Gm ir_law_load 6 1 (Gm 28) := by
  rintro ds M q hl ⟨b, c, rfl, ⟨hne, cells, cur, seed, hb, hc, h0, h1, h2, h3⟩, h⟩
  simp only [ir_law_load]
  walk_at "wp"
  have hcb : c ≠ b := hne.symm
  have p1 : ∀ i : Int, 0 ≤ i.fmod 2147483629 := fun i => Int.fmod_nonneg_of_pos i (by omega)
  have p2 : ∀ i : Int, 0 ≤ i.fmod 2147483587 := fun i => Int.fmod_nonneg_of_pos i (by omega)
  have p3 : ∀ i : Int, 0 ≤ i.fmod 2147483563 := fun i => Int.fmod_nonneg_of_pos i (by omega)
  have l3 : ∀ i : Int, i.fmod 2147483563 < 2147483563 := fun i => Int.fmod_lt_of_pos i (by omega)
  have p4 : ∀ i : Int, 0 ≤ i.fmod 2147483647 := fun i => Int.fmod_nonneg_of_pos i (by omega)
  have l4 : ∀ i : Int, i.fmod 2147483647 < 2147483647 := fun i => Int.fmod_lt_of_pos i (by omega)
  have key : ∀ (M1 : Mem) (cur v : Int) (cells : List Int) (seed : Int), M1 b = some [.lst c, .int cur, .int seed] → M1 c = some (cells.map D.int) → 0 ≤ cur → cells.length ≤ 63 → Fr b c M M1 → 0 ≤ v → ∀ n, 0 ≤ n → n < 2147483648 →
      Out q (.int v) (M1.up b [.lst c, .int cur, .int n]) := by
    intro M1 cur v cells seed hb hc h0 h3 hf hv n hn hn2
    exact .mk (h _ _ ⟨v, rfl, hv⟩ ⟨hne, cells, cur, n, up_same, by rw [up_ne hcb]; exact hc, h0, hn, by omega, h3⟩ (hf.trans .atB))
  cases cells with
  | nil =>
    repeat (first | walk_at "wp" | simp only [hb, hc, up_same, up_ne hne, up_ne hcb, List.map, List.length, Int.natCast_zero, Int.lt_irrefl, decide_false, ite_f])
    refine ⟨mul_small_right (by decide), by decide, mul_small_right (by decide), by decide, mul_small_right (by decide), by decide, mul_small_right (by decide), mul_small_right (by decide), ?_⟩
    refine key M _ _ [] seed hb hc h0 (by simp) .refl ?_ _ (p3 _) (Int.lt_trans (l3 _) (by decide))
    exact Int.add_nonneg (Int.add_nonneg (Int.mul_nonneg (p1 _) (by decide)) (Int.mul_nonneg (p2 _) (by decide))) (p3 _)
  | cons x cs =>
    have hpos : (0 : Int) < ((List.map D.int cs).length + 1 : Nat) := by omega
    repeat (first | walk_at "wp" | simp only [hb, hc, up_same, up_ne hne, up_ne hcb, List.map, List.length, hpos, decide_true, ite_t])
    have h3' : cs.length ≤ 63 := by simp at h3; omega
    have out : ∀ v, 0 ≤ v → Out q (.int v) (M.up c (List.map D.int cs)) := fun v hv =>
      .mk (h _ _ ⟨v, rfl, hv⟩ ⟨hne, cs, cur, seed, by rw [up_ne hne]; exact hb, up_same, h0, h1, h2, h3'⟩ .atC)
    have key2 : ∀ (v n : Int), 0 ≤ v → 0 ≤ n → n < 2147483648 → Out q (.int v) ((M.up c (List.map D.int cs)).up b [.lst c, .int cur, .int n]) := fun v n hv hn hn2 =>
      key _ _ _ cs seed (by rw [up_ne hne]; exact hb) up_same h0 h3' .atC hv n hn hn2
    have pos : ∀ x y z : Int, 0 ≤ x.fmod 2147483629 * 4611686014132420609 + y.fmod 2147483587 * 2147483647 + z.fmod 2147483563 := fun x y z =>
      Int.add_nonneg (Int.add_nonneg (Int.mul_nonneg (p1 _) (by decide)) (Int.mul_nonneg (p2 _) (by decide))) (p3 _)
    refine ⟨⟨_, rfl⟩, ?_⟩
    by_cases hx : 0 ≤ x
    · simp only [hx, decide_true, ite_t]
      refine ⟨mul_small_left (by decide), ?_⟩
      by_cases hy : 1000000000000000000 ≤ 2 * x
      · simp only [hy, decide_true, ite_t]; exact out _ (by omega)
      · simp only [hy, decide_false, ite_f]
        refine ⟨mul_small_right (by decide), mul_small_right (by decide), by decide, mul_small_right (by decide), by decide, mul_small_right (by decide), by decide, mul_small_right (by decide), by decide, mul_small_right (by decide), mul_small_right (by decide), ?_⟩
        exact key2 _ _ (pos _ _ _) (p3 _) (Int.lt_trans (l3 _) (by decide))
    · simp only [hx, decide_false, ite_f]
      refine ⟨mul_small_left (by decide), ?_⟩
      by_cases hy : 1000000000000000000 ≤ -2 * x - 1
      · simp only [hy, decide_true, ite_t]; exact out _ (by omega)
      · simp only [hy, decide_false, ite_f]
        refine ⟨mul_small_right (by decide), mul_small_right (by decide), by decide, mul_small_right (by decide), by decide, mul_small_right (by decide), by decide, mul_small_right (by decide), by decide, mul_small_right (by decide), mul_small_right (by decide), ?_⟩
        exact key2 _ _ (pos _ _ _) (p3 _) (Int.lt_trans (l3 _) (by decide))
theorem bd_law_draw : Body Gm ir_law_draw 3 2 (Gm 29) := by
  rintro ds M q hl ⟨b, c, many, rfl, bx, hm, hs, h⟩
  have hbx := bx
  obtain ⟨hne, cells, cur, seed, hb, hc, h0, h1, h2, h3⟩ := bx
  have hcb : c ≠ b := hne.symm
  simp only [ir_law_draw]
  walk_at "wp"
  have key : ∀ M1 (cur : Int) (cells : List Int) (seed : Int), M1 c = some (cells.map D.int) → 0 ≤ cur → 0 ≤ seed → seed < 4294967296 → cells.length ≤ 63 → Fr b c M M1 → Out q (.int (cur.fmod many)) (M1.up b [.lst c, .int (cur.fdiv many), .int seed]) := by
    intro M1 cur cells seed hc h0 h1 h2 h3 hf
    refine .mk (h _ _ (Int.fmod_nonneg_of_pos _ hm) (Int.fmod_lt_of_pos _ hm) ⟨hne, cells, cur.fdiv many, seed, up_same, by rw [up_ne hcb]; exact hc, ?_, h1, h2, h3⟩ (hf.trans .atB))
    rw [Int.fdiv_eq_ediv_of_nonneg _ (by omega)]
    exact Int.ediv_nonneg h0 (by omega)
  have hd := hs.dv (by omega)
  by_cases z : cur < many
  · repeat (first | walk_at "wp" | simp only [hb, hc, up_same, up_ne hne, up_ne hcb, List.map, List.length, z, decide_true, ite_t])
    refine ⟨c, hbx, ?_⟩
    rintro d M' ⟨v, rfl, hv⟩ ⟨_, cells, cur, seed, hb, hc, h0, h1, h2, h3⟩ hf
    repeat (first | walk_at "wp" | simp only [hb, hc, up_same, up_ne hne, up_ne hcb, List.map, List.length])
    refine ⟨by omega, ⟨by omega, hd⟩, ?_⟩
    first
      | exact key _ _ _ _ (by rw [up_ne hcb]; exact hc) hv h1 h2 h3 (hf.trans .atB)
      | exact key _ _ _ _ hc hv h1 h2 h3 hf
  · repeat (first | walk_at "wp" | simp only [hb, hc, up_same, up_ne hne, up_ne hcb, List.map, List.length, z, decide_false, ite_f])
    refine ⟨by omega, ⟨by omega, hd⟩, ?_⟩
    exact key _ _ _ _ hc h0 h1 h2 h3 .refl
theorem bd_law_divisor : Body Gm ir_law_divisor 2 2 (Gm 30) := by
  rintro ds M q hl ⟨a, b, rfl, a0, b0, sa, sb, h⟩
  simp only [ir_law_divisor] <;> walk_at "wp"
  refine ⟨fun m ρ M' => ∃ a' b' : Int, ρ = [some (.int a'), some (.int b')] ∧ M' = M ∧ 0 ≤ a' ∧ 0 ≤ b' ∧ m = b'.natAbs ∧ Int.gcd a' b' = Int.gcd a b ∧ Sz 8200 a' ∧ Sz 8200 b', ⟨_, _, _, rfl, rfl, a0, b0, rfl, rfl, sa, sb⟩, ?_⟩
  rintro m ρ M' ⟨a', b', rfl, rfl, ha, hb, rfl, hg, sa', sb'⟩
  walk_at "wp"
  by_cases z : b' = 0
  · subst z
    simp only [decide_true, Bool.not_true, ite_f]
    have : a' = (Int.gcd a b : Nat) := by rw [← hg, Int.gcd_zero_right]; omega
    rw [this]
    exact .mk h
  · simp only [z, decide_false, Bool.not_false, ite_t]
    have e1 : a' - a'.fdiv b' * b' = a'.fmod b' := by rw [Int.fmod_def, Int.mul_comm]
    refine ⟨_, fun ρ' M' h => h, ⟨fun e => z e, sb'.dv (by omega)⟩, (sa'.fdiv (by omega)).ok sb' (by omega), ?_⟩
    rw [e1]
    have m1 := Int.emod_lt_of_pos a' (show 0 < b' by omega)
    have m2 := Int.emod_nonneg a' z
    rw [Int.fmod_eq_emod_of_nonneg _ hb]
    refine ⟨_, by omega, _, _, rfl, rfl, hb, m2, rfl, ?_, sb', sb'.of_le (by omega)⟩
    rw [← Int.fmod_eq_emod_of_nonneg _ hb, gcd_step]; exact hg
theorem bd_law_ratio : Body Gm ir_law_ratio 3 2 (Gm 31) := by
  rintro ds M q hl ⟨a, b, rfl, hb, ha, hs, h⟩
  have e0 : Int.gcd ((a.natAbs : Nat) : Int) ((b.natAbs : Nat) : Int) = Int.gcd a b := by unfold Int.gcd; simp
  simp only [ir_law_ratio]
  walk_at "wp"
  refine ⟨by omega, by omega, (ha.mono (n := 8200) (by omega)).of_le (by omega), (hs.mono (n := 8200) (by omega)).of_le (by omega), ?_⟩
  rw [e0]
  have g2 : 0 < Int.gcd a b := by
    have := Int.gcd_pos_of_ne_zero_right a hb
    exact this
  have g1 : DvOk (Int.gcd a b) := by
    refine Sz.dv (n := 8100) (hs.of_le ?_) (by omega)
    exact Nat.le_of_dvd (by omega) (Int.natAbs_dvd_natAbs.mpr (Int.gcd_dvd_right ..))
  by_cases z : 0 < b
  · simp only [z, decide_true, if_true]
    try walk_at "wp"
    refine ⟨⟨by omega, g1⟩, ⟨by omega, g1⟩, ?_⟩
    rw [ratio_pos z]
    exact .mk h
  · simp only [z, decide_false, Bool.false_eq_true, if_false]
    try walk_at "wp"
    refine ⟨⟨by omega, g1⟩, ⟨by omega, g1⟩, ?_⟩
    have e1 : Int.gcd a b = Int.gcd (-a) (-b) := by unfold Int.gcd; simp
    rw [e1, ratio_pos (show 0 < -b by omega), Rat.neg_divInt_neg]
    exact .mk h
theorem bd_law_plus : Body Gm ir_law_plus 2 2 (Gm 32) := by
  rintro ds M q hl ⟨x, y, rfl, hx, hy, h⟩
  simp only [ir_law_plus] <;> walk_at "wp"
  refine ⟨hx.num.ok hy.den (by omega), hy.num.ok hx.den (by omega), hx.den.ok hy.den (by omega), Int.mul_ne_zero (den_ne x) (den_ne y), (hx.num.mul hy.den (Nat.le_refl _)).add (hy.num.mul hx.den (by omega)) (by omega), hx.den.mul hy.den (by omega), ?_⟩
  rw [rat_add]; exact .mk h
theorem bd_law_minus : Body Gm ir_law_minus 2 2 (Gm 33) := by
  rintro ds M q hl ⟨x, y, rfl, hx, hy, h⟩
  simp only [ir_law_minus] <;> walk_at "wp"
  refine ⟨hx.num.ok hy.den (by omega), hy.num.ok hx.den (by omega), hx.den.ok hy.den (by omega), Int.mul_ne_zero (den_ne x) (den_ne y), (hx.num.mul hy.den (Nat.le_refl _)).sub (hy.num.mul hx.den (by omega)) (by omega), hx.den.mul hy.den (by omega), ?_⟩
  rw [rat_sub]; exact .mk h
theorem bd_law_less : Body Gm ir_law_less 2 2 (Gm 34) := by
  rintro ds M q hl ⟨x, y, rfl, hx, hy, h⟩
  simp only [ir_law_less] <;> walk_at "wp"
  refine ⟨hx.num.ok hy.den (by omega), hy.num.ok hx.den (by omega), ?_⟩
  have : decide (x.num * ↑y.den < y.num * ↑x.den) = decide (x < y) := by rw [Bool.eq_iff_iff]; simp [Rat.lt_iff]
  rw [this]; exact .mk h
theorem bd_law_total : Body Gm ir_law_total 3 1 (Gm 35) := by
  rintro ds M q hl ⟨rs, hd, hr, hs, h⟩
  simp only [ir_law_total]
  have step : ∀ i r, rs[i]? = some r → SzR 4000 (sumR (rs.take i)) ∧ SzR 4000 r ∧ sumR (rs.take i) + r = sumR (rs.take (i + 1)) := fun i r e =>
    ⟨hs i (Nat.le_of_lt (List.getElem?_eq_some_iff.mp e).1), hr r (List.mem_of_getElem? e), (sumR_take e).symm⟩
  have body : ∀ (w : D) (i : Nat) (d : D) (x y : Option D), (rs.map rat)[i]? = some d → x = some w → ∃ r, d = rat r ∧ rs[i]? = some r := by
    intro w i d x y hd _
    simp only [List.getElem?_map, Option.map_eq_some_iff] at hd
    obtain ⟨r, hr2, rfl⟩ := hd
    exact ⟨r, rfl, hr2⟩
  rcases hd with rfl | ⟨a, rfl, hM⟩
  · walk_at "wp"
    intro hz
    refine ⟨fun i ρ M' => M' = M ∧ ∃ x y, ρ = [x, some (rat (sumR (rs.take i))), y], ⟨rfl, _, _, rfl⟩, fun _ _ _ _ _ => trivial, ?_, ?_⟩
    · rintro i d ρ M' hd ⟨rfl, x, y, rfl⟩
      obtain ⟨r, rfl, hi⟩ := body .non i d _ x hd rfl
      obtain ⟨s1, s2, s3⟩ := step i r hi
      walk_at "wp"
      exact ⟨s1, s2, x, some (rat r), by rw [s3]⟩
    · rintro ρ M' ⟨rfl, x, y, rfl⟩
      rw [List.length_map, List.take_length]
      walk_at "wp"
      exact .mk h
  · walk_at "wp"
    simp only [hM, ex_some]
    intro hz
    refine ⟨fun i ρ M' => M' = M ∧ ∃ x y, ρ = [x, some (rat (sumR (rs.take i))), y], ⟨rfl, _, _, rfl⟩, ?_, ?_, ?_⟩
    · rintro i ρ M' _ ⟨rfl, _⟩; exact hM
    · rintro i d ρ M' hd ⟨rfl, x, y, rfl⟩
      obtain ⟨r, rfl, hi⟩ := body .non i d _ x hd rfl
      obtain ⟨s1, s2, s3⟩ := step i r hi
      walk_at "wp"
      exact ⟨s1, s2, x, some (rat r), by rw [s3]⟩
    · rintro ρ M' ⟨rfl, x, y, rfl⟩
      rw [List.length_map, List.take_length]
      walk_at "wp"
      exact .mk h
theorem bd_law_bending : Body Gm ir_law_bending 5 1 (Gm 36) := by
  rintro ds M q hl ⟨rfl, h⟩
  simp only [ir_law_bending]
  walk_at "wp"
  try simp only [rat01]
  intro f hf
  try walk_at "wp"
  refine ⟨by decide, by decide, fun i ρ M' => ∃ e3 e4, ρ = [some (.int 16), some (.lst f), some (rat (vl69 i)), e3, e4] ∧ M' f = some (((List.range i).map pc69).map pc) ∧ Sub M M', ⟨_, _, rfl, up_same, Sub.up hf⟩, fun _ _ _ _ _ => trivial, ?_, ?_⟩
  · rintro i d ρ M' hd ⟨e3, e4, rfl, mf, sb⟩
    obtain ⟨hi, rfl, _⟩ := rng_get hd
    have hi : i < 16 := hi
    have sv : SzR 10 (vl69 i) := ((vl_q i (by omega)).mono (C := 272) (by omega)).sz (by decide) (by decide) (by decide)
    have sk : SzR 10 (sl69 i) := by
      show SzR 10 (Rat.divInt ((i : Int) + 1) 17)
      exact SzR.divInt (.lit 10 (by omega) (by omega)) (.lit 10 (by decide) (by omega)) (by decide)
    rw [show (0 + (i : Int)) = (i : Int) by omega]
    try walk_at "wp"
    refine ⟨by decide, .lit 8 (by omega) (by omega), .lit 8 (by decide) (by omega), ?_⟩
    rw [show Rat.divInt ((i : Int) + 1) (16 + 1) = sl69 i from rfl]
    try walk_at "wp"
    refine ⟨⟨_, mf⟩, _, mf, ?_, ?_⟩
    · rw [List.length_map, List.length_map, List.length_range]; exact Nat.lt_trans hi (by decide)
    try walk_at "wp"
    refine ⟨sv.mono (by omega), sk.mono (by omega), ?_⟩
    refine ⟨_, _, rfl, ?_, sub_set sb hf⟩
    rw [up_same, List.range_succ, List.map_append, List.map_append, ratI]; rfl
  · rintro ρ M' ⟨e3, e4, rfl, mf, sb⟩
    try walk_at "wp"
    refine ⟨_, mf, ?_⟩
    exact .sub sb h
def iD (z : Int) : D := .tup [.int z, .int 1]
theorem zD_eq {zs : List Int} : zD zs = .tup (zs.map iD) := by
  unfold zD ysD rI
  rw [List.map_map]
  refine congrArg D.tup (List.map_congr_left fun z _ => ratI.symm)
theorem ints_of {zs : List Int} : intsOf (zs.map D.int) = some zs := by
  induction zs with
  | nil => rfl
  | cons z zs ih => show (intsOf (zs.map D.int)).map (z :: ·) = _; rw [ih]; rfl
theorem lost_sum {zs : List Int} : ((zs.filter fun z => decide (z < 0)).map fun z => -z).sum = (zs.map lI).sum := by
  induction zs with
  | nil => rfl
  | cons z zs ih =>
    rw [List.map_cons, List.sum_cons, ← ih]
    unfold lI
    by_cases c : z < 0
    · simp [List.filter_cons, c]
    · simp [List.filter_cons, c]
theorem law_all_2 {zs : List Int} (iz : I69 zs) {k : Nat} (hk : k < zs.length) {Ns Ls : List (List Int)} {ns : List Int} (w : W69 (zs.take k) ns) (hL : ∀ l ∈ Ls, W69 (zs.take (k + 1)) l) (lL : Ls.length ≤ 100000) {a b : Addr} {M0 M : Mem} {F : Ed} {e5 e6 e7 e8 : Option D} (ha : M a = some (Ns.map zD)) (hb : M b = some (Ls.map zD)) (nb : M0 b = none) (sb : Sub M0 M)
    (hF : ∀ (Ls' : List (List Int)) (M' : Mem) e5 e6 e7 e8, (∀ l ∈ Ls', W69 (zs.take (k + 1)) l) → Ls'.length ≤ Ls.length + 10 → M' a = some (Ns.map zD) → M' b = some (Ls'.map zD) → Sub M0 M' → F.nx [some (zD zs), some (.lst a), some (.int (k : Nat)), some (.lst b), some (zD ns), e5, e6, e7, e8] M') (ab : a ≠ b) :
    wpSs Gm ir_law_all_2 [some (zD zs), some (.lst a), some (.int (k : Nat)), some (.lst b), some (zD ns), e5, e6, e7, e8] M F := by
  have h5 := iz.len
  have hz := iz.q
  have fr := w.free
  have wl := w.len
  rw [List.length_take] at wl
  simp only [ir_law_all_2]
  walk_at "wp"
  simp only [zD_eq]
  try walk_at "wp"
  rw [cut_to (by rw [List.length_map]; omega), ← List.map_take]
  intro hz1
  refine ⟨hz1, Wf (zs.take k) (fun z => decide (z < 0)) (fun z => D.int (-z)) M, .zero, fun _ _ _ _ _ => trivial, ?_, ?_⟩
  · rintro j d acc M2 hd w
    obtain ⟨z, hz, rfl⟩ := mp_get hd
    try simp only [iD]
    try walk_at "wp"
    by_cases c : z < 0
    · simp only [c, decide_true, if_true]
      exact w.step hz (decide_eq_true c) rfl
    · simp only [c, decide_false, Bool.false_eq_true, if_false]
      exact w.skip hz (decide_eq_false c)
  intro acc M2 hac wf p hp
  obtain ⟨rfl, rfl⟩ := wf.done (by rw [List.length_map])
  have e1 : ((zs.take k).filter fun z => decide (z < 0)).map (fun z => D.int (-z)) = (((zs.take k).filter fun z => decide (z < 0)).map fun z => -z).map D.int := by rw [List.map_map]; rfl
  rw [e1]
  try walk_at "wp"
  refine ⟨_, _, up_same, ints_of, ?_⟩
  rw [lost_sum]
  have sb1 := sb.trans (Sub.up (M := M2) (ds := (((zs.take k).filter fun z => decide (z < 0)).map fun z => -z).map D.int) hp)
  have ha1 := Sub.up (M := M2) (ds := (((zs.take k).filter fun z => decide (z < 0)).map fun z => -z).map D.int) hp _ _ ha
  have hb1 := Sub.up (M := M2) (ds := (((zs.take k).filter fun z => decide (z < 0)).map fun z => -z).map D.int) hp _ _ hb
  generalize M2.up p ((((zs.take k).filter fun z => decide (z < 0)).map fun z => -z).map D.int) = M3 at *
  have hk2 : zs[k]? = some (zs[k]'hk) := List.getElem?_eq_getElem hk
  have hzk := hz _ (List.getElem_mem hk)
  have et : zs.take (k + 1) = zs.take k ++ [zs[k]'hk] := by rw [List.take_add_one, hk2]; rfl
  generalize zs[k]'hk = z at *
  have ik : atI (zs.map iD) ((k : Nat) : Int) = some (iD z) := by rw [atNat, List.getElem?_map, hk2]; rfl
  refine ⟨_, ik, ?_⟩
  simp only [iD]
  try walk_at "wp"
  try simp only [max_int]
  intro hz2
  refine ⟨hz2, Wm ns (fun n => D.int n) M3, .zero, fun _ _ _ _ _ => trivial, ?_, ?_⟩
  · rintro j d acc M4 hd wm
    obtain ⟨n, hn, rfl⟩ := mp_get hd
    simp only [iD]
    try walk_at "wp"
    exact wm.step hn rfl
  intro acc M4 hac wm p2 hp2
  obtain ⟨rfl, rfl⟩ := wm.done (by rw [List.length_map])
  refine ⟨_, _, up_same, ints_of, ?_⟩
  have sb2 := sb1.trans (Sub.up (M := M4) (ds := ns.map D.int) hp2)
  have ha2 := Sub.up (M := M4) (ds := ns.map D.int) hp2 _ _ ha1
  have hb2 := Sub.up (M := M4) (ds := ns.map D.int) hp2 _ _ hb1
  generalize M4.up p2 (ns.map D.int) = M5 at *
  have eg : (if z < 0 then (0 : Int) else z) = gI z := rfl
  rw [eg]
  try walk_at "wp"
  try simp only [min_int]
  obtain ⟨m, hm⟩ : ∃ m, m = if (List.map lI (List.take k zs)).sum - ns.sum < gI z then (List.map lI (List.take k zs)).sum - ns.sum else gI z := ⟨_, rfl⟩
  rw [← hm]
  have gz : 0 ≤ gI z ∧ gI z ≤ 9 := by unfold gI; split <;> omega
  have m0 : 0 ≤ m ∧ m ≤ 9 ∧ m ≤ gI z ∧ m ≤ (List.map lI (List.take k zs)).sum - ns.sum := by rw [hm]; split <;> omega
  have en : (m + 1).toNat ≤ 10 := by omega
  have nl5 : ns.length ≤ 5 := by rw [wl]; omega
  refine ⟨⟨_, hb2⟩, by omega, by omega, Nat.le_trans (m := 10) (by rw [rngD_len]; exact en) (by decide), Wm (List.range (m + 1).toNat) (fun j => D.tup (ns.map iD ++ [D.tup [.int ((j : Nat) : Int), .int 1]])) M5, .zero, fun _ _ _ _ _ => trivial, ?_, ?_⟩
  · rintro j d acc M6 hd wm
    obtain ⟨hj, rfl, hr⟩ := rng_get hd
    refine ⟨Nat.le_trans (m := 6) (by rw [List.length_map]; omega) (by decide), ?_⟩
    rw [show (0 + (j : Int)) = (j : Int) by omega]
    exact wm.step hr rfl
  intro acc M6 hac wm p3 hp3
  obtain ⟨rfl, rfl⟩ := wm.done (by simp [rngD])
  have e2 : (List.range (m + 1).toNat).map (fun j => D.tup (ns.map iD ++ [D.tup [.int ((j : Nat) : Int), .int 1]])) = ((List.range (m + 1).toNat).map fun j => ns ++ [((j : Nat) : Int)]).map zD := by
    rw [List.map_map]
    refine List.map_congr_left fun j _ => ?_
    show _ = zD (ns ++ [((j : Nat) : Int)])
    rw [zD_eq, List.map_append]; rfl
  rw [e2]
  have nb5 : ∀ ds, M6.up p3 ds b = some (Ls.map zD) := fun ds => Sub.up hp3 _ _ hb2
  refine ⟨_, nb5 _, _, up_same, ?_, ?_⟩
  · rw [List.length_map, List.length_map, List.length_map, List.length_range]
    exact Nat.le_trans (m := 100010) (by omega) (by decide)
  rw [← List.map_append]
  have hF2 := hF (Ls ++ (List.range (m + 1).toNat).map fun j => ns ++ [((j : Nat) : Int)])
  simp only [zD_eq] at hF2
  refine hF2 _ _ _ _ _ ?_ ?_ ?_ ?_ ?_
  · intro l hl
    rcases List.mem_append.mp hl with hl | hl
    · exact hL l hl
    · obtain ⟨j, hj, rfl⟩ := List.mem_map.mp hl
      have hj := List.mem_range.mp hj
      rw [et]
      exact w.snoc (by omega) (by omega) (by omega) (by omega)
  · rw [List.length_append, List.length_map, List.length_range]; omega
  · rw [up_ne ab]; exact Sub.up hp3 _ _ ha2
  · exact up_same
  · exact (sb2.trans (Sub.up hp3)).at nb
theorem bd_law_all : Body Gm ir_law_all 9 1 (Gm 37) := by
  rintro ds M q hl ⟨zs, rfl, iz, h⟩
  have h5 := iz.len
  simp only [ir_law_all]
  walk_at "wp"
  intro a ha
  simp only [zD_eq]
  try walk_at "wp"
  rw [List.length_map]
  have ea : (M.up a [D.tup []]) a = some ([[]].map zD) := by rw [up_same, List.map_cons, zD_eq]; rfl
  have sa := Sub.up (M := M) (ds := [D.tup []]) ha
  generalize M.up a [D.tup []] = M1 at *
  refine ⟨by omega, by omega, fun i ρ M' => ∃ (a : Addr) (Ns : List (List Int)), ∃ e2 e3 e4 e5 e6 e7 e8, ρ = [some (.tup (zs.map iD)), some (.lst a), e2, e3, e4, e5, e6, e7, e8] ∧ (∀ ns ∈ Ns, W69 (zs.take i) ns) ∧ Ns.length ≤ 10 ^ i ∧ M' a = some (Ns.map zD) ∧ Sub M M', ⟨a, [[]], _, _, _, _, _, _, _, rfl, fun ns hns => ?_, by simp, ea, sa⟩, fun _ _ _ _ _ => trivial, ?_, ?_⟩
  · simp at hns; subst hns
    exact ⟨trivial, by simp⟩
  · rintro i d ρ M' hd ⟨a, Ns, e2, e3, e4, e5, e6, e7, e8, rfl, hN, lN, ma, sb⟩
    obtain ⟨hi, rfl, _⟩ := rng_get hd
    have hi : i < zs.length := by omega
    have p4 : 10 ^ i ≤ 10 ^ 4 := Nat.pow_le_pow_right (by decide) (by omega)
    have l4 : Ns.length ≤ 10000 := Nat.le_trans lN p4
    rw [show (0 + (i : Int)) = (i : Int) by omega]
    try walk_at "wp"
    simp only [ir_law_all_1]
    try walk_at "wp"
    intro b hb
    have nM : M b = none := sb.none hb
    have ab : a ≠ b := ne_some ma hb
    have mb : (M'.up b []) b = some (([] : List (List Int)).map zD) := up_same
    have ma2 := Sub.up (M := M') (ds := []) hb _ _ ma
    have sb2 := sb.trans (Sub.up (M := M') (ds := []) hb)
    generalize M'.up b [] = M2 at *
    try walk_at "wp"
    refine ⟨_, ma2, ?_⟩
    intro hz
    refine ⟨fun j ρ M' => ∃ Ls : List (List Int), ∃ e4 e5 e6 e7 e8, ρ = [some (.tup (zs.map iD)), some (.lst a), some (.int (i : Nat)), some (.lst b), e4, e5, e6, e7, e8] ∧ (∀ l ∈ Ls, W69 (zs.take (i + 1)) l) ∧ Ls.length ≤ j * 10 ∧ M' a = some (Ns.map zD) ∧ M' b = some (Ls.map zD) ∧ Sub M M', ⟨[], _, _, _, _, _, rfl, by simp, by simp, ma2, mb, sb2⟩, fun _ _ _ _ h => ?_, ?_, ?_⟩
    · obtain ⟨_, _, _, _, _, _, _, _, _, ma, _⟩ := h
      exact ma
    · rintro j d ρ M3 hd ⟨Ls, e4, e5, e6, e7, e8, rfl, hL, lL, ma3, mb3, sb3⟩
      obtain ⟨ns, hns, rfl⟩ := mp_get hd
      have hj : j < Ns.length := (List.getElem?_eq_some_iff.mp hns).1
      try walk_at "wp"
      simp only [← zD_eq (zs := zs)]
      exact law_all_2 iz hi (hN ns (List.mem_of_getElem? hns)) hL (by omega) ma3 mb3 nM sb3 (fun Ls' M' e5 e6 e7 e8 h1 h2 h3 h4 h5 => ⟨Ls', _, e5, e6, e7, e8, rfl, h1, by omega, h3, h4, h5⟩) ab
    · rintro ρ M3 ⟨Ls, e4, e5, e6, e7, e8, rfl, hL, lL, ma3, mb3, sb3⟩
      rw [List.length_map] at lL
      simp only [ir_law_all_3]
      try walk_at "wp"
      refine ⟨b, Ls, _, _, _, _, _, _, _, rfl, hL, ?_, mb3, sb3⟩
      rw [Nat.pow_succ]; exact Nat.le_trans lL (Nat.mul_le_mul_right _ lN)
  · rintro ρ M' ⟨a, Ns, e2, e3, e4, e5, e6, e7, e8, rfl, hN, lN, ma, sb⟩
    rw [rngD_len, Int.toNat_natCast] at hN lN
    rw [List.take_length] at hN
    simp only [ir_law_all_4]
    try walk_at "wp"
    have p5 : 10 ^ zs.length ≤ 10 ^ 5 := Nat.pow_le_pow_right (by decide) h5
    exact .sub Sub.refl (h Ns a M' hN (Nat.le_trans lN p5) ma sb)
/-! %cut -/
def Nx69 (F : Ed) (b c : Addr) : Prop := ∀ ρ M, ρ.length = 14 → get ρ 1 = some (.lst b) → get ρ 2 = some (rowD bnd69) → BoxAt M b c → F.nx ρ M
theorem rest_D {ys us : List Rat} : ((ys.map gn).zip us).map (fun p => rat (p.1 - p.2)) = (restR ys us).map rat := by
  unfold restR
  rw [List.map_map]
  induction ys generalizing us with
  | nil => rfl
  | cons y ys ih =>
    cases us with
    | nil => rfl
    | cons u us => rw [List.map_cons, List.zip_cons_cons, List.zip_cons_cons, List.map_cons, List.map_cons, ih]; rfl
theorem law_4 {zs : List Int} (iz : I69 zs) {ns : List Int} (w : W69 zs ns) {b c : Addr} {ρ : En} {M : Mem} {F : Ed} (tp : BoxAt M b c) (hn : ρ.length = 14) (g1 : get ρ 1 = some (.lst b)) (g8 : get ρ 8 = some (ysD (restR (rI zs) (useR bnd69 (rI zs))))) (g11 : get ρ 11 = some (rat (sumR (useR bnd69 (rI zs))))) (g12 : get ρ 12 = some (zD ns)) (g13 : get ρ 13 = some (ysD (restR (rI zs) (rI ns)))) (hF : F.nx ρ M) : wpSs Gm ir_law_4 ρ M F := by
  have su := iz.us
  have us := su.us (useN bnd69 (rI zs))
  have u := use_ok (R := bnd69) bnd_cx.rw (ys := rI zs)
  have wu := uok_iff.mpr w.ok
  have sn : ∀ r ∈ rI ns, SzR 6 r := fun r hr => by
    unfold rI at hr
    obtain ⟨n, hn, rfl⟩ := List.mem_map.mp hr
    have := w.q n hn
    exact sz_int (.lit 6 (by omega) (by omega)) (by omega)
  have ln : (rI ns).length ≤ 20 := by rw [rI_len, w.len]; have := iz.len; omega
  have hr1 : IncL 81 (restR (rI zs) (useR bnd69 (rI zs))) := ⟨by rw [rest_len u.len, rI_len]; have := iz.len; omega, fun x hx => by
    obtain ⟨k, hk, rfl⟩ := List.getElem_of_mem hx
    have hk2 : k < (rI zs).length := by rw [rest_len u.len] at hk; exact hk
    have e := rest_get u.len hk2
    rw [List.getElem?_eq_getElem hk] at e
    injection e with e
    rw [e]; exact (here_sz su.ys us k).1⟩
  have hr2 : IncL 81 (restR (rI zs) (rI ns)) := ⟨by rw [rest_len wu.len, rI_len]; have := iz.len; omega, fun x hx => by
    obtain ⟨n, hn, rfl⟩ := w.rest iz x hx
    exact sz_int (.lit 81 (Nat.lt_of_lt_of_le hn (by decide)) (by omega)) (by omega)⟩
  obtain ⟨x0, x1, x2, x3, x4, x5, x6, x7, x8, x9, x10, x11, x12, x13, rfl⟩ := env14 hn
  simp only [get] at g1 g8 g11 g12 g13
  subst g1
  subst g8
  subst g11
  subst g12
  subst g13
  simp only [ir_law_4, zD]
  walk_at "wp"
  refine ⟨rI ns, .inl rfl, fun r hr => (sn r hr).mono (by omega), fun i _ => szR_part (m := 6) (n := 20) sn ln (by omega) i, ?_⟩
  try walk_at "wp"
  by_cases c1 : sumR (rI ns) = sumR (useR bnd69 (rI zs))
  · have ev := bnd_even wu c1 (w.rest iz)
    have f1 : (fbR (restR (rI zs) (useR bnd69 (rI zs))) (restR (rI zs) (rI ns))).isNone = true := by rw [Option.isNone_iff_eq_none, fb_ev ev.len ev.sum]; exact ev
    have f2 : laR (restR (rI zs) (useR bnd69 (rI zs))) (restR (rI zs) (rI ns)) = none := (la_ev ev.len ev.sum).mpr ev
    simp only [c1, decide_true, if_true]
    try walk_at "wp"
    refine ⟨_, _, rfl, hr1.mono (by omega), hr2.mono (by omega), ?_⟩
    rw [f1]
    try walk_at "wp"
    refine ⟨_, _, rfl, hr1.mono (by omega), hr2.mono (by omega), ?_⟩
    rw [f2]
    try simp only [optD, D.isNon, Bool.not_true, Bool.false_eq_true, if_false]
    exact hF
  · simp only [c1, decide_false, Bool.false_eq_true, if_false]
    try walk_at "wp"
    exact hF
theorem law_3 {zs : List Int} (iz : I69 zs) {ns : List Int} (w : W69 zs ns) {b c : Addr} {ρ : En} {M : Mem} {F : Ed} (tp : BoxAt M b c) (hn : ρ.length = 14) (g1 : get ρ 1 = some (.lst b)) (g7 : get ρ 7 = some (ysD ((rI zs).map gn))) (g8 : get ρ 8 = some (ysD (restR (rI zs) (useR bnd69 (rI zs))))) (g11 : get ρ 11 = some (rat (sumR (useR bnd69 (rI zs))))) (g12 : get ρ 12 = some (zD ns)) (hF : ∀ e M', Sub M M' → F.nx (put ρ 13 e) M') : wpSs Gm ir_law_3 ρ M F := by
  have su := iz.us
  have us := su.us (useN bnd69 (rI zs))
  have wu := uok_iff.mpr w.ok
  have sy := su.ys
  have sn : ∀ r ∈ rI ns, SzR 6 r := fun r hr => by
    unfold rI at hr
    obtain ⟨n, hn, rfl⟩ := List.mem_map.mp hr
    have := w.q n hn
    exact sz_int (.lit 6 (by omega) (by omega)) (by omega)
  have ln : (rI ns).length ≤ 20 := by rw [rI_len, w.len]; have := iz.len; omega
  have sS : SzR 900 (sumR (useR bnd69 (rI zs))) := szR_sums (m := 40) (n := 20) us.sz us.len (by omega)
  have sN : SzR 900 (sumR (rI ns)) := szR_sums (m := 6) (n := 20) sn ln (by omega)
  have le := use_most w.ok
  rw [← bnd_all] at le
  have nl : ¬ sumR (useR bnd69 (rI zs)) < sumR (rI ns) := by grind
  obtain ⟨x0, x1, x2, x3, x4, x5, x6, x7, x8, x9, x10, x11, x12, x13, rfl⟩ := env14 hn
  simp only [get] at g1 g7 g8 g11 g12
  subst g1
  subst g7
  subst g8
  subst g11
  subst g12
  simp only [ir_law_3, zD, ysD]
  walk_at "wp"
  intro z1 z2
  rw [zip_map2]
  refine ⟨by rw [List.length_map, List.length_zip]; exact Nat.le_trans (Nat.min_le_right _ _) (Nat.le_trans ln (by decide)), Wm (((rI zs).map gn).zip (rI ns)) (fun p => rat (p.1 - p.2)) M, .zero, fun _ _ _ _ _ => trivial, ?_, ?_⟩
  · rintro j d acc M2 hd wm
    obtain ⟨p, hp, rfl⟩ := mp_get hd
    obtain ⟨m1, m2⟩ := List.of_mem_zip (List.mem_of_getElem? hp)
    obtain ⟨y, hy, e⟩ := List.mem_map.mp m1
    have s1 : SzR 40 p.1 := by rw [← e]; exact gn_sz (sy.sz y hy) (by omega)
    try walk_at "wp"
    refine ⟨s1.mono (by omega), (sn _ m2).mono (by omega), ?_⟩
    exact wm.step hp rfl
  intro acc M2 hac wm p hp
  obtain ⟨rfl, rfl⟩ := wm.done (by rw [List.length_map])
  rw [rest_D]
  have sb := Sub.up (M := M2) (ds := (restR (rI zs) (rI ns)).map rat) hp
  have mp : (M2.up p ((restR (rI zs) (rI ns)).map rat)) p = some ((restR (rI zs) (rI ns)).map rat) := up_same
  generalize M2.up p ((restR (rI zs) (rI ns)).map rat) = M3 at *
  try walk_at "wp"
  refine ⟨_, mp, ?_⟩
  try walk_at "wp"
  refine ⟨rI ns, .inl rfl, fun r hr => (sn r hr).mono (by omega), fun i _ => szR_part (m := 6) (n := 20) sn ln (by omega) i, ?_⟩
  refine ⟨_, _, rfl, sS.mono (by omega), sN.mono (by omega), ?_⟩
  simp only [nl, decide_false, Bool.false_eq_true, if_false]
  try walk_at "wp"
  refine law_4 iz w (tp.sub sb) rfl rfl rfl rfl rfl rfl ?_
  exact hF _ _ sb
theorem law_2 {zs : List Int} (iz : I69 zs) {b c : Addr} {ρ : En} {M : Mem} {F : Ed} (tp : BoxAt M b c) (hn : ρ.length = 14) (g1 : get ρ 1 = some (.lst b)) (g2 : get ρ 2 = some (rowD bnd69)) (g4 : get ρ 4 = some (zD zs)) (g7 : get ρ 7 = some (ysD ((rI zs).map gn))) (g8 : get ρ 8 = some (ysD (restR (rI zs) (useR bnd69 (rI zs))))) (g11 : get ρ 11 = some (rat (sumR (useR bnd69 (rI zs))))) (hF : Nx69 F b c) : wpSs Gm ir_law_2 ρ M F := by
  obtain ⟨x0, x1, x2, x3, x4, x5, x6, x7, x8, x9, x10, x11, x12, x13, rfl⟩ := env14 hn
  simp only [get] at g1 g2 g4 g7 g8 g11
  subst g1
  subst g2
  subst g4
  subst g7
  subst g8
  subst g11
  simp only [ir_law_2]
  walk_at "wp"
  refine ⟨zs, rfl, iz, ?_⟩
  intro Ns a M1 hN lN ma sb
  try walk_at "wp"
  refine ⟨_, ma, ?_⟩
  intro hz
  have tp1 := tp.sub sb
  refine ⟨fun i ρ M' => ρ.length = 14 ∧ get ρ 1 = some (.lst b) ∧ get ρ 2 = some (rowD bnd69) ∧ get ρ 4 = some (zD zs) ∧ get ρ 7 = some (ysD ((rI zs).map gn)) ∧ get ρ 8 = some (ysD (restR (rI zs) (useR bnd69 (rI zs)))) ∧ get ρ 11 = some (rat (sumR (useR bnd69 (rI zs)))) ∧ BoxAt M' b c ∧ M' a = some (Ns.map zD), ⟨rfl, rfl, rfl, rfl, rfl, rfl, rfl, tp1, ma⟩, fun _ _ _ _ h => h.2.2.2.2.2.2.2.2, ?_, ?_⟩
  · rintro i d ρ M2 hd ⟨hn, g1, g2, g4, g7, g8, g11, tp2, ma2⟩
    obtain ⟨ns, hns, rfl⟩ := mp_get hd
    obtain ⟨x0, x1, x2, x3, x4, x5, x6, x7, x8, x9, x10, x11, x12, x13, rfl⟩ := env14 hn
    simp only [get] at g1 g2 g4 g7 g8 g11
    subst g1
    subst g2
    subst g4
    subst g7
    subst g8
    subst g11
    try walk_at "wp"
    exact law_3 iz (hN ns (List.mem_of_getElem? hns)) tp2 rfl rfl rfl rfl rfl rfl fun e M' sb => ⟨rfl, rfl, rfl, rfl, rfl, rfl, rfl, tp2.sub sb, sb _ _ ma2⟩
  · rintro ρ M2 ⟨hn, g1, g2, g4, g7, g8, g11, tp2, ma2⟩
    exact hF ρ M2 hn g1 g2 tp2
theorem law_1 {b c : Addr} {ρ : En} {M : Mem} {F : Ed} (tp : BoxAt M b c) (hn : ρ.length = 14) (g1 : get ρ 1 = some (.lst b)) (g2 : get ρ 2 = some (rowD bnd69)) (hF : Nx69 F b c) : wpSs Gm ir_law_1 ρ M F := by
  obtain ⟨x0, x1, x2, x3, x4, x5, x6, x7, x8, x9, x10, x11, x12, x13, rfl⟩ := env14 hn
  simp only [get] at g1 g2
  subst g1
  subst g2
  simp only [ir_law_1]
  walk_at "wp"
  refine ⟨c, tp, by decide, .lit 8 (by decide) (by omega), ?_⟩
  intro v M0 v0 v5 tp0 f0
  try walk_at "wp"
  refine ⟨by omega, by omega, Nat.le_trans (m := 5) (by rw [rngD_len]; omega) (by decide), fun i acc M' => BoxAt M' b c ∧ ∃ zs : List Int, acc = zs.map iD ∧ zs.length = i ∧ ∀ z ∈ zs, -4 ≤ z ∧ z ≤ 9, ⟨tp0, [], rfl, rfl, by simp⟩, fun _ _ _ _ _ => trivial, ?_, ?_⟩
  · rintro i d acc M' hd ⟨tp2, zs, rfl, hl, hzs⟩
    try walk_at "wp"
    refine ⟨c, tp2, by decide, .lit 8 (by decide) (by omega), ?_⟩
    intro u M3 u0 u14 tp3 f3
    try walk_at "wp"
    refine ⟨tp3, zs ++ [u - 4], by simp [iD], by simp [hl], fun x hx => ?_⟩
    rcases List.mem_append.mp hx with hx | hx
    · exact hzs x hx
    · simp at hx; subst hx; omega
  rintro acc M1 hac ⟨tp1, zs, rfl, hl, hzs⟩ p hp
  rw [rngD_len] at hl
  have iz : I69 zs := ⟨fun e => by subst e; simp at hl; omega, by omega, hzs⟩
  have tp2 := tp1.up (l := zs.map iD) hp
  have mp : (M1.up p (zs.map iD)) p = some (zs.map iD) := up_same
  generalize M1.up p (zs.map iD) = M2 at *
  have su := iz.us
  have us := su.us (useN bnd69 (rI zs))
  have u := use_ok (R := bnd69) bnd_cx.rw (ys := rI zs)
  have sy := su.ys
  have h5 := iz.len
  try walk_at "wp"
  refine ⟨_, mp, ?_⟩
  rw [← zD_eq]
  simp only [zD]
  try walk_at "wp"
  refine ⟨bnd69, rI zs, rfl, su, ?_⟩
  try walk_at "wp"
  refine ⟨rI zs, rfl, sy, ?_⟩
  simp only [ysD]
  try walk_at "wp"
  intro z1 z2
  rw [zip_map2]
  refine ⟨by rw [List.length_map, List.length_zip]; exact Nat.le_trans (Nat.min_le_right _ _) (Nat.le_trans us.len (by decide)), Wm (((rI zs).map gn).zip (useR bnd69 (rI zs))) (fun p => rat (p.1 - p.2)) M2, .zero, fun _ _ _ _ _ => trivial, ?_, ?_⟩
  · rintro j d acc M3 hd wm
    obtain ⟨p, hp, rfl⟩ := mp_get hd
    obtain ⟨m1, m2⟩ := List.of_mem_zip (List.mem_of_getElem? hp)
    obtain ⟨y, hy, e⟩ := List.mem_map.mp m1
    have s1 : SzR 40 p.1 := by rw [← e]; exact gn_sz (sy.sz y hy) (by omega)
    try walk_at "wp"
    refine ⟨s1.mono (by omega), (us.sz _ m2).mono (by omega), ?_⟩
    exact wm.step hp rfl
  intro acc M3 hac wm p2 hp2
  obtain ⟨rfl, rfl⟩ := wm.done (by rw [List.length_map])
  rw [rest_D]
  have tp3 := tp2.up (l := (restR (rI zs) (useR bnd69 (rI zs))).map rat) hp2
  have mp2 : (M3.up p2 ((restR (rI zs) (useR bnd69 (rI zs))).map rat)) p2 = some ((restR (rI zs) (useR bnd69 (rI zs))).map rat) := up_same
  generalize M3.up p2 ((restR (rI zs) (useR bnd69 (rI zs))).map rat) = M4 at *
  try walk_at "wp"
  refine ⟨_, mp2, ?_⟩
  try walk_at "wp"
  refine ⟨useR bnd69 (rI zs), .inl rfl, fun r hr => (us.sz r hr).mono (by omega), fun i _ => szR_part (m := 40) (n := 20) us.sz us.len (by omega) i, ?_⟩
  try walk_at "wp"
  have yq : ∀ y ∈ rI zs, Qz 12 240 y := fun y hy => by
    unfold rI at hy
    obtain ⟨z, hz, rfl⟩ := List.mem_map.mp hy
    have := iz.q z hz
    exact ⟨z * 12, by rw [Rat.intCast_mul]; rfl, by omega⟩
  have oz : ∀ k, SzR 1000 (onceR ((rI zs).take k)).2 := fun k => by
    have := (once_q (ys := (rI zs).take k) fun y hy => yq y (List.mem_of_mem_take hy)).1
    exact ((this.mono (C := 2400) (by rw [List.length_take, rI_len]; omega)).sz (n := 12) (by decide) (by decide) (by decide)).mono (by omega)
  have o2 := (once_q yq).2
  have os : ∀ r ∈ (onceR (rI zs)).1, SzR 12 r := fun r hr => (o2 r hr).sz (by decide) (by decide) (by decide)
  refine ⟨rI zs, ysD (useR bnd69 (rI zs)), 40, 20, 2, rfl, sy, fD_rats us.sz us.len (by decide), by decide, ?_⟩
  rw [useB_ok u]
  try walk_at "wp"
  try simp only [Bool.false_eq_true, if_false]
  try walk_at "wp"
  refine ⟨rI zs, rfl, sy, oz, ?_⟩
  try walk_at "wp"
  refine ⟨(onceR (rI zs)).1, .inl rfl, fun r hr => (os r hr).mono (by omega), fun i _ => szR_part (m := 12) (n := 20) os (by rw [onceR_inv.1]; exact sy.len) (by omega) i, ?_⟩
  rw [bnd_all]
  try walk_at "wp"
  try simp only [decide_true, Bool.not_true, Bool.false_eq_true, if_false]
  rw [← bnd_all]
  exact law_2 iz tp3 rfl rfl rfl rfl rfl rfl rfl hF
theorem bd_law : Body Gm ir_law 14 1 (Gm 38) := by
  rintro ds M q hl ⟨a, ns, rfl, hns, h⟩
  simp only [ir_law]
  walk_at "wp"
  refine ⟨hns, ?_⟩
  intro b c M1 _ _ tp _
  try walk_at "wp"
  refine ⟨rfl, ?_⟩
  try walk_at "wp"
  refine ⟨by decide, by decide, fun i ρ M' => ρ.length = 14 ∧ get ρ 1 = some (.lst b) ∧ get ρ 2 = some (rowD bnd69) ∧ BoxAt M' b c, ⟨rfl, rfl, rfl, tp⟩, fun _ _ _ _ _ => trivial, ?_, ?_⟩
  · rintro i d ρ M2 hd ⟨hn, g1, g2, tp2⟩
    obtain ⟨x0, x1, x2, x3, x4, x5, x6, x7, x8, x9, x10, x11, x12, x13, rfl⟩ := env14 hn
    simp only [get] at g1 g2
    subst g1
    subst g2
    try walk_at "wp"
    exact law_1 tp2 rfl rfl rfl fun ρ' M' hn g1 g2 tp => ⟨hn, g1, g2, tp⟩
  · rintro ρ M2 ⟨hn, g1, g2, tp2⟩
    try simp only [ir_law_5]
    try walk_at "wp"
    exact .mk (h _)
section
variable {w : World} {K : PySem.W.Frag} {mg : Str → Option Value} {h : Heap}
theorem asm {fa : Addr} (X : K.In h) (G : h.Ns mainGlobals mg) (hfa : mg "law" = some (.ref fa)) (nb : NoB K)
    (d_is_whole : DefAt K "is_whole" (topL 5))
    (d_common_divisor : DefAt K "common_divisor" (topL 8))
    (d_is_ratio : DefAt K "is_ratio" (topL 9))
    (d_ratio : DefAt K "ratio" (topL 10))
    (d_plus : DefAt K "plus" (topL 11))
    (d_minus : DefAt K "minus" (topL 12))
    (d_times : DefAt K "times" (topL 13))
    (d_less : DefAt K "less" (topL 14))
    (d_sum_of : DefAt K "sum_of" (topL 15))
    (d_along : DefAt K "along" (topL 18))
    (d_limited : DefAt K "limited" (topL 19))
    (d_normal : DefAt K "normal" (topL 20))
    (d_upper : DefAt K "upper" (topL 22))
    (d_lower : DefAt K "lower" (topL 23))
    (d_gains_of : DefAt K "gains_of" (topL 24))
    (d_carried_at_once : DefAt K "carried_at_once" (topL 25))
    (d_rooms_of : DefAt K "rooms_of" (topL 26))
    (d_is_use : DefAt K "is_use" (topL 27))
    (d_slope_below : DefAt K "slope_below" (topL 28))
    (d_least_room : DefAt K "least_room" (topL 30))
    (d_best_use : DefAt K "best_use" (topL 29))
    (d_ordered : DefAt K "ordered" (topL 32))
    (d_begun_sums : DefAt K "begun_sums" (topL 33))
    (d_first_below : DefAt K "first_below" (topL 34))
    (d_is_more_even : DefAt K "is_more_even" (topL 35))
    (d_over_line : DefAt K "over_line" (topL 36))
    (d_line_against : DefAt K "line_against" (topL 37))
    (d_law_box : DefAt K "_law_box" (topL 39))
    (d_law_load : DefAt K "_law_load" (topL 40))
    (d_law_draw : DefAt K "_law_draw" (topL 41))
    (d_law_divisor : DefAt K "_law_divisor" (topL 42))
    (d_law_ratio : DefAt K "_law_ratio" (topL 43))
    (d_law_plus : DefAt K "_law_plus" (topL 44))
    (d_law_minus : DefAt K "_law_minus" (topL 45))
    (d_law_less : DefAt K "_law_less" (topL 46))
    (d_law_total : DefAt K "_law_total" (topL 47))
    (d_law_bending : DefAt K "_law_bending" (topL 48))
    (d_law_all : DefAt K "_law_all" (topL 49))
    (d_law : DefAt K "law" (topL 50))
    (k_ZERO : ConAt K "ZERO" (.tup [(.int 0), (.int 1)]))
    (k_MAX_PIECES : ConAt K "MAX_PIECES" (.int 60)) :
    ∃ fd : FuncData, (∀ (s : Shared) (v : Value), BindsTo s fd ⟨[v], []⟩ [("script", v)]) ∧ ∀ base : Heap, K.In base → base.Ns mainGlobals mg → FnOk (PySem.Challenge.rw_taxbands_k69_whole_uses_that_even_out).prog w K mg base CX0 39 fa fd ["script"] (LSp K 1 (Gm 38)) := by
  refine law_of (l := PySem.Challenge.rw_taxbands_k69_whole_uses_that_even_out) (lev := 38) (ps := ["script"]) X G hfa nb d_law (fun _ _ _ _ _ _ us hl => match us, hl with | [_], _ => rfl) hs_law hc_law bd_law rfl rfl (fun base hb hg => ?_) ?_ rfl
  have g_is_whole : Good _ w K mg base Gm 1 "is_whole" 0 1 := good_of (P := (PySem.Challenge.rw_taxbands_k69_whole_uses_that_even_out).prog) X G nb d_is_whole (fun _ _ _ _ _ _ us hl => match us, hl with | [_], _ => rfl) hs_is_whole hc_is_whole bd_is_whole rfl rfl fns_nil cs_nil
  have g_common_divisor : Good _ w K mg base Gm 2 "common_divisor" 1 2 := good_of (P := (PySem.Challenge.rw_taxbands_k69_whole_uses_that_even_out).prog) X G nb d_common_divisor (fun _ _ _ _ _ _ us hl => match us, hl with | [_, _], _ => rfl) hs_common_divisor hc_common_divisor bd_common_divisor rfl rfl fns_nil cs_nil
  have g_is_ratio : Good _ w K mg base Gm 3 "is_ratio" 2 1 := good_of (P := (PySem.Challenge.rw_taxbands_k69_whole_uses_that_even_out).prog) X G nb d_is_ratio (fun _ _ _ _ _ _ us hl => match us, hl with | [_], _ => rfl) hs_is_ratio hc_is_ratio bd_is_ratio rfl rfl (fns_cons (g_common_divisor.mono (by omega)) (fns_cons (g_is_whole.mono (by omega)) fns_nil)) cs_nil
  have g_ratio : Good _ w K mg base Gm 4 "ratio" 3 2 := good_of (P := (PySem.Challenge.rw_taxbands_k69_whole_uses_that_even_out).prog) X G nb d_ratio (fun _ _ _ _ _ _ us hl => match us, hl with | [_, _], _ => rfl) hs_ratio hc_ratio bd_ratio rfl rfl (fns_cons (g_common_divisor.mono (by omega)) fns_nil) cs_nil
  have g_plus : Good _ w K mg base Gm 5 "plus" 4 2 := good_of (P := (PySem.Challenge.rw_taxbands_k69_whole_uses_that_even_out).prog) X G nb d_plus (fun _ _ _ _ _ _ us hl => match us, hl with | [_, _], _ => rfl) hs_plus hc_plus bd_plus rfl rfl (fns_cons (g_ratio.mono (by omega)) fns_nil) cs_nil
  have g_minus : Good _ w K mg base Gm 6 "minus" 5 2 := good_of (P := (PySem.Challenge.rw_taxbands_k69_whole_uses_that_even_out).prog) X G nb d_minus (fun _ _ _ _ _ _ us hl => match us, hl with | [_, _], _ => rfl) hs_minus hc_minus bd_minus rfl rfl (fns_cons (g_ratio.mono (by omega)) fns_nil) cs_nil
  have g_times : Good _ w K mg base Gm 7 "times" 6 2 := good_of (P := (PySem.Challenge.rw_taxbands_k69_whole_uses_that_even_out).prog) X G nb d_times (fun _ _ _ _ _ _ us hl => match us, hl with | [_, _], _ => rfl) hs_times hc_times bd_times rfl rfl (fns_cons (g_ratio.mono (by omega)) fns_nil) cs_nil
  have g_less : Good _ w K mg base Gm 8 "less" 7 2 := good_of (P := (PySem.Challenge.rw_taxbands_k69_whole_uses_that_even_out).prog) X G nb d_less (fun _ _ _ _ _ _ us hl => match us, hl with | [_, _], _ => rfl) hs_less hc_less bd_less rfl rfl fns_nil cs_nil
  have g_sum_of : Good _ w K mg base Gm 9 "sum_of" 8 1 := good_of (P := (PySem.Challenge.rw_taxbands_k69_whole_uses_that_even_out).prog) X G nb d_sum_of (fun _ _ _ _ _ _ us hl => match us, hl with | [_], _ => rfl) hs_sum_of hc_sum_of bd_sum_of rfl rfl (fns_cons (g_plus.mono (by omega)) fns_nil) (cs_cons k_ZERO cs_nil)
  have g_along : Good _ w K mg base Gm 10 "along" 9 2 := good_of (P := (PySem.Challenge.rw_taxbands_k69_whole_uses_that_even_out).prog) X G nb d_along (fun _ _ _ _ _ _ us hl => match us, hl with | [_, _], _ => rfl) hs_along hc_along bd_along rfl rfl (fns_cons (g_minus.mono (by omega)) (fns_cons (g_plus.mono (by omega)) (fns_cons (g_times.mono (by omega)) fns_nil))) cs_nil
  have g_limited : Good _ w K mg base Gm 11 "limited" 10 1 := good_of (P := (PySem.Challenge.rw_taxbands_k69_whole_uses_that_even_out).prog) X G nb d_limited (fun _ _ _ _ _ _ us hl => match us, hl with | [_], _ => rfl) hs_limited hc_limited bd_limited rfl rfl fns_nil (cs_cons k_MAX_PIECES cs_nil)
  have g_normal : Good _ w K mg base Gm 12 "normal" 11 1 := good_of (P := (PySem.Challenge.rw_taxbands_k69_whole_uses_that_even_out).prog) X G nb d_normal (fun _ _ _ _ _ _ us hl => match us, hl with | [_], _ => rfl) hs_normal hc_normal bd_normal rfl rfl (fns_cons (g_along.mono (by omega)) (fns_cons (g_limited.mono (by omega)) fns_nil)) cs_nil
  have g_upper : Good _ w K mg base Gm 13 "upper" 12 2 := good_of (P := (PySem.Challenge.rw_taxbands_k69_whole_uses_that_even_out).prog) X G nb d_upper (fun _ _ _ _ _ _ us hl => match us, hl with | [_, _], _ => rfl) hs_upper hc_upper bd_upper rfl rfl (fns_cons (g_less.mono (by omega)) fns_nil) cs_nil
  have g_lower : Good _ w K mg base Gm 14 "lower" 13 2 := good_of (P := (PySem.Challenge.rw_taxbands_k69_whole_uses_that_even_out).prog) X G nb d_lower (fun _ _ _ _ _ _ us hl => match us, hl with | [_, _], _ => rfl) hs_lower hc_lower bd_lower rfl rfl (fns_cons (g_less.mono (by omega)) fns_nil) cs_nil
  have g_gains_of : Good _ w K mg base Gm 15 "gains_of" 14 1 := good_of (P := (PySem.Challenge.rw_taxbands_k69_whole_uses_that_even_out).prog) X G nb d_gains_of (fun _ _ _ _ _ _ us hl => match us, hl with | [_], _ => rfl) hs_gains_of hc_gains_of bd_gains_of rfl rfl (fns_cons (g_upper.mono (by omega)) fns_nil) (cs_cons k_ZERO cs_nil)
  have g_carried_at_once : Good _ w K mg base Gm 16 "carried_at_once" 15 1 := good_of (P := (PySem.Challenge.rw_taxbands_k69_whole_uses_that_even_out).prog) X G nb d_carried_at_once (fun _ _ _ _ _ _ us hl => match us, hl with | [_], _ => rfl) hs_carried_at_once hc_carried_at_once bd_carried_at_once rfl rfl (fns_cons (g_lower.mono (by omega)) (fns_cons (g_minus.mono (by omega)) (fns_cons (g_plus.mono (by omega)) (fns_cons (g_upper.mono (by omega)) fns_nil)))) (cs_cons k_ZERO cs_nil)
  have g_rooms_of : Good _ w K mg base Gm 17 "rooms_of" 16 2 := good_of (P := (PySem.Challenge.rw_taxbands_k69_whole_uses_that_even_out).prog) X G nb d_rooms_of (fun _ _ _ _ _ _ us hl => match us, hl with | [_, _], _ => rfl) hs_rooms_of hc_rooms_of bd_rooms_of rfl rfl (fns_cons (g_minus.mono (by omega)) (fns_cons (g_plus.mono (by omega)) (fns_cons (g_upper.mono (by omega)) fns_nil))) (cs_cons k_ZERO cs_nil)
  have g_is_use : Good _ w K mg base Gm 18 "is_use" 17 2 := good_of (P := (PySem.Challenge.rw_taxbands_k69_whole_uses_that_even_out).prog) X G nb d_is_use (fun _ _ _ _ _ _ us hl => match us, hl with | [_, _], _ => rfl) hs_is_use hc_is_use bd_is_use rfl rfl (fns_cons (g_gains_of.mono (by omega)) (fns_cons (g_is_ratio.mono (by omega)) (fns_cons (g_less.mono (by omega)) (fns_cons (g_rooms_of.mono (by omega)) fns_nil)))) (cs_cons k_ZERO cs_nil)
  have g_slope_below : Good _ w K mg base Gm 19 "slope_below" 18 2 := good_of (P := (PySem.Challenge.rw_taxbands_k69_whole_uses_that_even_out).prog) X G nb d_slope_below (fun _ _ _ _ _ _ us hl => match us, hl with | [_, _], _ => rfl) hs_slope_below hc_slope_below bd_slope_below rfl rfl (fns_cons (g_less.mono (by omega)) (fns_cons (g_minus.mono (by omega)) (fns_cons (g_normal.mono (by omega)) fns_nil))) cs_nil
  have g_least_room : Good _ w K mg base Gm 20 "least_room" 19 3 := good_of (P := (PySem.Challenge.rw_taxbands_k69_whole_uses_that_even_out).prog) X G nb d_least_room (fun _ _ _ _ _ _ us hl => match us, hl with | [_, _, _], _ => rfl) hs_least_room hc_least_room bd_least_room rfl rfl (fns_cons (g_lower.mono (by omega)) (fns_cons (g_rooms_of.mono (by omega)) fns_nil)) cs_nil
  have g_best_use : Good _ w K mg base Gm 21 "best_use" 20 2 := good_of (P := (PySem.Challenge.rw_taxbands_k69_whole_uses_that_even_out).prog) X G nb d_best_use (fun _ _ _ _ _ _ us hl => match us, hl with | [_, _], _ => rfl) hs_best_use hc_best_use bd_best_use rfl rfl (fns_cons (g_gains_of.mono (by omega)) (fns_cons (g_least_room.mono (by omega)) (fns_cons (g_less.mono (by omega)) (fns_cons (g_lower.mono (by omega)) (fns_cons (g_minus.mono (by omega)) (fns_cons (g_plus.mono (by omega)) (fns_cons (g_slope_below.mono (by omega)) fns_nil))))))) (cs_cons k_ZERO cs_nil)
  have g_ordered : Good _ w K mg base Gm 22 "ordered" 21 1 := good_of (P := (PySem.Challenge.rw_taxbands_k69_whole_uses_that_even_out).prog) X G nb d_ordered (fun _ _ _ _ _ _ us hl => match us, hl with | [_], _ => rfl) hs_ordered hc_ordered bd_ordered rfl rfl (fns_cons (g_less.mono (by omega)) fns_nil) cs_nil
  have g_begun_sums : Good _ w K mg base Gm 23 "begun_sums" 22 1 := good_of (P := (PySem.Challenge.rw_taxbands_k69_whole_uses_that_even_out).prog) X G nb d_begun_sums (fun _ _ _ _ _ _ us hl => match us, hl with | [_], _ => rfl) hs_begun_sums hc_begun_sums bd_begun_sums rfl rfl (fns_cons (g_ordered.mono (by omega)) (fns_cons (g_plus.mono (by omega)) fns_nil)) (cs_cons k_ZERO cs_nil)
  have g_first_below : Good _ w K mg base Gm 24 "first_below" 23 2 := good_of (P := (PySem.Challenge.rw_taxbands_k69_whole_uses_that_even_out).prog) X G nb d_first_below (fun _ _ _ _ _ _ us hl => match us, hl with | [_, _], _ => rfl) hs_first_below hc_first_below bd_first_below rfl rfl (fns_cons (g_begun_sums.mono (by omega)) (fns_cons (g_less.mono (by omega)) fns_nil)) cs_nil
  have g_is_more_even : Good _ w K mg base Gm 25 "is_more_even" 24 2 := good_of (P := (PySem.Challenge.rw_taxbands_k69_whole_uses_that_even_out).prog) X G nb d_is_more_even (fun _ _ _ _ _ _ us hl => match us, hl with | [_, _], _ => rfl) hs_is_more_even hc_is_more_even bd_is_more_even rfl rfl (fns_cons (g_first_below.mono (by omega)) fns_nil) cs_nil
  have g_over_line : Good _ w K mg base Gm 26 "over_line" 25 2 := good_of (P := (PySem.Challenge.rw_taxbands_k69_whole_uses_that_even_out).prog) X G nb d_over_line (fun _ _ _ _ _ _ us hl => match us, hl with | [_, _], _ => rfl) hs_over_line hc_over_line bd_over_line rfl rfl (fns_cons (g_less.mono (by omega)) (fns_cons (g_minus.mono (by omega)) (fns_cons (g_sum_of.mono (by omega)) fns_nil))) cs_nil
  have g_line_against : Good _ w K mg base Gm 27 "line_against" 26 2 := good_of (P := (PySem.Challenge.rw_taxbands_k69_whole_uses_that_even_out).prog) X G nb d_line_against (fun _ _ _ _ _ _ us hl => match us, hl with | [_, _], _ => rfl) hs_line_against hc_line_against bd_line_against rfl rfl (fns_cons (g_less.mono (by omega)) (fns_cons (g_ordered.mono (by omega)) (fns_cons (g_over_line.mono (by omega)) fns_nil))) cs_nil
  have g_law_box : Good _ w K mg base Gm 28 "_law_box" 27 1 := good_of (P := (PySem.Challenge.rw_taxbands_k69_whole_uses_that_even_out).prog) X G nb d_law_box (fun _ _ _ _ _ _ us hl => match us, hl with | [_], _ => rfl) hs_law_box hc_law_box bd_law_box rfl rfl fns_nil cs_nil
  have g_law_load : Good _ w K mg base Gm 29 "_law_load" 28 1 := good_of (P := (PySem.Challenge.rw_taxbands_k69_whole_uses_that_even_out).prog) X G nb d_law_load (fun _ _ _ _ _ _ us hl => match us, hl with | [_], _ => rfl) hs_law_load hc_law_load bd_law_load rfl rfl fns_nil cs_nil
  have g_law_draw : Good _ w K mg base Gm 30 "_law_draw" 29 2 := good_of (P := (PySem.Challenge.rw_taxbands_k69_whole_uses_that_even_out).prog) X G nb d_law_draw (fun _ _ _ _ _ _ us hl => match us, hl with | [_, _], _ => rfl) hs_law_draw hc_law_draw bd_law_draw rfl rfl (fns_cons (g_law_load.mono (by omega)) fns_nil) cs_nil
  have g_law_divisor : Good _ w K mg base Gm 31 "_law_divisor" 30 2 := good_of (P := (PySem.Challenge.rw_taxbands_k69_whole_uses_that_even_out).prog) X G nb d_law_divisor (fun _ _ _ _ _ _ us hl => match us, hl with | [_, _], _ => rfl) hs_law_divisor hc_law_divisor bd_law_divisor rfl rfl fns_nil cs_nil
  have g_law_ratio : Good _ w K mg base Gm 32 "_law_ratio" 31 2 := good_of (P := (PySem.Challenge.rw_taxbands_k69_whole_uses_that_even_out).prog) X G nb d_law_ratio (fun _ _ _ _ _ _ us hl => match us, hl with | [_, _], _ => rfl) hs_law_ratio hc_law_ratio bd_law_ratio rfl rfl (fns_cons (g_law_divisor.mono (by omega)) fns_nil) cs_nil
  have g_law_plus : Good _ w K mg base Gm 33 "_law_plus" 32 2 := good_of (P := (PySem.Challenge.rw_taxbands_k69_whole_uses_that_even_out).prog) X G nb d_law_plus (fun _ _ _ _ _ _ us hl => match us, hl with | [_, _], _ => rfl) hs_law_plus hc_law_plus bd_law_plus rfl rfl (fns_cons (g_law_ratio.mono (by omega)) fns_nil) cs_nil
  have g_law_minus : Good _ w K mg base Gm 34 "_law_minus" 33 2 := good_of (P := (PySem.Challenge.rw_taxbands_k69_whole_uses_that_even_out).prog) X G nb d_law_minus (fun _ _ _ _ _ _ us hl => match us, hl with | [_, _], _ => rfl) hs_law_minus hc_law_minus bd_law_minus rfl rfl (fns_cons (g_law_ratio.mono (by omega)) fns_nil) cs_nil
  have g_law_less : Good _ w K mg base Gm 35 "_law_less" 34 2 := good_of (P := (PySem.Challenge.rw_taxbands_k69_whole_uses_that_even_out).prog) X G nb d_law_less (fun _ _ _ _ _ _ us hl => match us, hl with | [_, _], _ => rfl) hs_law_less hc_law_less bd_law_less rfl rfl fns_nil cs_nil
  have g_law_total : Good _ w K mg base Gm 36 "_law_total" 35 1 := good_of (P := (PySem.Challenge.rw_taxbands_k69_whole_uses_that_even_out).prog) X G nb d_law_total (fun _ _ _ _ _ _ us hl => match us, hl with | [_], _ => rfl) hs_law_total hc_law_total bd_law_total rfl rfl (fns_cons (g_law_plus.mono (by omega)) fns_nil) cs_nil
  have g_law_bending : Good _ w K mg base Gm 37 "_law_bending" 36 1 := good_of (P := (PySem.Challenge.rw_taxbands_k69_whole_uses_that_even_out).prog) X G nb d_law_bending (fun _ _ _ _ _ _ us hl => match us, hl with | [_], _ => rfl) hs_law_bending hc_law_bending bd_law_bending rfl rfl (fns_cons (g_law_plus.mono (by omega)) (fns_cons (g_law_ratio.mono (by omega)) fns_nil)) cs_nil
  have g_law_all : Good _ w K mg base Gm 38 "_law_all" 37 1 := good_of (P := (PySem.Challenge.rw_taxbands_k69_whole_uses_that_even_out).prog) X G nb d_law_all (fun _ _ _ _ _ _ us hl => match us, hl with | [_], _ => rfl) hs_law_all hc_law_all bd_law_all rfl rfl fns_nil cs_nil
  · exact (fns_cons (g_law_all.mono (by omega)) (fns_cons (g_law_bending.mono (by omega)) (fns_cons (g_law_box.mono (by omega)) (fns_cons (g_law_draw.mono (by omega)) (fns_cons (g_law_less.mono (by omega)) (fns_cons (g_law_minus.mono (by omega)) (fns_cons (g_law_total.mono (by omega)) (fns_cons (g_best_use.mono (by omega)) (fns_cons (g_carried_at_once.mono (by omega)) (fns_cons (g_gains_of.mono (by omega)) (fns_cons (g_is_more_even.mono (by omega)) (fns_cons (g_is_use.mono (by omega)) (fns_cons (g_line_against.mono (by omega)) fns_nil)))))))))))))
  · exact cs_nil
end
end TB
open PySem PySem.W PyProof.Rows
set_option maxRecDepth 100000 in
set_option maxHeartbeats 0 in
theorem PySem.Challenge.cw_taxbands_k69_whole_uses_that_even_out_holds : PySem.Challenge.rw_taxbands_k69_whole_uses_that_even_out.Holds := by
  w_on; o_law; k_head; (case hw => w_witness2)
  k_fill
  refine L2.walk_of (l := PySem.Challenge.rw_taxbands_k69_whole_uses_that_even_out) (n := 63) (k := 39) (x := "script") (CX := fun _ => L2.CX0) (sp := fun w => TB.LSp _ 1 TB.spLaw) rfl (by decide) rfl ⟨rfl, by decide, by decide⟩ (fun w h Y => PySem.W.kIn_of Y) ?F (fun w H a ns hl hO hS => TB.law_start hl hO hS) (fun _ _ _ _ _ h => h)
  case F =>
    intro w mg fa h KX G hmg
    refine' TB.asm KX G hmg ?nb ?d_is_whole ?d_common_divisor ?d_is_ratio ?d_ratio ?d_plus ?d_minus ?d_times ?d_less ?d_sum_of ?d_along ?d_limited ?d_normal ?d_upper ?d_lower ?d_gains_of ?d_carried_at_once ?d_rooms_of ?d_is_use ?d_slope_below ?d_least_room ?d_best_use ?d_ordered ?d_begun_sums ?d_first_below ?d_is_more_even ?d_over_line ?d_line_against ?d_law_box ?d_law_load ?d_law_draw ?d_law_divisor ?d_law_ratio ?d_law_plus ?d_law_minus ?d_law_less ?d_law_total ?d_law_bending ?d_law_all ?d_law ?k_ZERO ?k_MAX_PIECES
    (case nb => (refine' TB.noB_mk ?_ ?_ ?_ ?_ ?_ ?_ ?_ ?_ ?_ ?_ ?_ ?_ ?_ ?_ ?_ ?_ ?_ ?_ <;> k_is))
    (case d_is_whole => (refine' TB.DefAt.mk ?a ?l ?c ?k; (case a => k_is); (case l => k_is); (case c => k_is); (case k => k_is)))
    (case d_common_divisor => (refine' TB.DefAt.mk ?a ?l ?c ?k; (case a => k_is); (case l => k_is); (case c => k_is); (case k => k_is)))
    (case d_is_ratio => (refine' TB.DefAt.mk ?a ?l ?c ?k; (case a => k_is); (case l => k_is); (case c => k_is); (case k => k_is)))
    (case d_ratio => (refine' TB.DefAt.mk ?a ?l ?c ?k; (case a => k_is); (case l => k_is); (case c => k_is); (case k => k_is)))
    (case d_plus => (refine' TB.DefAt.mk ?a ?l ?c ?k; (case a => k_is); (case l => k_is); (case c => k_is); (case k => k_is)))
    (case d_minus => (refine' TB.DefAt.mk ?a ?l ?c ?k; (case a => k_is); (case l => k_is); (case c => k_is); (case k => k_is)))
    (case d_times => (refine' TB.DefAt.mk ?a ?l ?c ?k; (case a => k_is); (case l => k_is); (case c => k_is); (case k => k_is)))
    (case d_less => (refine' TB.DefAt.mk ?a ?l ?c ?k; (case a => k_is); (case l => k_is); (case c => k_is); (case k => k_is)))
    (case d_sum_of => (refine' TB.DefAt.mk ?a ?l ?c ?k; (case a => k_is); (case l => k_is); (case c => k_is); (case k => k_is)))
    (case d_along => (refine' TB.DefAt.mk ?a ?l ?c ?k; (case a => k_is); (case l => k_is); (case c => k_is); (case k => k_is)))
    (case d_limited => (refine' TB.DefAt.mk ?a ?l ?c ?k; (case a => k_is); (case l => k_is); (case c => k_is); (case k => k_is)))
    (case d_normal => (refine' TB.DefAt.mk ?a ?l ?c ?k; (case a => k_is); (case l => k_is); (case c => k_is); (case k => k_is)))
    (case d_upper => (refine' TB.DefAt.mk ?a ?l ?c ?k; (case a => k_is); (case l => k_is); (case c => k_is); (case k => k_is)))
    (case d_lower => (refine' TB.DefAt.mk ?a ?l ?c ?k; (case a => k_is); (case l => k_is); (case c => k_is); (case k => k_is)))
    (case d_gains_of => (refine' TB.DefAt.mk ?a ?l ?c ?k; (case a => k_is); (case l => k_is); (case c => k_is); (case k => k_is)))
    (case d_carried_at_once => (refine' TB.DefAt.mk ?a ?l ?c ?k; (case a => k_is); (case l => k_is); (case c => k_is); (case k => k_is)))
    (case d_rooms_of => (refine' TB.DefAt.mk ?a ?l ?c ?k; (case a => k_is); (case l => k_is); (case c => k_is); (case k => k_is)))
    (case d_is_use => (refine' TB.DefAt.mk ?a ?l ?c ?k; (case a => k_is); (case l => k_is); (case c => k_is); (case k => k_is)))
    (case d_slope_below => (refine' TB.DefAt.mk ?a ?l ?c ?k; (case a => k_is); (case l => k_is); (case c => k_is); (case k => k_is)))
    (case d_least_room => (refine' TB.DefAt.mk ?a ?l ?c ?k; (case a => k_is); (case l => k_is); (case c => k_is); (case k => k_is)))
    (case d_best_use => (refine' TB.DefAt.mk ?a ?l ?c ?k; (case a => k_is); (case l => k_is); (case c => k_is); (case k => k_is)))
    (case d_ordered => (refine' TB.DefAt.mk ?a ?l ?c ?k; (case a => k_is); (case l => k_is); (case c => k_is); (case k => k_is)))
    (case d_begun_sums => (refine' TB.DefAt.mk ?a ?l ?c ?k; (case a => k_is); (case l => k_is); (case c => k_is); (case k => k_is)))
    (case d_first_below => (refine' TB.DefAt.mk ?a ?l ?c ?k; (case a => k_is); (case l => k_is); (case c => k_is); (case k => k_is)))
    (case d_is_more_even => (refine' TB.DefAt.mk ?a ?l ?c ?k; (case a => k_is); (case l => k_is); (case c => k_is); (case k => k_is)))
    (case d_over_line => (refine' TB.DefAt.mk ?a ?l ?c ?k; (case a => k_is); (case l => k_is); (case c => k_is); (case k => k_is)))
    (case d_line_against => (refine' TB.DefAt.mk ?a ?l ?c ?k; (case a => k_is); (case l => k_is); (case c => k_is); (case k => k_is)))
    (case d_law_box => (refine' TB.DefAt.mk ?a ?l ?c ?k; (case a => k_is); (case l => k_is); (case c => k_is); (case k => k_is)))
    (case d_law_load => (refine' TB.DefAt.mk ?a ?l ?c ?k; (case a => k_is); (case l => k_is); (case c => k_is); (case k => k_is)))
    (case d_law_draw => (refine' TB.DefAt.mk ?a ?l ?c ?k; (case a => k_is); (case l => k_is); (case c => k_is); (case k => k_is)))
    (case d_law_divisor => (refine' TB.DefAt.mk ?a ?l ?c ?k; (case a => k_is); (case l => k_is); (case c => k_is); (case k => k_is)))
    (case d_law_ratio => (refine' TB.DefAt.mk ?a ?l ?c ?k; (case a => k_is); (case l => k_is); (case c => k_is); (case k => k_is)))
    (case d_law_plus => (refine' TB.DefAt.mk ?a ?l ?c ?k; (case a => k_is); (case l => k_is); (case c => k_is); (case k => k_is)))
    (case d_law_minus => (refine' TB.DefAt.mk ?a ?l ?c ?k; (case a => k_is); (case l => k_is); (case c => k_is); (case k => k_is)))
    (case d_law_less => (refine' TB.DefAt.mk ?a ?l ?c ?k; (case a => k_is); (case l => k_is); (case c => k_is); (case k => k_is)))
    (case d_law_total => (refine' TB.DefAt.mk ?a ?l ?c ?k; (case a => k_is); (case l => k_is); (case c => k_is); (case k => k_is)))
    (case d_law_bending => (refine' TB.DefAt.mk ?a ?l ?c ?k; (case a => k_is); (case l => k_is); (case c => k_is); (case k => k_is)))
    (case d_law_all => (refine' TB.DefAt.mk ?a ?l ?c ?k; (case a => k_is); (case l => k_is); (case c => k_is); (case k => k_is)))
    (case d_law => (refine' TB.DefAt.mk ?a ?l ?c ?k; (case a => k_is); (case l => k_is); (case c => k_is); (case k => k_is)))
    (case k_ZERO => (refine' TB.ConAt.pair ?a ?l; (case a => k_is); (case l => k_is)))
    (case k_MAX_PIECES => (refine' TB.ConAt.int ?a; (case a => k_is)))

