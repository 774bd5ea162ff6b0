import PyProof.Rows.All
import Wide.All
import OpenK.AllK
import Wide.FinOn
import HandS.ForMost
import HandS.ForExc
import HandS.ExcInit
import HandS.ExcField
import HandS.Lambda
import HandS.TryMany
import HandS.Conv
import HandS.Zip
import HandS.SortKw
import HandS.TupLe
import HandS.TupAny
import HandS.IsInst
import HandS.Gcd
import HandS.Wide
import HandS.SetFor
import HandS.RevRange
import HandS.DictComp
import HandS.DictTup
import HandS.Deep
import HandS.CallLocal
import KE.GoesMore
import HandS.Star
import KE.DataMinMax
import KE.SortData
import PyProof.ReprLen
import KE.KNest
import HandS.EndBits
import HandS.Style
import HandS.More
import HandS.TupMul
import HandS.TupLen
import PyProof.TupleOfSeq
import HandS.Codes
import HandS.Replace
import HandS.Iter
import HandS.TryOnly
import PyProof.ListStr
import PyProof.StrBlock2
import PySem.Challenge.RW_slipways_k11_whole_texts
import HandS.Defaults
set_option Elab.async false
set_option linter.all false
set_option maxRecDepth 100000
set_option maxHeartbeats 4000000
/-! # T3: a layer of trees over HandS -/
namespace T3
open PySem PySem.Spec PyProof.Rows L2

/-! ## values as trees -/
inductive PV where
  | non | bl (b : Bool) | int (i : Int) | str (s : Str)
  | tup (xs : List PV) | lst (xs : List PV)
  | dic (ks : List Int) (xs : List PV)
  | ins (C : Addr) (fs : List Str) (xs : List PV)
  | raw (v : V)

/-- a written tuple -/
def KTup (K : PySem.W.Frag) (a : Addr) (vs : List V) : Prop := SqT K (fun _ => none) a vs
def TupAt (K : PySem.W.Frag) (H : Hp) (a : Addr) (vs : List V) : Prop := H a = some (.tup vs) ∨ KTup K a vs
theorem TupAt.sq {K : PySem.W.Frag} {H : Hp} {a : Addr} {vs : List V} (h : TupAt K H a vs) : SqT K H a vs := by
  rcases h with h | (h | h)
  · exact .inl (.inl h)
  · rcases h with h | ⟨o, h⟩ <;> cases h
  · exact .inr h
theorem TupAt.of {K : PySem.W.Frag} {H : Hp} {a : Addr} {vs : List V} (h : H a = some (.tup vs)) : TupAt K H a vs := .inl h

/-- a written list -/
def KLst (K : PySem.W.Frag) (a : Addr) (vs : List V) : Prop := SqL K (fun _ => none) a vs
/-- a list that nobody may write -/
def LstAt (K : PySem.W.Frag) (H : Hp) (D : Addr → Prop) (a : Addr) (vs : List V) : Prop := (¬ D a ∧ Rd H a (.lst vs)) ∨ KLst K a vs
theorem KLst.sq {K : PySem.W.Frag} {H : Hp} {a : Addr} {vs : List V} (h : KLst K a vs) : SqL K H a vs := by
  rcases h with h | h
  · rcases h with h | ⟨o, h⟩ <;> cases h
  · exact .inr h
theorem LstAt.sq {K : PySem.W.Frag} {H : Hp} {D : Addr → Prop} {a : Addr} {vs : List V} (h : LstAt K H D a vs) : SqL K H a vs := by
  rcases h with h | h
  · exact .inl h.2
  · exact h.sq
mutual
/-- the value v of the heap H is the tree x; nothing of it stands at a place of D -/
def Rep (K : PySem.W.Frag) (H : Hp) (D : Addr → Prop) : PV → V → Prop
  | .non, v => v = .non
  | .bl b, v => v = .bl b
  | .int i, v => v = .int i
  | .str s, v => v = .str s ∧ s.length ≤ sizeLine
  | .tup xs, v => ∃ a vs, v = .ref a ∧ TupAt K H a vs ∧ vs.length ≤ sizeLine ∧ Reps K H D xs vs
  | .lst xs, v => ∃ a vs, v = .ref a ∧ LstAt K H D a vs ∧ vs.length ≤ sizeLine ∧ Reps K H D xs vs
  | .dic ks xs, v => ∃ a vs, v = .ref a ∧ ¬ D a ∧ H a = some (.dK ((ks.map Sum.inl).zip vs)) ∧ vs.length = ks.length ∧ vs.length ≤ sizeLine ∧ Reps K H D xs vs
  | .ins C fs xs, v => ∃ a dx vs, v = .ref a ∧ ¬ D a ∧ H a = some (.ins C dx (fs.zip vs)) ∧ vs.length = fs.length ∧ Reps K H D xs vs
  | .raw u, v => v = u
def Reps (K : PySem.W.Frag) (H : Hp) (D : Addr → Prop) : List PV → List V → Prop
  | [], vs => vs = []
  | x :: xs, vs => ∃ v r, vs = v :: r ∧ Rep K H D x v ∧ Reps K H D xs r
end

/-- something stands there, no table of code objects -/
def Th (H : Hp) (b : Addr) : Prop := ∃ o, H b = some o ∧ ∀ ps, o ≠ .tbl ps
theorem Th.of {H : Hp} {b : Addr} {o : HO} (h : H b = some o) (t : ∀ ps, o ≠ .tbl ps) : Th H b := ⟨o, h, t⟩
theorem nth {H : Hp} {b : Addr} (h : H b = none) : ¬ Th H b := fun ⟨o, e, _⟩ => by rw [h] at e; cases e
/-- what may not be leant on, what may be written -/
structure Zone where
  D : Addr → Prop
  Mu : Addr → Prop
  le : ∀ b, Mu b → D b
/-- a zone all of which may be written -/
def Zone.all (D : Addr → Prop) : Zone := ⟨D, D, fun _ h => h⟩
/-- from one heap to a later one: what may not be written stands; the zones take in new places alone -/
structure Fr3 (H H' : Hp) (Z Z' : Zone) : Prop where
  keep : ∀ b o, H b = some o → ¬ Z.Mu b → (∀ ps, o ≠ .tbl ps) → H' b = some o
  live : ∀ b, Th H b → Th H' b
  tups : ∀ b xs, H b = some (.tup xs) → H' b = some (.tup xs)
  new : ∀ b, Z'.D b → Z.D b ∨ ¬ Th H b
  newM : ∀ b, Z'.Mu b → Z.Mu b ∨ ¬ Th H b
theorem Fr3.refl (H : Hp) (Z : Zone) : Fr3 H H Z Z := ⟨fun _ _ h _ _ => h, fun _ h => h, fun _ _ h => h, fun _ h => .inl h, fun _ h => .inl h⟩
theorem Fr3.trans {H1 H2 H3 : Hp} {Z1 Z2 Z3 : Zone} (a : Fr3 H1 H2 Z1 Z2) (b : Fr3 H2 H3 Z2 Z3) : Fr3 H1 H3 Z1 Z3 := by
  have back : ∀ c, ¬ Th H2 c → ¬ Th H1 c := fun c z h => z (a.live c h)
  refine ⟨fun c o h n t => b.keep c o (a.keep c o h n t) (fun d => ?_) t, fun c h => b.live c (a.live c h), fun c xs h => b.tups c xs (a.tups c xs h), fun c d => ?_, fun c d => ?_⟩
  · rcases a.newM c d with z | z
    · exact n z
    · exact z (.of h t)
  · rcases b.new c d with z | z
    · exact a.new c z
    · exact .inr (back c z)
  · rcases b.newM c d with z | z
    · exact a.newM c z
    · exact .inr (back c z)
theorem Same.fr {H H' : Hp} (s : Same H H') (Z : Zone) : Fr3 H H' Z Z := ⟨fun b o h _ _ => s b o h, fun b ⟨o, h, t⟩ => ⟨o, s b o h, t⟩, fun b xs h => s b _ h, fun _ h => .inl h, fun _ h => .inl h⟩
/-- the zone may shrink -/
theorem Fr3.shrink {H H' : Hp} {Z Z' Z'' : Zone} (f : Fr3 H H' Z Z') (h : ∀ b, Z''.D b → Z'.D b) (h' : ∀ b, Z''.Mu b → Z'.Mu b) : Fr3 H H' Z Z'' := ⟨f.keep, f.live, f.tups, fun b d => f.new b (h b d), fun b d => f.newM b (h' b d)⟩
/-- all may be written -/
theorem Fr3.all {H H' : Hp} {Z Z' : Zone} (f : Fr3 H H' Z Z') : Fr3 H H' (.all Z.D) (.all Z'.D) := ⟨fun b o h n t => f.keep b o h (fun d => n (Z.le b d)) t, f.live, f.tups, f.new, f.new⟩

section
variable {K : PySem.W.Frag} {H H' : Hp} {D D' : Addr → Prop} {Z Z' : Zone}
theorem TupAt.fr (f : Fr3 H H' Z Z') {a : Addr} {vs : List V} (h : TupAt K H a vs) : TupAt K H' a vs := by
  rcases h with h | h
  · exact .inl (f.tups _ _ h)
  · exact .inr h
theorem Fr3.nd (f : Fr3 H H' Z Z') {a : Addr} {o : HO} (h : H a = some o) (n : ¬ Z.D a) (t : ∀ ps, o ≠ .tbl ps) : ¬ Z'.D a := fun d => by
  rcases f.new a d with z | z
  · exact n z
  · exact z (.of h t)
theorem Fr3.kp (f : Fr3 H H' Z Z') {a : Addr} {o : HO} (h : H a = some o) (n : ¬ Z.D a) (t : ∀ ps, o ≠ .tbl ps) : H' a = some o := f.keep a o h (fun d => n (Z.le a d)) t
theorem Rd.fr (f : Fr3 H H' Z Z') {a : Addr} {vs : List V} (n : ¬ Z.D a) (h : Rd H a (.lst vs)) : Rd H' a (.lst vs) ∧ ¬ Z'.D a := by
  rcases h with h | ⟨o, h⟩
  · exact ⟨.inl (f.kp h n (fun _ z => by cases z)), f.nd h n (fun _ z => by cases z)⟩
  · exact ⟨.inr ⟨o, f.kp h n (fun _ z => by cases z)⟩, f.nd h n (fun _ z => by cases z)⟩
theorem LstAt.fr (f : Fr3 H H' Z Z') {a : Addr} {vs : List V} (h : LstAt K H Z.D a vs) : LstAt K H' Z'.D a vs := by
  rcases h with ⟨n, h⟩ | h
  · exact .inl ⟨(Rd.fr f n h).2, (Rd.fr f n h).1⟩
  · exact .inr h
mutual
theorem Rep.fr (f : Fr3 H H' Z Z') : ∀ (x : PV) {v : V}, Rep K H Z.D x v → Rep K H' Z'.D x v
  | .non, _, h => h
  | .bl _, _, h => h
  | .int _, _, h => h
  | .str _, _, h => h
  | .tup xs, _, h => by
    unfold Rep at h ⊢
    obtain ⟨a, vs, e, t, z, r⟩ := h
    exact ⟨a, vs, e, t.fr f, z, Reps.fr f xs r⟩
  | .lst xs, _, h => by
    unfold Rep at h ⊢
    obtain ⟨a, vs, e, t, z, r⟩ := h
    exact ⟨a, vs, e, t.fr f, z, Reps.fr f xs r⟩
  | .dic ks xs, _, h => by
    unfold Rep at h ⊢
    obtain ⟨a, vs, e, n, t, l, z, r⟩ := h
    exact ⟨a, vs, e, f.nd t n (fun _ z => by cases z), f.kp t n (fun _ z => by cases z), l, z, Reps.fr f xs r⟩
  | .ins C fs xs, _, h => by
    unfold Rep at h ⊢
    obtain ⟨a, dx, vs, e, n, t, l, r⟩ := h
    exact ⟨a, dx, vs, e, f.nd t n (fun _ z => by cases z), f.kp t n (fun _ z => by cases z), l, Reps.fr f xs r⟩
  | .raw _, _, h => h
theorem Reps.fr (f : Fr3 H H' Z Z') : ∀ (xs : List PV) {vs : List V}, Reps K H Z.D xs vs → Reps K H' Z'.D xs vs
  | [], _, h => h
  | x :: xs, _, h => by
    unfold Reps at h ⊢
    obtain ⟨v, r, e, h1, h2⟩ := h
    exact ⟨v, r, e, Rep.fr f x h1, Reps.fr f xs h2⟩
end
theorem Reps.len : ∀ {xs : List PV} {vs : List V}, Reps K H D xs vs → vs.length = xs.length
  | [], _, h => by unfold Reps at h; subst h; rfl
  | x :: xs, _, h => by
    unfold Reps at h
    obtain ⟨v, r, e, _, h2⟩ := h
    subst e
    simp [Reps.len h2]
theorem Reps.get : ∀ {xs : List PV} {vs : List V} {i : Nat} {x : PV}, Reps K H D xs vs → xs[i]? = some x → ∃ v, vs[i]? = some v ∧ Rep K H D x v
  | [], _, _, _, _, e => by simp at e
  | y :: ys, _, i, x, h, e => by
    unfold Reps at h
    obtain ⟨v, r, e1, h1, h2⟩ := h
    subst e1
    cases i with
    | zero => simp at e; subst e; exact ⟨v, by simp, h1⟩
    | succ i => 
      obtain ⟨u, q1, q2⟩ := Reps.get (i := i) h2 (by simpa using e)
      exact ⟨u, by simpa using q1, q2⟩
theorem Reps.getV : ∀ {xs : List PV} {vs : List V} {i : Nat} {v : V}, Reps K H D xs vs → vs[i]? = some v → ∃ x, xs[i]? = some x ∧ Rep K H D x v
  | [], _, _, _, h, e => by unfold Reps at h; subst h; simp at e
  | y :: ys, _, i, x, h, e => by
    unfold Reps at h
    obtain ⟨v, r, e1, h1, h2⟩ := h
    subst e1
    cases i with
    | zero => simp at e; subst e; exact ⟨y, by simp, h1⟩
    | succ i => 
      obtain ⟨u, q1, q2⟩ := Reps.getV (i := i) h2 (by simpa using e)
      exact ⟨u, by simpa using q1, q2⟩
theorem Reps.app : ∀ {xs ys : List PV} {vs us : List V}, Reps K H D xs vs → Reps K H D ys us → Reps K H D (xs ++ ys) (vs ++ us)
  | [], _, _, _, h, h' => by unfold Reps at h; subst h; exact h'
  | x :: xs, _, _, _, h, h' => by
    unfold Reps at h
    obtain ⟨v, r, e1, h1, h2⟩ := h
    subst e1
    show Reps K H D (x :: (xs ++ _)) _
    unfold Reps
    exact ⟨v, _, rfl, h1, Reps.app h2 h'⟩
theorem Reps.nil : Reps K H D [] [] := by unfold Reps; rfl
theorem Reps.cons {x : PV} {v : V} {xs : List PV} {vs : List V} (h : Rep K H D x v) (h' : Reps K H D xs vs) : Reps K H D (x :: xs) (v :: vs) := by
  unfold Reps
  exact ⟨v, vs, rfl, h, h'⟩
theorem Reps.set : ∀ {xs : List PV} {vs : List V} {x : PV} {v : V} (i : Nat), Reps K H D xs vs → Rep K H D x v → Reps K H D (xs.set i x) (vs.set i v)
  | [], _, _, _, _, h, _ => by unfold Reps at h; subst h; exact Reps.nil
  | y :: ys, _, x, v, i, h, h' => by
    unfold Reps at h
    obtain ⟨u, r, e1, h1, h2⟩ := h
    subst e1
    cases i with
    | zero => exact Reps.cons h' h2
    | succ i => exact Reps.cons h1 (Reps.set i h2 h')
theorem Reps.take : ∀ {xs : List PV} {vs : List V} (n : Nat), Reps K H D xs vs → Reps K H D (xs.take n) (vs.take n)
  | [], _, n, h => by unfold Reps at h; subst h; simp; exact Reps.nil
  | y :: ys, _, n, h => by
    unfold Reps at h
    obtain ⟨u, r, e1, h1, h2⟩ := h
    subst e1
    cases n with
    | zero => exact Reps.nil
    | succ n => exact Reps.cons h1 (Reps.take n h2)
theorem Reps.drop : ∀ {xs : List PV} {vs : List V} (n : Nat), Reps K H D xs vs → Reps K H D (xs.drop n) (vs.drop n)
  | [], _, n, h => by unfold Reps at h; subst h; simp; exact Reps.nil
  | y :: ys, _, n, h => by
    unfold Reps at h
    obtain ⟨u, r, e1, h1, h2⟩ := h
    subst e1
    cases n with
    | zero => exact Reps.cons h1 h2
    | succ n => exact Reps.drop n h2
/-- the same heap, a smaller D -/
theorem Fr3.dom {H : Hp} {D D' : Addr → Prop} (h : ∀ b, D' b → D b) : Fr3 H H (.all D) (.all D') := ⟨fun _ _ h _ _ => h, fun _ h => h, fun _ _ h => h, fun b d => .inl (h b d), fun b d => .inl (h b d)⟩
theorem Fr3.domZ {H : Hp} {Z Z' : Zone} (h : ∀ b, Z'.D b → Z.D b) (h' : ∀ b, Z'.Mu b → Z.Mu b) : Fr3 H H Z Z' := ⟨fun _ _ h _ _ => h, fun _ h => h, fun _ _ h => h, fun b d => .inl (h b d), fun b d => .inl (h' b d)⟩
end

/-! ## slots, the memory -/
inductive Slot where
  | un
  | val (x : PV)
  | own (x : PV)
/-- a mutable thing -/
inductive MO where
  | lst (xs : List PV)
  | ins (C : Addr) (fs : List (Str × PV))
abbrev Mem := Addr → Option MO
abbrev Sl := List Slot

section
variable (K : PySem.W.Frag) (H : Hp) (D : Addr → Prop)
def RepM (a : Addr) : MO → Prop
  | .lst xs => ∃ vs, H a = some (.lst vs) ∧ vs.length ≤ sizeLine ∧ Reps K H D xs vs
  | .ins C fs => ∃ dx vs, H a = some (.ins C dx ((fs.map (·.1)).zip vs)) ∧ vs.length = fs.length ∧ Reps K H D (fs.map (·.2)) vs
def RepO : PV → Addr → Prop
  | .lst xs, a => ∃ vs, H a = some (.lst vs) ∧ vs.length ≤ sizeLine ∧ Reps K H D xs vs
  | .dic ks xs, a => ∃ vs, H a = some (.dK ((ks.map Sum.inl).zip vs)) ∧ vs.length = ks.length ∧ vs.length ≤ sizeLine ∧ Reps K H D xs vs
  | _, _ => False
/-- what may be read at once -/
def RepR : PV → V → Prop
  | .lst xs, v => ∃ a vs, v = .ref a ∧ SqL K H a vs ∧ vs.length ≤ sizeLine ∧ Reps K H D xs vs
  | .dic ks xs, v => ∃ a vs, v = .ref a ∧ H a = some (.dK ((ks.map Sum.inl).zip vs)) ∧ vs.length = ks.length ∧ vs.length ≤ sizeLine ∧ Reps K H D xs vs
  | .ins C fs xs, v => ∃ a dx vs, v = .ref a ∧ H a = some (.ins C dx (fs.zip vs)) ∧ vs.length = fs.length ∧ Reps K H D xs vs
  | x, v => Rep K H D x v
end

def Dm (DE : Addr → Prop) (σ : Sl) (M : Mem) (oa : Nat → Addr) : Addr → Prop := fun b => DE b ∨ (∃ mo, M b = some mo) ∨ ∃ (i : Nat) (x : PV), σ[i]? = some (Slot.own x) ∧ oa i = b

def Zm (DE : Addr → Prop) (σ : Sl) (M : Mem) (oa : Nat → Addr) : Zone := ⟨Dm DE σ M oa, fun b => ∃ mo, M b = some mo, fun _ h => .inr (.inl h)⟩
/-- the entry: the places that are not ours, the heap, the memory, the tables of code objects -/
structure Base where
  DE : Addr → Prop
  HE : Hp
  ME : Mem
  T : List (Addr × Str)

structure RMem (K : PySem.W.Frag) (B : Base) (M : Mem) (H : Hp) (D : Addr → Prop) : Prop where
  mem : ∀ a mo, M a = some mo → RepM K H D a mo
  sub : ∀ b, B.DE b ∨ (∃ mo, M b = some mo) → D b
  keep : ∀ b o, B.HE b = some o → B.ME b = none → (B.T = [] ∨ ∀ ps, o ≠ .tbl ps) → H b = some o
  live : ∀ b, Th B.HE b → Th H b
  tups : ∀ b xs, B.HE b = some (.tup xs) → H b = some (.tup xs)
  new : ∀ b, D b → B.DE b ∨ ¬ Th B.HE b
  newM : ∀ b, (∃ mo, M b = some mo) → (∃ mo, B.ME b = some mo) ∨ ¬ Th B.HE b
  dom : ∀ b, D b → Th H b
  tabs : LamX.Tabs B.T H

structure R3 (K : PySem.W.Frag) (B : Base) (σ : Sl) (M : Mem) (τ : L2.St) (H : Hp) (oa : Nat → Addr) : Prop where
  mem : RMem K B M H (Dm B.DE σ M oa)
  len : σ.length = τ.length
  slot : ∀ (i : Nat) x, σ[i]? = some (Slot.val x) → ∃ v, τ[i]? = some (some v) ∧ Rep K H (Dm B.DE σ M oa) x v
  own : ∀ (i : Nat) x, σ[i]? = some (Slot.own x) → τ[i]? = some (some (.ref (oa i))) ∧ RepO K H (Dm B.DE σ M oa) x (oa i)
  inj : ∀ (i j : Nat) x y, σ[i]? = some (Slot.own x) → σ[j]? = some (Slot.own y) → oa i = oa j → i = j
  nm : ∀ (i : Nat) x, σ[i]? = some (Slot.own x) → M (oa i) = none ∧ ¬ B.DE (oa i)
end T3

namespace T3
open PySem PySem.Spec PyProof.Rows L2

section
variable {K : PySem.W.Frag} {B : Base} {σ : Sl} {M M' : Mem} {τ : L2.St} {H H' : Hp} {oa : Nat → Addr} {D D' : Addr → Prop} {Z Z' : Zone}
theorem RepM.fr (f : Fr3 H H' Z Z') {a : Addr} {mo : MO} (e : H a = H' a) (h : RepM K H Z.D a mo) : RepM K H' Z'.D a mo := by
  cases mo with
  | lst xs => obtain ⟨vs, q, z, r⟩ := h; exact ⟨vs, e ▸ q, z, r.fr f⟩
  | ins C fs => obtain ⟨dx, vs, q, z, r⟩ := h; exact ⟨dx, vs, e ▸ q, z, r.fr f⟩
theorem RepO.fr (f : Fr3 H H' Z Z') {a : Addr} {x : PV} (e : H a = H' a) (h : RepO K H Z.D x a) : RepO K H' Z'.D x a := by
  cases x with
  | lst xs => obtain ⟨vs, q, z, r⟩ := h; exact ⟨vs, e ▸ q, z, r.fr f⟩
  | dic ks xs => obtain ⟨vs, q, l, z, r⟩ := h; exact ⟨vs, e ▸ q, l, z, r.fr f⟩
  | _ => exact h.elim
theorem RepM.there {a : Addr} {mo : MO} (h : RepM K H D a mo) : ∃ o, H a = some o := by
  cases mo with
  | lst xs => obtain ⟨vs, q, z, r⟩ := h; exact ⟨_, q⟩
  | ins C fs => obtain ⟨dx, vs, q, z, r⟩ := h; exact ⟨_, q⟩
theorem RepO.there {a : Addr} {x : PV} (h : RepO K H D x a) : ∃ o, H a = some o ∧ ∀ ps, o ≠ .tbl ps := by
  cases x with
  | lst xs => obtain ⟨vs, q, z, r⟩ := h; exact ⟨_, q, fun _ z => by cases z⟩
  | dic ks xs => obtain ⟨vs, q, l, z, r⟩ := h; exact ⟨_, q, fun _ z => by cases z⟩
  | _ => exact h.elim
theorem Rep.readable {x : PV} {v : V} (h : Rep K H D x v) : RepR K H D x v := by
  cases x with
  | lst xs => unfold Rep at h; obtain ⟨a, vs, e, t, z, r⟩ := h; exact ⟨a, vs, e, t.sq, z, r⟩
  | dic ks xs => unfold Rep at h; obtain ⟨a, vs, e, n, t, l, z, r⟩ := h; exact ⟨a, vs, e, t, l, z, r⟩
  | ins C fs xs => unfold Rep at h; obtain ⟨a, dx, vs, e, n, t, l, r⟩ := h; exact ⟨a, dx, vs, e, t, l, r⟩
  | _ => exact h
theorem RepO.readable {x : PV} {a : Addr} (h : RepO K H D x a) : RepR K H D x (.ref a) := by
  cases x with
  | lst xs => obtain ⟨vs, q, z, r⟩ := h; exact ⟨a, vs, rfl, .of q, z, r⟩
  | dic ks xs => obtain ⟨vs, q, l, z, r⟩ := h; exact ⟨a, vs, rfl, q, l, z, r⟩
  | _ => exact h.elim
/-- an own thing is given away: it is frozen from now on -/
theorem RepO.freeze {x : PV} {a : Addr} (h : RepO K H D x a) (n : ¬ D' a) (sub : ∀ b, D' b → D b) : Rep K H D' x (.ref a) := by
  cases x with
  | lst xs => obtain ⟨vs, q, z, r⟩ := h; unfold Rep; exact ⟨a, vs, rfl, .inl ⟨n, .of q⟩, z, r.fr (Fr3.dom sub)⟩
  | dic ks xs => obtain ⟨vs, q, l, z, r⟩ := h; unfold Rep; exact ⟨a, vs, rfl, n, q, l, z, r.fr (Fr3.dom sub)⟩
  | _ => exact h.elim
/-- what a tree leans on is below D -/
theorem RepM.sub (h : RepM K H D a mo) (s : ∀ b, D' b → D b) : RepM K H D' a mo := h.fr (Fr3.dom s) rfl
theorem RepO.sub {x : PV} (h : RepO K H D x a) (s : ∀ b, D' b → D b) : RepO K H D' x a := h.fr (Fr3.dom s) rfl

theorem R3.domH (R : R3 K B σ M τ H oa) : ∀ b, Dm B.DE σ M oa b → Th H b := R.mem.dom
theorem RepM.ntbl {a : Addr} {mo : MO} (h : RepM K H D a mo) : ∃ o, H a = some o ∧ ∀ ps, o ≠ .tbl ps := by
  cases mo with
  | lst xs => obtain ⟨vs, q, z, r⟩ := h; exact ⟨_, q, fun _ z => by cases z⟩
  | ins C fs => obtain ⟨dx, vs, q, z, r⟩ := h; exact ⟨_, q, fun _ z => by cases z⟩
/-- the same slots and memory at a later heap where nothing of ours has changed -/
theorem R3.later (R : R3 K B σ M τ H oa) (h : ∀ b o, H b = some o → (∀ ps, o ≠ .tbl ps) → H' b = some o) (ht : LamX.Tabs B.T H') (hk : B.T = [] → ∀ b o, H b = some o → H' b = some o) (hl : ∀ b, Th H b → Th H' b) :
    R3 K B σ M τ H' oa ∧ Fr3 H H' (Zm B.DE σ M oa) (Zm B.DE σ M oa) := by
  have f : Fr3 H H' (Zm B.DE σ M oa) (Zm B.DE σ M oa) := ⟨fun b o e _ t => h b o e t, hl, fun b xs e => h b _ e (fun _ z => by cases z), fun _ d => .inl d, fun _ d => .inl d⟩
  have eM : ∀ a mo, RepM K H (Dm B.DE σ M oa) a mo → H a = H' a := fun a mo r => by
    obtain ⟨o, q, t⟩ := r.ntbl
    rw [q, h _ _ q t]
  refine ⟨⟨⟨fun a mo e => (R.mem.mem a mo e).fr f (eM a mo (R.mem.mem a mo e)), R.mem.sub, fun b o e n t => ?_, fun b n => hl b (R.mem.live b n), fun b xs e => f.tups b xs (R.mem.tups b xs e), R.mem.new, R.mem.newM, fun b d => hl b (R.mem.dom b d), ht⟩, R.len, fun i x e => ?_, fun i x e => ?_, R.inj, R.nm⟩, f⟩
  · have q := R.mem.keep b o e n t
    rcases t with t | t
    · exact hk t b o q
    · exact h b o q t
  · obtain ⟨v, q, r⟩ := R.slot i x e
    exact ⟨v, q, r.fr f⟩
  · obtain ⟨q, r⟩ := R.own i x e
    obtain ⟨o, z, t⟩ := r.there
    exact ⟨q, r.fr f (by rw [z, h _ _ z t])⟩
theorem R3.same (R : R3 K B σ M τ H oa) (s : Same H H') : R3 K B σ M τ H' oa ∧ Fr3 H H' (Zm B.DE σ M oa) (Zm B.DE σ M oa) :=
  R.later (fun b o e _ => s b o e) (R.mem.tabs.ext s) (fun _ b o e => s b o e) (fun b ⟨o, e, t⟩ => ⟨o, s b o e, t⟩)
/-- behind a call: the memory is another one, all else stands -/
theorem R3.calledT (R : R3 K B σ M τ H oa) {D' : Addr → Prop} (keep : ∀ b o, H b = some o → M b = none → (B.T = [] ∨ ∀ ps, o ≠ .tbl ps) → H' b = some o) (tabs : LamX.Tabs B.T H') (tups : ∀ b xs, H b = some (.tup xs) → H' b = some (.tup xs)) (live : ∀ b, Th H b → Th H' b)
    (hm : ∀ a mo, M' a = some mo → RepM K H' D' a mo) (hs : ∀ b, Dm B.DE σ M oa b ∨ (∃ mo, M' b = some mo) → D' b) (hn : ∀ b, D' b → Dm B.DE σ M oa b ∨ ¬ Th H b)
    (hnM : ∀ b, (∃ mo, M' b = some mo) → (∃ mo, M b = some mo) ∨ ¬ Th H b) :
    R3 K B σ M' τ H' oa ∧ Fr3 H H' (Zm B.DE σ M oa) (Zm B.DE σ M' oa) ∧ ∀ b, Dm B.DE σ M' oa b → D' b := by
  have hsub : ∀ b, Dm B.DE σ M' oa b → D' b := fun b d => by
    rcases d with d | d | ⟨i, x, e, d⟩
    · exact hs b (.inl (.inl d))
    · exact hs b (.inr d)
    · exact hs b (.inl (.inr (.inr ⟨i, x, e, d⟩)))
  have kp : ∀ b o, H b = some o → ¬ (∃ mo, M b = some mo) → (∀ ps, o ≠ .tbl ps) → H' b = some o := fun b o e n t => keep b o e (by
      cases q : M b with
      | none => rfl
      | some mo => exact absurd ⟨mo, q⟩ n) (.inr t)
  have f2 : Fr3 H H' (Zm B.DE σ M oa) (Zm B.DE σ M' oa) := ⟨fun b o e n t => kp b o e n t, live, tups, fun b d => hn b (hsub b d), hnM⟩
  have Hn : ∀ b, ¬ Th H b → ¬ Th B.HE b := fun b e q => e (R.mem.live b q)
  refine ⟨⟨⟨fun a mo e => RepM.sub (hm a mo e) hsub, fun b d => d.elim .inl fun d => .inr (.inl d), fun b o e n t => ?_, fun b n => live b (R.mem.live b n), fun b xs e => tups b xs (R.mem.tups b xs e), fun b d => ?_, fun b d => ?_, fun b d => ?_, tabs⟩, R.len, fun i x e => ?_, fun i x e => ?_, R.inj, fun i x e => ⟨?_, (R.nm i x e).2⟩⟩, f2, hsub⟩
  · refine keep b o (R.mem.keep b o e n t) ?_ t
    cases q : M b with
    | none => rfl
    | some mo =>
      rcases R.mem.newM b ⟨mo, q⟩ with ⟨mo', z⟩ | z
      · rw [n] at z; cases z
      · exfalso
        obtain ⟨o', h1, h2⟩ := (R.mem.mem b mo q).ntbl
        rw [R.mem.keep b o e n t] at h1
        cases h1
        exact z ⟨o, e, h2⟩
  · rcases f2.new b d with z | z
    · exact R.mem.new b z
    · exact .inr (Hn b z)
  · rcases hnM b d with z | z
    · exact R.mem.newM b z
    · exact .inr (Hn b z)
  · rcases d with d | ⟨mo, d⟩ | ⟨i, x, e, d⟩
    · exact live b (R.mem.dom b (.inl d))
    · exact (hm b mo d).ntbl
    · exact live b (R.mem.dom b (.inr (.inr ⟨i, x, e, d⟩)))
  · obtain ⟨v, q, r⟩ := R.slot i x e
    exact ⟨v, q, r.fr f2⟩
  · obtain ⟨q, r⟩ := R.own i x e
    obtain ⟨o, z, t⟩ := r.there
    exact ⟨q, r.fr f2 (by rw [z, keep _ _ z (R.nm i x e).1 (.inr t)])⟩
  · cases q : M' (oa i) with
    | none => rfl
    | some mo =>
      rcases hnM (oa i) ⟨mo, q⟩ with ⟨mo', z⟩ | z
      · rw [(R.nm i x e).1] at z; cases z
      · exact absurd (R.mem.dom _ (.inr (.inr ⟨i, x, e, rfl⟩))) z
theorem R3.called (R : R3 K B σ M τ H oa) {D' : Addr → Prop} (keep : ∀ b o, H b = some o → M b = none → H' b = some o) (tups : ∀ b xs, H b = some (.tup xs) → H' b = some (.tup xs)) (live : ∀ b, Th H b → Th H' b)
    (hm : ∀ a mo, M' a = some mo → RepM K H' D' a mo) (hs : ∀ b, Dm B.DE σ M oa b ∨ (∃ mo, M' b = some mo) → D' b) (hn : ∀ b, D' b → Dm B.DE σ M oa b ∨ ¬ Th H b)
    (hnM : ∀ b, (∃ mo, M' b = some mo) → (∃ mo, M b = some mo) ∨ ¬ Th H b) :
    R3 K B σ M' τ H' oa ∧ Fr3 H H' (Zm B.DE σ M oa) (Zm B.DE σ M' oa) ∧ ∀ b, Dm B.DE σ M' oa b → D' b := by
  refine R.calledT (fun b o e n _ => keep b o e n) (fun p hp => ?_) tups live hm hs hn hnM
  obtain ⟨ps, h1, h2, h3⟩ := R.mem.tabs p hp
  have nt : ∀ b ps, H b = some (.tbl ps) → M b = none := fun b ps e => by
    cases q : M b with
    | none => rfl
    | some mo =>
      obtain ⟨o, z, t⟩ := (R.mem.mem b mo q).ntbl
      rw [e] at z; cases z
      exact absurd rfl (t ps)
  refine ⟨ps, keep _ _ h1 (nt _ _ h1), h2, fun pos cv hc => ?_⟩
  obtain ⟨c, e1, e2⟩ := h3 pos cv hc
  refine ⟨c, e1, keep _ _ e2 ?_⟩
  cases q : M c with
  | none => rfl
  | some mo =>
    have z := R.mem.mem c mo q
    cases mo with
    | lst xs => obtain ⟨vs, y, _⟩ := z; rw [e2] at y; unfold LamX.CodeO at y; cases y
    | ins C fs => obtain ⟨dx, vs, y, _⟩ := z; rw [e2] at y; unfold LamX.CodeO at y; cases y
/-! ### slots -/
theorem Dm.set_le {DE : Addr → Prop} {s : Slot} {k : Nat} (h : ∀ x, s ≠ Slot.own x) : ∀ b, Dm DE (σ.set k s) M oa b → Dm DE σ M oa b := fun b d => by
  rcases d with d | d | ⟨i, x, e, d⟩
  · exact .inl d
  · exact .inr (.inl d)
  · refine .inr (.inr ⟨i, x, ?_, d⟩)
    by_cases hk : k = i
    · subst hk
      rw [List.getElem?_set] at e
      split at e
      · split at e
        · exact absurd (Option.some.inj e) (h x)
        · cases e
      · rename_i hh; exact absurd rfl hh
    · rw [List.getElem?_set_ne hk] at e; exact e
theorem RMem.sub_ (R : RMem K B M H D) (s : ∀ b, D' b → D b) (k : ∀ b, B.DE b ∨ (∃ mo, M b = some mo) → D' b) : RMem K B M H D' :=
  ⟨fun a mo e => (R.mem a mo e).sub s, k, R.keep, R.live, R.tups, fun b d => R.new b (s b d), R.newM, fun b d => R.dom b (s b d), R.tabs⟩
/-- a slot takes a value -/
theorem R3.put (R : R3 K B σ M τ H oa) {k : Nat} {x : PV} {v : V} (r : Rep K H (Dm B.DE σ M oa) x v) : R3 K B (σ.set k (.val x)) M (τ.set k (some v)) H oa ∧ Fr3 H H (Zm B.DE σ M oa) (Zm B.DE (σ.set k (.val x)) M oa) := by
  have le : ∀ b, Dm B.DE (σ.set k (.val x)) M oa b → Dm B.DE σ M oa b := Dm.set_le fun y z => by cases z
  have f : Fr3 H H (Zm B.DE σ M oa) (Zm B.DE (σ.set k (.val x)) M oa) := Fr3.domZ le fun _ d => d
  have ow : ∀ (i : Nat) y, (σ.set k (Slot.val x))[i]? = some (Slot.own y) → i ≠ k ∧ σ[i]? = some (Slot.own y) := fun i y e => by
    by_cases hk : k = i
    · subst hk
      rw [List.getElem?_set] at e
      split at e
      · split at e
        · cases e
        · cases e
      · rename_i hh; exact absurd rfl hh
    · rw [List.getElem?_set_ne hk] at e; exact ⟨fun z => hk z.symm, e⟩
  refine ⟨⟨R.mem.sub_ le fun b d => d.elim .inl fun d => .inr (.inl d), by simp [R.len], fun i y e => ?_, fun i y e => ?_, fun i j y z e1 e2 q => R.inj i j y z (ow i y e1).2 (ow j z e2).2 q, fun i y e => R.nm i y (ow i y e).2⟩, f⟩
  · by_cases hk : k = i
    · subst hk
      have hl : k < σ.length := by
        have := List.getElem?_eq_some_iff.mp e
        obtain ⟨h, _⟩ := this
        simpa using h
      rw [List.getElem?_set_self hl] at e
      cases e
      exact ⟨v, by rw [List.getElem?_set_self (by rw [← R.len]; exact hl)], r.fr f⟩
    · rw [List.getElem?_set_ne hk] at e
      obtain ⟨u, q, r'⟩ := R.slot i y e
      exact ⟨u, by rw [List.getElem?_set_ne hk]; exact q, r'.fr f⟩
  · obtain ⟨n, e'⟩ := ow i y e
    obtain ⟨q, r'⟩ := R.own i y e'
    exact ⟨by rw [List.getElem?_set_ne (Ne.symm n)]; exact q, r'.sub le⟩
/-- a slot is forgotten -/
theorem R3.forget (R : R3 K B σ M τ H oa) {k : Nat} {v : Option V} : R3 K B (σ.set k .un) M (τ.set k v) H oa := by
  have le : ∀ b, Dm B.DE (σ.set k .un) M oa b → Dm B.DE σ M oa b := Dm.set_le fun y z => by cases z
  have nt : ∀ (i : Nat) (s : Slot), (σ.set k Slot.un)[i]? = some s → s ≠ .un → i ≠ k ∧ σ[i]? = some s := fun i s e hs => by
    by_cases hk : k = i
    · subst hk
      rw [List.getElem?_set] at e
      split at e
      · split at e
        · exact absurd (Option.some.inj e).symm hs
        · cases e
      · rename_i hh; exact absurd rfl hh
    · rw [List.getElem?_set_ne hk] at e; exact ⟨fun z => hk z.symm, e⟩
  refine ⟨R.mem.sub_ le fun b d => d.elim .inl fun d => .inr (.inl d), by simp [R.len], fun i y e => ?_, fun i y e => ?_, fun i j y z e1 e2 q => R.inj i j y z (nt i _ e1 (by simp)).2 (nt j _ e2 (by simp)).2 q, fun i y e => R.nm i y (nt i _ e (by simp)).2⟩
  · obtain ⟨n, e'⟩ := nt i _ e (by simp)
    obtain ⟨u, q, r'⟩ := R.slot i y e'
    exact ⟨u, by rw [List.getElem?_set_ne (Ne.symm n)]; exact q, r'.fr (Fr3.dom le)⟩
  · obtain ⟨n, e'⟩ := nt i _ e (by simp)
    obtain ⟨q, r'⟩ := R.own i y e'
    exact ⟨by rw [List.getElem?_set_ne (Ne.symm n)]; exact q, r'.sub le⟩
/-- an own thing is frozen: its slot holds a value -/
theorem R3.frozen (R : R3 K B σ M τ H oa) {k : Nat} {x : PV} (e : σ[k]? = some (Slot.own x)) : R3 K B (σ.set k (.val x)) M τ H oa ∧ Fr3 H H (Zm B.DE σ M oa) (Zm B.DE (σ.set k (.val x)) M oa) := by
  have hl : k < σ.length := (List.getElem?_eq_some_iff.mp e).1
  have le : ∀ b, Dm B.DE (σ.set k (.val x)) M oa b → Dm B.DE σ M oa b := Dm.set_le fun y z => by cases z
  obtain ⟨q0, r0⟩ := R.own k x e
  have f : Fr3 H H (Zm B.DE σ M oa) (Zm B.DE (σ.set k (.val x)) M oa) := Fr3.domZ le fun _ d => d
  have ow : ∀ (i : Nat) y, (σ.set k (Slot.val x))[i]? = some (Slot.own y) → i ≠ k ∧ σ[i]? = some (Slot.own y) := fun i y e => by
    by_cases hk : k = i
    · subst hk
      rw [List.getElem?_set_self hl] at e; cases e
    · rw [List.getElem?_set_ne hk] at e; exact ⟨fun z => hk z.symm, e⟩
  have nk : ¬ Dm B.DE (σ.set k (.val x)) M oa (oa k) := fun d => by
    rcases d with d | ⟨mo, d⟩ | ⟨i, y, e', d⟩
    · exact (R.nm k x e).2 d
    · rw [(R.nm k x e).1] at d; cases d
    · obtain ⟨n, e''⟩ := ow i y e'
      exact n (R.inj i k y x e'' e d)
  refine ⟨⟨R.mem.sub_ le fun b d => d.elim .inl fun d => .inr (.inl d), by simp [R.len], fun i y e' => ?_, fun i y e' => ?_, fun i j y z e1 e2 q => R.inj i j y z (ow i y e1).2 (ow j z e2).2 q, fun i y e' => R.nm i y (ow i y e').2⟩, f⟩
  · by_cases hk : k = i
    · subst hk
      rw [List.getElem?_set_self hl] at e'
      cases e'
      exact ⟨_, q0, r0.freeze nk le⟩
    · rw [List.getElem?_set_ne hk] at e'
      obtain ⟨u, q, r'⟩ := R.slot i y e'
      exact ⟨u, q, r'.fr f⟩
  · obtain ⟨n, e''⟩ := ow i y e'
    obtain ⟨q, r'⟩ := R.own i y e''
    exact ⟨q, r'.sub le⟩
end
end T3

namespace T3
open PySem PySem.Spec PyProof.Rows L2

/-- one place more that is not ours -/
def Base.plus (B : Base) (a : Addr) : Base := { B with DE := fun b => B.DE b ∨ b = a }

section
variable {K : PySem.W.Frag} {B : Base} {σ : Sl} {M M' : Mem} {τ : L2.St} {H H' : Hp} {oa : Nat → Addr} {D D' : Addr → Prop}
theorem Dm.plus {a b : Addr} : Dm (B.plus a).DE σ M oa b ↔ Dm B.DE σ M oa b ∨ b = a := by
  constructor
  · rintro ((d | d) | d)
    · exact .inl (.inl d)
    · exact .inr d
    · exact .inl (.inr d)
  · rintro ((d | d) | d)
    · exact .inl (.inl d)
    · exact .inr d
    · exact .inl (.inr d)
/-- a fresh thing at a stands, known to nobody -/
structure Fresh (K : PySem.W.Frag) (B : Base) (σ : Sl) (M : Mem) (τ : L2.St) (H : Hp) (oa : Nat → Addr) (x : PV) (a : Addr) : Prop where
  st : R3 K (B.plus a) σ M τ H oa
  rep : RepO K H (Dm (B.plus a).DE σ M oa) x a
  hE : ¬ Th B.HE a
  nd : ¬ Dm B.DE σ M oa a
theorem R3.alloc (R : R3 K B σ M τ H oa) {p : Addr} (hp : H p = none) (o : HO) (to : ∀ ps, o ≠ .tbl ps) : R3 K (B.plus p) σ M τ (upd H p o) oa ∧ Fr3 H (upd H p o) (Zm B.DE σ M oa) (Zm (B.plus p).DE σ M oa) := by
  have sm : Same H (upd H p o) := fun b u e => by rw [upd_ne (ne_of_none e hp)]; exact e
  have ne : ∀ b u, H b = some u → H b = upd H p o b := fun b u e => by rw [upd_ne (ne_of_none e hp)]
  have lv : ∀ b, Th H b → Th (upd H p o) b := fun b ⟨u, q, t⟩ => ⟨u, sm b u q, t⟩
  have f : Fr3 H (upd H p o) (Zm B.DE σ M oa) (Zm (B.plus p).DE σ M oa) := ⟨fun b u e _ _ => sm b u e, lv, fun b xs e => sm b _ e, fun b d => (Dm.plus.mp d).elim .inl fun z => .inr (nth (by rw [z]; exact hp)), fun _ d => .inl d⟩
  refine ⟨⟨⟨fun a mo e => ?_, fun b d => ?_, fun b u e n t => sm b u (R.mem.keep b u e n t), fun b n => lv b (R.mem.live b n), fun b xs e => sm b _ (R.mem.tups b xs e), fun b d => ?_, R.mem.newM, fun b d => ?_, R.mem.tabs.ext sm⟩, R.len, fun i x e => ?_, fun i x e => ?_, R.inj, fun i x e => ⟨(R.nm i x e).1, ?_⟩⟩, f⟩
  · have r := R.mem.mem a mo e
    obtain ⟨u, q⟩ := r.there
    exact r.fr f (ne _ _ q)
  · rcases d with (d | d) | d
    · exact .inl (.inl d)
    · exact .inl (.inr d)
    · exact .inr (.inl d)
  · rcases Dm.plus.mp d with d | d
    · exact (R.mem.new b d).elim (fun z => .inl (.inl z)) .inr
    · exact .inl (.inr d)
  · rcases Dm.plus.mp d with d | d
    · exact lv b (R.mem.dom b d)
    · rw [d]; exact ⟨o, upd_same, to⟩
  · obtain ⟨v, q, r⟩ := R.slot i x e
    exact ⟨v, q, r.fr f⟩
  · obtain ⟨q, r⟩ := R.own i x e
    obtain ⟨u, z, _⟩ := r.there
    exact ⟨q, r.fr f (ne _ _ z)⟩
  · rintro (d | d)
    · exact (R.nm i x e).2 d
    · exact nth (by rw [d]; exact hp) (R.mem.dom _ (.inr (.inr ⟨i, x, e, rfl⟩)))
theorem R3.none_E (R : R3 K B σ M τ H oa) {p : Addr} (hp : H p = none) : ¬ Th B.HE p := fun q => nth hp (R.mem.live p q)
theorem R3.none_D (R : R3 K B σ M τ H oa) {p : Addr} (hp : H p = none) : ¬ Dm B.DE σ M oa p := fun d => nth hp (R.mem.dom p d)
/-- a new list -/
theorem R3.newList (R : R3 K B σ M τ H oa) {p : Addr} (hp : H p = none) {xs : List PV} {vs : List V} (r : Reps K H (Dm B.DE σ M oa) xs vs) (z : vs.length ≤ sizeLine) :
    Fresh K B σ M τ (upd H p (.lst vs)) oa (.lst xs) p ∧ Fr3 H (upd H p (.lst vs)) (Zm B.DE σ M oa) (Zm (B.plus p).DE σ M oa) := by
  obtain ⟨R', f⟩ := R.alloc hp (.lst vs) (fun _ z => by cases z)
  exact ⟨⟨R', ⟨vs, upd_same, z, r.fr f⟩, R.none_E hp, R.none_D hp⟩, f⟩
/-- the place is ours again -/
theorem R3.minus {a : Addr} (R : R3 K (B.plus a) σ M τ H oa) (hE : ¬ Th B.HE a) : R3 K B σ M τ H oa ∧ Fr3 H H (Zm (B.plus a).DE σ M oa) (Zm B.DE σ M oa) := by
  have le : ∀ b, Dm B.DE σ M oa b → Dm (B.plus a).DE σ M oa b := fun b d => Dm.plus.mpr (.inl d)
  have f : Fr3 H H (Zm (B.plus a).DE σ M oa) (Zm B.DE σ M oa) := Fr3.domZ le fun _ d => d
  refine ⟨⟨⟨fun b mo e => (R.mem.mem b mo e).sub le, fun b d => d.elim .inl fun d => .inr (.inl d), R.mem.keep, R.mem.live, R.mem.tups, fun b d => ?_, R.mem.newM, fun b d => R.mem.dom b (le b d), R.mem.tabs⟩, R.len, fun i x e => ?_, fun i x e => ?_, R.inj, fun i x e => ⟨(R.nm i x e).1, fun d => (R.nm i x e).2 (.inl d)⟩⟩, f⟩
  · rcases R.mem.new b (le b d) with (z | z) | z
    · exact .inl z
    · exact .inr (by rw [z]; exact hE)
    · exact .inr z
  · obtain ⟨v, q, r⟩ := R.slot i x e
    exact ⟨v, q, r.fr f⟩
  · obtain ⟨q, r⟩ := R.own i x e
    exact ⟨q, r.sub le⟩
theorem Fresh.frozen {x : PV} {a : Addr} (F : Fresh K B σ M τ H oa x a) : R3 K B σ M τ H oa ∧ Rep K H (Dm B.DE σ M oa) x (.ref a) :=
  ⟨(F.st.minus F.hE).1, F.rep.freeze F.nd fun b d => Dm.plus.mpr (.inl d)⟩
/-- a slot takes a fresh list or dict as its own -/
theorem Fresh.putOwn {x : PV} {a : Addr} (F : Fresh K B σ M τ H oa x a) {k : Nat} :
    R3 K B (σ.set k (.own x)) M (τ.set k (some (.ref a))) H (fun j => if j = k then a else oa j) ∧ ∀ b, Dm B.DE (σ.set k (.own x)) M (fun j => if j = k then a else oa j) b → Dm (B.plus a).DE σ M oa b := by
  have R := F.st
  have ow : ∀ (i : Nat) y, (σ.set k (Slot.own x))[i]? = some (Slot.own y) → (i = k ∧ y = x ∧ k < σ.length) ∨ (i ≠ k ∧ σ[i]? = some (Slot.own y)) := fun i y e => by
    by_cases hk : k = i
    · subst hk
      have hl : k < σ.length := by
        obtain ⟨h, _⟩ := List.getElem?_eq_some_iff.mp e
        simpa using h
      rw [List.getElem?_set_self hl] at e
      cases e
      exact .inl ⟨rfl, rfl, hl⟩
    · rw [List.getElem?_set_ne hk] at e; exact .inr ⟨fun z => hk z.symm, e⟩
  have sub : ∀ b, Dm B.DE (σ.set k (.own x)) M (fun j => if j = k then a else oa j) b → Dm (B.plus a).DE σ M oa b := fun b d => by
    rcases d with d | d | ⟨i, y, e, d⟩
    · exact .inl (.inl d)
    · exact .inr (.inl d)
    · rcases ow i y e with ⟨e1, _, _⟩ | ⟨e1, e2⟩
      · subst e1; simp at d; exact .inl (.inr d.symm)
      · simp [e1] at d; exact .inr (.inr ⟨i, y, e2, d⟩)
  have f := Fr3.dom (H := H) sub
  have na : ∀ (i : Nat) y, σ[i]? = some (Slot.own y) → oa i ≠ a := fun i y e z => F.nd (.inr (.inr ⟨i, y, e, z⟩))
  refine ⟨?_, sub⟩
  refine ⟨⟨fun b mo e => (R.mem.mem b mo e).sub sub, fun b d => d.elim .inl fun d => .inr (.inl d), R.mem.keep, R.mem.live, R.mem.tups, fun b d => ?_, R.mem.newM, fun b d => R.mem.dom b (sub b d), R.mem.tabs⟩, by simp [R.len], fun i y e => ?_, fun i y e => ?_, fun i j y z e1 e2 q => ?_, fun i y e => ?_⟩
  · rcases R.mem.new b (sub b d) with (z | z) | z
    · exact .inl z
    · exact .inr (by rw [z]; exact F.hE)
    · exact .inr z
  · have e' : i ≠ k ∧ σ[i]? = some (Slot.val y) := by
      by_cases hk : k = i
      · subst hk
        rw [List.getElem?_set] at e
        split at e
        · split at e
          · cases e
          · cases e
        · rename_i hh; exact absurd rfl hh
      · rw [List.getElem?_set_ne hk] at e; exact ⟨fun z => hk z.symm, e⟩
    obtain ⟨v, q, r⟩ := R.slot i y e'.2
    exact ⟨v, by rw [List.getElem?_set_ne (Ne.symm e'.1)]; exact q, r.fr f⟩
  · rcases ow i y e with ⟨e1, e2, hl⟩ | ⟨e1, e2⟩
    · subst e1; subst e2
      refine ⟨by rw [List.getElem?_set_self (by rw [← R.len]; exact hl)]; simp, ?_⟩
      simp
      exact F.rep.sub sub
    · obtain ⟨q, r⟩ := R.own i y e2
      simp [e1]
      exact ⟨by rw [List.getElem?_set_ne (Ne.symm e1)]; exact q, r.sub sub⟩
  · rcases ow i y e1 with ⟨a1, a2, a3⟩ | ⟨a1, a2⟩ <;> rcases ow j z e2 with ⟨b1, b2, b3⟩ | ⟨b1, b2⟩
    · rw [a1, b1]
    · simp [a1, b1] at q; exact absurd q.symm (na j z b2)
    · simp [a1, b1] at q; exact absurd q (na i y a2)
    · simp [a1, b1] at q; exact R.inj i j y z a2 b2 q
  · rcases ow i y e with ⟨e1, e2, hl⟩ | ⟨e1, e2⟩
    · simp [e1]
      refine ⟨?_, fun d => F.nd (.inl d)⟩
      cases q : M a with
      | none => rfl
      | some mo => exact absurd (.inr (.inl ⟨mo, q⟩)) F.nd
    · simp [e1]; exact ⟨(R.nm i y e2).1, fun d => (R.nm i y e2).2 (.inl d)⟩
/-- the memory takes a fresh list -/
def Mem.put (M : Mem) (a : Addr) (mo : MO) : Mem := fun b => if b = a then some mo else M b
theorem Mem.put_same {M : Mem} {a : Addr} {mo : MO} : M.put a mo a = some mo := by simp [Mem.put]
theorem Mem.put_ne {M : Mem} {a b : Addr} {mo : MO} (h : b ≠ a) : M.put a mo b = M b := by simp [Mem.put, h]
theorem Mem.put_put {M : Mem} {a : Addr} {mo mo' : MO} : (M.put a mo).put a mo' = M.put a mo' := by
  funext b; simp only [Mem.put]; split <;> rfl
theorem Mem.put_eq {M : Mem} {a : Addr} {mo : MO} (h : M a = some mo) : M.put a mo = M := by
  funext b; simp only [Mem.put]; split
  · rename_i e; rw [e, h]
  · rfl
theorem Fresh.putMem {xs : List PV} {a : Addr} (F : Fresh K B σ M τ H oa (.lst xs) a) : R3 K B σ (M.put a (.lst xs)) τ H oa ∧ (∀ b, Dm B.DE σ (M.put a (.lst xs)) oa b → Dm (B.plus a).DE σ M oa b) ∧ M a = none := by
  have R := F.st
  have hM : M a = none := by
    cases q : M a with
    | none => rfl
    | some mo => exact absurd (.inr (.inl ⟨mo, q⟩)) F.nd
  have sub : ∀ b, Dm B.DE σ (M.put a (.lst xs)) oa b → Dm (B.plus a).DE σ M oa b := fun b d => by
    rcases d with d | ⟨mo, d⟩ | d
    · exact .inl (.inl d)
    · by_cases hb : b = a
      · exact .inl (.inr hb)
      · rw [Mem.put_ne hb] at d; exact .inr (.inl ⟨mo, d⟩)
    · exact .inr (.inr d)
  have f := Fr3.dom (H := H) sub
  refine ⟨⟨⟨fun b mo e => ?_, fun b d => d.elim .inl fun d => .inr (.inl d), R.mem.keep, R.mem.live, R.mem.tups, fun b d => ?_, fun b d => ?_, fun b d => R.mem.dom b (sub b d), R.mem.tabs⟩, R.len, fun i y e => ?_, fun i y e => ?_, R.inj, fun i y e => ⟨?_, fun d => (R.nm i y e).2 (.inl d)⟩⟩, sub, hM⟩
  · by_cases hb : b = a
    · subst hb
      rw [Mem.put_same] at e; cases e
      obtain ⟨vs, q, z, r⟩ := F.rep
      exact ⟨vs, q, z, r.fr f⟩
    · rw [Mem.put_ne hb] at e; exact (R.mem.mem b mo e).sub sub
  · rcases R.mem.new b (sub b d) with (z | z) | z
    · exact .inl z
    · exact .inr (by rw [z]; exact F.hE)
    · exact .inr z
  · obtain ⟨mo, d⟩ := d
    by_cases hb : b = a
    · exact .inr (by rw [hb]; exact F.hE)
    · rw [Mem.put_ne hb] at d; exact R.mem.newM b ⟨mo, d⟩
  · obtain ⟨v, q, r⟩ := R.slot i y e
    exact ⟨v, q, r.fr f⟩
  · obtain ⟨q, r⟩ := R.own i y e
    exact ⟨q, r.sub sub⟩
  · rw [Mem.put_ne fun z => F.nd (.inr (.inr ⟨i, y, e, z⟩))]; exact (R.nm i y e).1
/-- less memory -/
theorem R3.less {M1 : Mem} (R : R3 K B σ M τ H oa) (h : ∀ b mo, M1 b = some mo → M b = some mo) : R3 K B σ M1 τ H oa ∧ Fr3 H H (Zm B.DE σ M oa) (Zm B.DE σ M1 oa) := by
  have sub : ∀ b, Dm B.DE σ M1 oa b → Dm B.DE σ M oa b := fun b d => by
    rcases d with d | ⟨mo, d⟩ | d
    · exact .inl d
    · exact .inr (.inl ⟨mo, h b mo d⟩)
    · exact .inr (.inr d)
  have f : Fr3 H H (Zm B.DE σ M oa) (Zm B.DE σ M1 oa) := Fr3.domZ sub fun b ⟨mo, d⟩ => ⟨mo, h b mo d⟩
  refine ⟨⟨⟨fun b mo e => (R.mem.mem b mo (h b mo e)).sub sub, fun b d => d.elim .inl fun d => .inr (.inl d), R.mem.keep, R.mem.live, R.mem.tups, fun b d => R.mem.new b (sub b d), fun b ⟨mo, d⟩ => R.mem.newM b ⟨mo, h b mo d⟩, fun b d => R.mem.dom b (sub b d), R.mem.tabs⟩, R.len, fun i y e => ?_, fun i y e => ?_, R.inj, fun i y e => ⟨?_, (R.nm i y e).2⟩⟩, f⟩
  · obtain ⟨v, q, r⟩ := R.slot i y e
    exact ⟨v, q, r.fr f⟩
  · obtain ⟨q, r⟩ := R.own i y e
    exact ⟨q, r.sub sub⟩
  · cases q : M1 (oa i) with
    | none => rfl
    | some mo => have z := h _ _ q; rw [(R.nm i y e).1] at z; cases z
end

/-! ## judgements -/
abbrev TE3 := Sl → Mem → (PV → Mem → Prop) → Prop
abbrev TT3 := Sl → Mem → (Bool → Mem → Prop) → Prop
abbrev TA3 := Sl → Mem → (List PV → Mem → Prop) → Prop
section
variable (K : PySem.W.Frag) (B : Base)
/-- borrowed: a tree, or an own thing of a slot -/
def RepB (σ : Sl) (M : Mem) (H : Hp) (oa : Nat → Addr) (x : PV) (v : V) : Prop := Rep K H (Dm B.DE σ M oa) x v ∨ ∃ i : Nat, σ[i]? = some (Slot.own x) ∧ v = .ref (oa i)
def liftE (t : TE3) : TE := fun τ H Q => ∃ σ M oa Q3, R3 K B σ M τ H oa ∧ t σ M Q3 ∧ ∀ x M' v H', Q3 x M' → R3 K B σ M' τ H' oa → Fr3 H H' (Zm B.DE σ M oa) (Zm B.DE σ M' oa) → Rep K H' (Dm B.DE σ M' oa) x v → Q v H'
def liftB (t : TE3) : TE := fun τ H Q => ∃ σ M oa Q3, R3 K B σ M τ H oa ∧ t σ M Q3 ∧ ∀ x M' v H', Q3 x M' → R3 K B σ M' τ H' oa → Fr3 H H' (Zm B.DE σ M oa) (Zm B.DE σ M' oa) → RepB K B σ M' H' oa x v → Q v H'
def liftO (t : TE3) : TE := fun τ H Q => ∃ σ M oa Q3, R3 K B σ M τ H oa ∧ t σ M Q3 ∧ ∀ x M' a H', Q3 x M' → Fresh K B σ M' τ H' oa x a → Fr3 H H' (Zm B.DE σ M oa) (Zm (B.plus a).DE σ M' oa) → Q (.ref a) H'
def liftT (t : TT3) : TT := fun τ H Q => ∃ σ M oa Q3, R3 K B σ M τ H oa ∧ t σ M Q3 ∧ ∀ b M' H', Q3 b M' → R3 K B σ M' τ H' oa → Fr3 H H' (Zm B.DE σ M oa) (Zm B.DE σ M' oa) → Q b H'
def liftA (t : TA3) : TA := fun τ H Q => ∃ σ M oa Q3, R3 K B σ M τ H oa ∧ t σ M Q3 ∧ ∀ xs M' vs H', Q3 xs M' → R3 K B σ M' τ H' oa → Fr3 H H' (Zm B.DE σ M oa) (Zm B.DE σ M' oa) → Reps K H' (Dm B.DE σ M' oa) xs vs → Q vs H'
/-- borrowed arguments -/
def liftAB (t : TA3) : TA := fun τ H Q => ∃ σ M oa Q3, R3 K B σ M τ H oa ∧ t σ M Q3 ∧ ∀ xs M' vs H', Q3 xs M' → R3 K B σ M' τ H' oa → Fr3 H H' (Zm B.DE σ M oa) (Zm B.DE σ M' oa) → Paired (RepB K B σ M' H' oa) xs vs → Q vs H'
end
abbrev BP := Base → Prop
def PE3 (X : Cx) (P : BP) (e : Expr) (t : TE3) : Prop := ∀ B, P B → PE X e (liftE X.K B t)
def PB3 (X : Cx) (P : BP) (e : Expr) (t : TE3) : Prop := ∀ B, P B → PE X e (liftB X.K B t)
def PO3 (X : Cx) (P : BP) (e : Expr) (t : TE3) : Prop := ∀ B, P B → PE X e (liftO X.K B t)
def PT3 (X : Cx) (P : BP) (e : Expr) (t : TT3) : Prop := ∀ B, P B → PT X e (liftT X.K B t)
def PW3 (X : Cx) (P : BP) (e : Expr) (t : TT3) : Prop := ∀ B, P B → PW X e (liftT X.K B t)
def PA3 (X : Cx) (P : BP) (es : List Expr) (t : TA3) : Prop := ∀ B, P B → PA X es (liftA X.K B t)
def PAB3 (X : Cx) (P : BP) (es : List Expr) (t : TA3) : Prop := ∀ B, P B → PA X es (liftAB X.K B t)

theorem PE.imp {X : Cx} {e : Expr} {t t' : TE} (h : PE X e t) (i : ∀ τ H Q, t' τ H Q → t τ H Q) : PE X e t' := ⟨fun pins s σ H Q I w => h.run pins s σ H Q I (i σ H Q w)⟩
theorem PT.imp {X : Cx} {e : Expr} {t t' : TT} (h : PT X e t) (i : ∀ τ H Q, t' τ H Q → t τ H Q) : PT X e t' := ⟨fun pins s σ H Q I w => h.run pins s σ H Q I (i σ H Q w)⟩
theorem PW.imp {X : Cx} {e : Expr} {t t' : TT} (h : PW X e t) (i : ∀ τ H Q, t' τ H Q → t τ H Q) : PW X e t' := ⟨fun wh pins s σ H Q I w => h.run wh pins s σ H Q I (i σ H Q w)⟩
theorem PA.imp {X : Cx} {es : List Expr} {t t' : TA} (h : PA X es t) (i : ∀ τ H Q, t' τ H Q → t τ H Q) : PA X es t' := ⟨fun pos pins s σ H Q I w => h.run pos pins s σ H Q I (i σ H Q w)⟩
theorem PS.imp {X : Cx} {st : Stmt} {t t' : TS} (h : PS X st t) (i : ∀ D τ H, t' D τ H → t D τ H) : PS X st t' := ⟨fun pins s σ H D I w => h.run pins s σ H D I (i D σ H w)⟩
theorem PSs.imp {X : Cx} {st : List Stmt} {t t' : TS} (h : PSs X st t) (i : ∀ D τ H, t' D τ H → t D τ H) : PSs X st t' := ⟨fun pins s σ H D I w => h.run pins s σ H D I (i D σ H w)⟩

theorem PE3.b {X : Cx} {P : BP} {e : Expr} {t : TE3} (h : PE3 X P e t) : PB3 X P e t := fun B hB => PE.imp (h B hB) fun τ H Q ⟨σ, M, oa, Q3, R, w, k⟩ => ⟨σ, M, oa, Q3, R, w, fun x M' v H' q R' f r => k x M' v H' q R' f (.inl r)⟩
theorem PO3.f {X : Cx} {P : BP} {e : Expr} {t : TE3} (h : PO3 X P e t) : PE3 X P e t := fun B hB => PE.imp (h B hB) fun τ H Q ⟨σ, M, oa, Q3, R, w, k⟩ => ⟨σ, M, oa, Q3, R, w, fun x M' a H' q F f => by
  obtain ⟨R', r⟩ := F.frozen
  exact k x M' _ H' q R' (f.shrink (fun b d => Dm.plus.mpr (.inl d)) fun _ d => d) r⟩
end T3

namespace T3
open PySem PySem.Spec PyProof.Rows L2

def look (M : Mem) : PV → PV
  | .raw (.ref a) => match M a with
    | some (.lst xs) => .lst xs
    | _ => .raw (.ref a)
  | x => x
section
variable {K : PySem.W.Frag} {B : Base} {σ : Sl} {M M' : Mem} {τ : L2.St} {H H' : Hp} {oa : Nat → Addr} {D D' : Addr → Prop} {x : PV} {v : V}
theorem RepB.fr (f : Fr3 H H' (Zm B.DE σ M oa) (Zm B.DE σ M' oa)) (h : RepB K B σ M H oa x v) : RepB K B σ M' H' oa x v := by
  rcases h with h | h
  · exact .inl (h.fr f)
  · exact .inr h
theorem RepB.readable (R : R3 K B σ M τ H oa) (h : RepB K B σ M H oa x v) : RepR K H (Dm B.DE σ M oa) (look M x) v := by
  rcases h with h | ⟨i, e, q⟩
  · cases x with
    | raw u =>
      cases u with
      | ref a =>
        have ev : v = .ref a := h
        subst ev
        simp only [look]
        split
        · rename_i xs e
          obtain ⟨vs, q, z, r⟩ := R.mem.mem a _ e
          exact ⟨a, vs, rfl, .of q, z, r⟩
        · exact h
      | _ => exact h
    | _ => exact h.readable
  · subst q
    have r := (R.own i x e).2
    cases x with
    | lst xs => exact r.readable
    | dic ks xs => exact r.readable
    | _ => exact r.elim
theorem Paired.imp {α β : Type} {F G : α → β → Prop} (h : ∀ a b, F a b → G a b) : ∀ {l : List α} {m : List β}, Paired F l m → Paired G l m
  | _, _, .nil => .nil
  | _, _, .cons r t => .cons (h _ _ r) (Paired.imp h t)
theorem Reps.paired : ∀ {xs : List PV} {vs : List V}, Reps K H D xs vs → Paired (Rep K H D) xs vs
  | [], _, h => by unfold Reps at h; subst h; exact .nil
  | x :: xs, _, h => by
    unfold Reps at h
    obtain ⟨v, r, e, h1, h2⟩ := h
    subst e
    exact .cons h1 (Reps.paired h2)
theorem Reps.of_paired : ∀ {xs : List PV} {vs : List V}, Paired (Rep K H D) xs vs → Reps K H D xs vs
  | _, _, .nil => Reps.nil
  | _, _, .cons h t => Reps.cons h (Reps.of_paired t)
end

/-! ## operations on values that lay new objects at most -/
abbrev R1T := PV → (PV → Prop) → Prop
abbrev R2T := PV → PV → (PV → Prop) → Prop
abbrev RnT := List PV → (PV → Prop) → Prop
section
variable (K : PySem.W.Frag)
def Post3 (H : Hp) (D : Addr → Prop) (Q3 : PV → Prop) (Q : VK) : Prop := ∀ z v H', Q3 z → Same H H' → Rep K H' D z v → Q v H'
/-- a fresh list comes -/
def PostO (H : Hp) (D : Addr → Prop) (Q3 : PV → Prop) (Q : VK) : Prop := ∀ xs (p : Addr) vs, Q3 (.lst xs) → H p = none → vs.length ≤ sizeLine → Reps K H D xs vs → Q (.ref p) (upd H p (.lst vs))
def lR1 (r : R1T) : V → Hp → VK → Prop := fun x H Q => ∃ D px Q3, (∀ b, D b → Th H b) ∧ RepR K H D px x ∧ r px Q3 ∧ Post3 K H D Q3 Q
def lR2 (r : R2T) : R2 := fun x y H Q => ∃ D px py Q3, (∀ b, D b → Th H b) ∧ RepR K H D px x ∧ RepR K H D py y ∧ r px py Q3 ∧ Post3 K H D Q3 Q
def lRn (r : RnT) : List V → Hp → VK → Prop := fun xs H Q => ∃ D ps Q3, (∀ b, D b → Th H b) ∧ Paired (RepR K H D) ps xs ∧ r ps Q3 ∧ Post3 K H D Q3 Q
def lRnO (r : RnT) : List V → Hp → VK → Prop := fun xs H Q => ∃ D ps Q3, (∀ b, D b → Th H b) ∧ Paired (RepR K H D) ps xs ∧ r ps Q3 ∧ PostO K H D Q3 Q
end
def Op3 (X : Cx) (f : Value → Value → Sem Value) (r : R2T) : Prop := OpR X f (lR2 X.K r)
def Un3 (X : Cx) (f : Value → Sem Value) (r : R1T) : Prop := UnR X f (lR1 X.K r)
def Call3 (X : Cx) (f : Value) (r : RnT) : Prop := CallR X f (lRn X.K r)
def CallO3 (X : Cx) (f : Value) (r : RnT) : Prop := CallR X f (lRnO X.K r)
theorem OpR.imp {X : Cx} {f : Value → Value → Sem Value} {r r' : R2} (h : OpR X f r) (i : ∀ x y H Q, r' x y H Q → r x y H Q) : OpR X f r' := fun pins s σ H x y v u Q I rx ry w => h pins s σ H x y v u Q I rx ry (i x y H Q w)
theorem UnR.imp {X : Cx} {f : Value → Sem Value} {r r' : V → Hp → VK → Prop} (h : UnR X f r) (i : ∀ x H Q, r' x H Q → r x H Q) : UnR X f r' := fun pins s σ H x v Q I rx w => h pins s σ H x v Q I rx (i x H Q w)
theorem CallR.imp {X : Cx} {f : Value} {r r' : List V → Hp → VK → Prop} (h : CallR X f r) (i : ∀ x H Q, r' x H Q → r x H Q) : CallR X f r' := fun pins s σ H x v Q I rx w => h pins s σ H x v Q I rx (i x H Q w)

section
variable {X : Cx} {P : BP} {a b c e : Expr} {es : List Expr} {ta tb tc : TE3} {pos p : Pos}
def tOp3 (r : R2T) (ta tb : TE3) : TE3 := fun σ M Q => ta σ M fun x M1 => tb σ M1 fun y M2 => r (look M2 x) (look M2 y) fun z => Q z M2
theorem op_lift {B : Base} {K : PySem.W.Frag} {r : R2T} {τ : L2.St} {H : Hp} {Q : VK} (h : liftE K B (tOp3 r ta tb) τ H Q) : tOp (lR2 K r) (liftB K B ta) (liftB K B tb) τ H Q := by
  obtain ⟨σ, M, oa, Q3, R, w, k⟩ := h
  refine ⟨σ, M, oa, _, R, w, fun x M1 v H1 q1 R1 f1 r1 => ⟨σ, M1, oa, _, R1, q1, fun y M2 u H2 q2 R2 f2 r2 => ?_⟩⟩
  exact ⟨_, _, _, _, R2.mem.dom, (r1.fr f2).readable R2, r2.readable R2, q2, fun z w H3 qz sm rz => k z M2 w H3 qz (R2.same sm).1 ((f1.trans f2).trans (R2.same sm).2) rz⟩
theorem pe3_op {op : Operator} {r : R2T} (ho : Op3 X (binaryOp op) r) (ha : PB3 X P a ta) (hb : PB3 X P b tb) : PE3 X P (.BinOp a op b pos) (tOp3 r ta tb) := fun B hB =>
  PE.imp (pe_op ho (ha B hB) (hb B hB)) fun _ _ _ h => op_lift h
def tUn3 (r : R1T) (ta : TE3) : TE3 := fun σ M Q => ta σ M fun x M1 => r (look M1 x) fun z => Q z M1
theorem pe3_un {op : UnaryOp} {r : R1T} (ho : Un3 X (unaryOp op) r) (ha : PB3 X P a ta) : PE3 X P (.UnaryOp op a pos) (tUn3 r ta) := fun B hB =>
  PE.imp (pe_un ho (ha B hB)) fun τ H Q ⟨σ, M, oa, Q3, R, w, k⟩ => ⟨σ, M, oa, _, R, w, fun x M1 v H1 q1 R1 f1 r1 =>
    ⟨_, _, _, R1.mem.dom, r1.readable R1, q1, fun z w H3 qz sm rz => k z M1 w H3 qz (R1.same sm).1 (f1.trans (R1.same sm).2) rz⟩⟩
/-! ### names, constants -/
def slotW (σ : Sl) (i : Nat) (k : PV → Prop) : Prop := match σ[i]? with
  | some (.val x) => k x
  | _ => False
def slotBW (σ : Sl) (i : Nat) (k : PV → Prop) : Prop := match σ[i]? with
  | some (.val x) => k x
  | some (.own x) => k x
  | _ => False
def tVar3 (i : Nat) : TE3 := fun σ M Q => slotW σ i fun x => Q x M
def tVarB3 (i : Nat) : TE3 := fun σ M Q => slotBW σ i fun x => Q x M
def tC3 (x : PV) : TE3 := fun _ M Q => Q x M
theorem pe3_var (i : Nat) {x : Str} (hN : X.N[i]? = some x := by rfl) (hv : Vis X.env.scope x := by first | exact Or.inl rfl | exact Or.inr (Or.inl rfl) | exact Or.inr (Or.inr rfl)) (hd : (x == ("__debug__" : Str)) = false := by decide)
    (hcd : (x == ("__classdict__" : Str)) = false := by decide) : PE3 X P (.Name x pos) (tVar3 i) := fun B hB =>
  PE.imp (pe_var hN hv hd hcd) fun τ H Q ⟨σ, M, oa, Q3, R, w, k⟩ => by
    unfold tVar3 slotW at w
    split at w
    · rename_i y e
      obtain ⟨v, q, r⟩ := R.slot i y e
      exact ⟨v, q, k y M v H w R (Fr3.refl H _) r⟩
    · exact w.elim
theorem pb3_var (i : Nat) {x : Str} (hN : X.N[i]? = some x := by rfl) (hv : Vis X.env.scope x := by first | exact Or.inl rfl | exact Or.inr (Or.inl rfl) | exact Or.inr (Or.inr rfl)) (hd : (x == ("__debug__" : Str)) = false := by decide)
    (hcd : (x == ("__classdict__" : Str)) = false := by decide) : PB3 X P (.Name x pos) (tVarB3 i) := fun B hB =>
  PE.imp (pe_var hN hv hd hcd) fun τ H Q ⟨σ, M, oa, Q3, R, w, k⟩ => by
    unfold tVarB3 slotBW at w
    split at w
    · rename_i y e
      obtain ⟨v, q, r⟩ := R.slot i y e
      exact ⟨v, q, k y M v H w R (Fr3.refl H _) (.inl r)⟩
    · rename_i y e
      obtain ⟨q, r⟩ := R.own i y e
      exact ⟨_, q, k y M _ H w R (Fr3.refl H _) (.inr ⟨i, e, rfl⟩)⟩
    · exact w.elim
theorem Rep.int {K : PySem.W.Frag} {H : Hp} {D : Addr → Prop} {i : Int} : Rep K H D (.int i) (.int i) := by unfold Rep; rfl
theorem Rep.bl {K : PySem.W.Frag} {H : Hp} {D : Addr → Prop} {i : Bool} : Rep K H D (.bl i) (.bl i) := by unfold Rep; rfl
theorem Rep.non {K : PySem.W.Frag} {H : Hp} {D : Addr → Prop} : Rep K H D .non .non := by unfold Rep; rfl
theorem Rep.raw {K : PySem.W.Frag} {H : Hp} {D : Addr → Prop} {v : V} : Rep K H D (.raw v) v := by unfold Rep; rfl
theorem Rep.str {K : PySem.W.Frag} {H : Hp} {D : Addr → Prop} {x : Str} (h : x.length ≤ sizeLine) : Rep K H D (.str x) (.str x) := by unfold Rep; exact ⟨rfl, h⟩
theorem const_lift {B : Base} {K : PySem.W.Frag} {τ : L2.St} {H : Hp} {Q : VK} {x : PV} {v : V} (hx : ∀ D, Rep K H D x v) (h : liftE K B (tC3 x) τ H Q) : Q v H := by
  obtain ⟨σ, M, oa, Q3, R, w, k⟩ := h
  exact k x M v H w R (Fr3.refl H _) (hx _)
theorem pe3_int {i : Int} {j} : PE3 X P (.Constant (.int i) j pos) (tC3 (.int i)) := fun B hB => PE.imp pe_int fun _ _ _ h => const_lift (fun _ => Rep.int) h
theorem pe3_bl {i : Bool} {j} : PE3 X P (.Constant (.bool i) j pos) (tC3 (.bl i)) := fun B hB => PE.imp pe_bl fun _ _ _ h => const_lift (fun _ => Rep.bl) h
theorem pe3_non {j} : PE3 X P (.Constant .none j pos) (tC3 .non) := fun B hB => PE.imp pe_non fun _ _ _ h => const_lift (fun _ => Rep.non) h
theorem pe3_str {x : Str} {j} (hz : x.length ≤ sizeLine := by decide +kernel) : PE3 X P (.Constant (.str x) j pos) (tC3 (.str x)) := fun B hB => PE.imp pe_str fun _ _ _ h => const_lift (fun _ => Rep.str hz) h
/-- a constant of the module, a class, a def -/
theorem pe3_glob {x : Str} {y : PV} {v : V} {u : Value} (hg : Gl X x) (hm : X.mg x = some u) (r : RelV v u) (hx : ∀ H D, Rep X.K H D y v) (hd : (x == ("__debug__" : Str)) = false := by decide) : PE3 X P (.Name x pos) (tC3 y) := fun B hB =>
  PE.imp (pe_glob hg hm r hd) fun _ _ _ h => const_lift (fun _ => hx _ _) h
/-! ### comparisons -/
theorem pe3_cmp {op : CmpOp} {r : R2T} (ho : Op3 X (compareOp op) r) (ha : PB3 X P a ta) (hb : PB3 X P b tb) (hm : behindInMarks op b = false) : PE3 X P (.Compare a [op] [b] pos) (tOp3 r ta tb) := fun B hB =>
  PE.imp (pe_cmpR ho (ha B hB) (hb B hB) hm) fun _ _ _ h => op_lift h
def asB (x : PV) (k : Bool → Prop) : Prop := match x with
  | .bl b => k b
  | _ => False
theorem asB_of {x : PV} {k : Bool → Prop} (h : asB x k) : ∃ b, x = .bl b ∧ k b := by
  cases x <;> first | exact h.elim | exact ⟨_, rfl, h⟩
def tTest3 (t : TE3) : TT3 := fun σ M Q => t σ M fun x M1 => asB x fun b => Q b M1
theorem pt3_cmp {op : CmpOp} {r : R2T} (ho : Op3 X (compareOp op) r) (ha : PB3 X P a ta) (hb : PB3 X P b tb) (hm : behindInMarks op b = false) : PT3 X P (.Compare a [op] [b] pos) (tTest3 (tOp3 r ta tb)) := fun B hB =>
  PT.imp (pt_cmpR ho (ha B hB) (hb B hB) hm) fun τ H Q ⟨σ, M, oa, Q3, R, w, k⟩ => op_lift ⟨σ, M, oa, _, R, w, fun x M1 v H1 q1 R1 f1 r1 => by
    obtain ⟨b, e, q⟩ := asB_of q1
    subst e
    exact ⟨b, r1, k b M1 H1 q R1 f1⟩⟩
def tChain3 (r r' : R2T) (ta tb tc : TE3) : TE3 := fun σ M Q => ta σ M fun x M1 => tb σ M1 fun y M2 => r (look M2 x) (look M2 y) fun z => asB z fun k => if k = true then tc σ M2 fun w M3 => r' (look M3 y) (look M3 w) fun z' => Q z' M3 else Q (.bl false) M2
/-! ### and, or, not, if -/
theorem pt3_val (h : PE3 X P e ta) (he : ∀ whole, isTrue e X.env whole = (do let v ← whole; standAt e.pos; holding [v] (truthy v)) := by intro _; rfl) : PT3 X P e (tTest3 ta) := fun B hB =>
  PT.imp (pt_val (h B hB) he) fun τ H Q ⟨σ, M, oa, Q3, R, w, k⟩ => ⟨σ, M, oa, _, R, w, fun x M1 v H1 q1 R1 f1 r1 => by
    obtain ⟨b, e, q⟩ := asB_of q1
    subst e
    exact ⟨b, r1, k b M1 H1 q R1 f1⟩⟩
variable {tA tB' : TT3} {rest : List Expr}
def tAnd3 (t u : TT3) : TT3 := fun σ M Q => t σ M fun c M1 => if c = true then u σ M1 Q else Q false M1
def tOr3 (t u : TT3) : TT3 := fun σ M Q => t σ M fun c M1 => if c = true then Q true M1 else u σ M1 Q
def tNot3 (t : TT3) : TT3 := fun σ M Q => t σ M fun c M1 => Q (!c) M1
theorem PW3.pt (h : PW3 X P e tA) : PT3 X P e tA := fun B hB => (h B hB).pt
theorem pw3_and1 (ha : PT3 X P a tA) : PW3 X P (.BoolOp .And [a] pos) tA := fun B hB => pw_and1 (ha B hB)
theorem pw3_or1 (ha : PT3 X P a tA) : PW3 X P (.BoolOp .Or [a] pos) tA := fun B hB => pw_or1 (ha B hB)
theorem pw3_and (ha : PT3 X P a tA) (hb : PW3 X P (.BoolOp .And (b :: rest) pos) tB') : PW3 X P (.BoolOp .And (a :: b :: rest) pos) (tAnd3 tA tB') := fun B hB =>
  PW.imp (pw_and (ha B hB) (hb B hB)) fun τ H Q ⟨σ, M, oa, Q3, R, w, k⟩ => ⟨σ, M, oa, _, R, w, fun c M1 H1 q1 R1 f1 => by
    cases c with
    | true => exact ⟨σ, M1, oa, _, R1, q1, fun d M2 H2 q2 R2 f2 => k d M2 H2 q2 R2 (f1.trans f2)⟩
    | false => exact k false M1 H1 q1 R1 f1⟩
theorem pw3_or (ha : PT3 X P a tA) (hb : PW3 X P (.BoolOp .Or (b :: rest) pos) tB') : PW3 X P (.BoolOp .Or (a :: b :: rest) pos) (tOr3 tA tB') := fun B hB =>
  PW.imp (pw_or (ha B hB) (hb B hB)) fun τ H Q ⟨σ, M, oa, Q3, R, w, k⟩ => ⟨σ, M, oa, _, R, w, fun c M1 H1 q1 R1 f1 => by
    cases c with
    | false => exact ⟨σ, M1, oa, _, R1, q1, fun d M2 H2 q2 R2 f2 => k d M2 H2 q2 R2 (f1.trans f2)⟩
    | true => exact k true M1 H1 q1 R1 f1⟩
theorem pt3_not (ha : PT3 X P a tA) : PT3 X P (.UnaryOp .Not a pos) (tNot3 tA) := fun B hB =>
  PT.imp (pt_not (ha B hB)) fun τ H Q ⟨σ, M, oa, Q3, R, w, k⟩ => ⟨σ, M, oa, _, R, w, fun c M1 H1 q1 R1 f1 => k (!c) M1 H1 q1 R1 f1⟩
def tAndV3 (ta tb : TE3) : TE3 := fun σ M Q => ta σ M fun x M1 => asB x fun c => if c = true then tb σ M1 Q else Q (.bl false) M1
def tOrV3 (ta tb : TE3) : TE3 := fun σ M Q => ta σ M fun x M1 => asB x fun c => if c = true then Q (.bl true) M1 else tb σ M1 Q
theorem pe3_one {op} (h : PE3 X P a ta) : PE3 X P (.BoolOp op [a] pos) ta := fun B hB => pe_one (h B hB)
theorem pe3_and (ha : PE3 X P a ta) (hb : PE3 X P (.BoolOp .And (b :: rest) pos) tb) : PE3 X P (.BoolOp .And (a :: b :: rest) pos) (tAndV3 ta tb) := fun B hB =>
  PE.imp (pe_and (ha B hB) (hb B hB)) fun τ H Q ⟨σ, M, oa, Q3, R, w, k⟩ => ⟨σ, M, oa, _, R, w, fun x M1 v H1 q1 R1 f1 r1 => by
    obtain ⟨c, e, q⟩ := asB_of q1
    subst e
    refine ⟨c, r1, ?_⟩
    cases c with
    | true => exact ⟨σ, M1, oa, _, R1, q, fun y M2 u H2 q2 R2 f2 r2 => k y M2 u H2 q2 R2 (f1.trans f2) r2⟩
    | false => exact k (.bl false) M1 _ H1 q R1 f1 rfl⟩
theorem pe3_or (ha : PE3 X P a ta) (hb : PE3 X P (.BoolOp .Or (b :: rest) pos) tb) : PE3 X P (.BoolOp .Or (a :: b :: rest) pos) (tOrV3 ta tb) := fun B hB =>
  PE.imp (pe_or (ha B hB) (hb B hB)) fun τ H Q ⟨σ, M, oa, Q3, R, w, k⟩ => ⟨σ, M, oa, _, R, w, fun x M1 v H1 q1 R1 f1 r1 => by
    obtain ⟨c, e, q⟩ := asB_of q1
    subst e
    refine ⟨c, r1, ?_⟩
    cases c with
    | false => exact ⟨σ, M1, oa, _, R1, q, fun y M2 u H2 q2 R2 f2 r2 => k y M2 u H2 q2 R2 (f1.trans f2) r2⟩
    | true => exact k (.bl true) M1 _ H1 q R1 f1 rfl⟩
/-- not, of any test -/
theorem pe3_not (ha : PE3 X P a ta) : PE3 X P (.UnaryOp .Not a pos) (fun σ M Q => ta σ M fun x M1 => asB x fun c => Q (.bl (!c)) M1) := fun B hB =>
  PE.imp (pe_not (ha B hB)) fun τ H Q ⟨σ, M, oa, Q3, R, w, k⟩ => ⟨σ, M, oa, _, R, w, fun x M1 v H1 q1 R1 f1 r1 => by
    obtain ⟨c, e, q⟩ := asB_of q1
    subst e
    exact ⟨c, r1, k (.bl !c) M1 _ H1 q R1 f1 rfl⟩⟩
def tIf3 (t : TT3) (ta tb : TE3) : TE3 := fun σ M Q => t σ M fun c M1 => if c = true then ta σ M1 Q else tb σ M1 Q
theorem pe3_ifExp (hc : PT3 X P c tA) (ha : PE3 X P a ta) (hb : PE3 X P b tb) : PE3 X P (.IfExp c a b pos) (tIf3 tA ta tb) := fun B hB =>
  PE.imp (pe_ifExp (hc B hB) (ha B hB) (hb B hB)) fun τ H Q ⟨σ, M, oa, Q3, R, w, k⟩ => ⟨σ, M, oa, _, R, w, fun c M1 H1 q1 R1 f1 => by
    cases c with
    | true => exact ⟨σ, M1, oa, _, R1, q1, fun y M2 u H2 q2 R2 f2 r2 => k y M2 u H2 q2 R2 (f1.trans f2) r2⟩
    | false => exact ⟨σ, M1, oa, _, R1, q1, fun y M2 u H2 q2 R2 f2 r2 => k y M2 u H2 q2 R2 (f1.trans f2) r2⟩⟩
/-! ### arguments -/
def tNil3 : TA3 := fun _ M Q => Q [] M
def tCons3 (ta : TE3) (tr : TA3) : TA3 := fun σ M Q => ta σ M fun x M1 => tr σ M1 fun xs M2 => Q (x :: xs) M2
variable {t : TA3}
theorem pa3_nil : PA3 X P [] tNil3 := fun B hB => PA.imp pa_nil fun τ H Q ⟨σ, M, oa, Q3, R, w, k⟩ => k [] M [] H w R (Fr3.refl H _) Reps.nil
theorem pa3_cons (ha : PE3 X P e ta) (hr : PA3 X P es t) (hs : starEach (e :: es) X.env = (false, eval e X.env) :: starEach es X.env := by rfl) : PA3 X P (e :: es) (tCons3 ta t) := fun B hB =>
  PA.imp (pa_cons (ha B hB) (hr B hB) hs) fun τ H Q ⟨σ, M, oa, Q3, R, w, k⟩ => ⟨σ, M, oa, _, R, w, fun x M1 v H1 q1 R1 f1 r1 => ⟨σ, M1, oa, _, R1, q1, fun xs M2 vs H2 q2 R2 f2 r2 => k (x :: xs) M2 (v :: vs) H2 q2 R2 (f1.trans f2) (Reps.cons (r1.fr f2) r2)⟩⟩
theorem pab3_nil : PAB3 X P [] tNil3 := fun B hB => PA.imp pa_nil fun τ H Q ⟨σ, M, oa, Q3, R, w, k⟩ => k [] M [] H w R (Fr3.refl H _) .nil
theorem pab3_cons (ha : PB3 X P e ta) (hr : PAB3 X P es t) (hs : starEach (e :: es) X.env = (false, eval e X.env) :: starEach es X.env := by rfl) : PAB3 X P (e :: es) (tCons3 ta t) := fun B hB =>
  PA.imp (pa_cons (ha B hB) (hr B hB) hs) fun τ H Q ⟨σ, M, oa, Q3, R, w, k⟩ => ⟨σ, M, oa, _, R, w, fun x M1 v H1 q1 R1 f1 r1 => ⟨σ, M1, oa, _, R1, q1, fun xs M2 vs H2 q2 R2 f2 r2 => k (x :: xs) M2 (v :: vs) H2 q2 R2 (f1.trans f2) (.cons (r1.fr f2) r2)⟩⟩
/-! ### displays -/
def szW {α : Type} (xs : List α) : Prop := xs.length ≤ 16777216
def tTup3 (t : TA3) : TE3 := fun σ M Q => t σ M fun xs M1 => szW xs ∧ Q (.tup xs) M1
def tLst3 (t : TA3) : TE3 := fun σ M Q => t σ M fun xs M1 => szW xs ∧ Q (.lst xs) M1
theorem sz_of {K : PySem.W.Frag} {H : Hp} {D : Addr → Prop} {xs : List PV} {vs : List V} (r : Reps K H D xs vs) (h : szW xs) : vs.length ≤ sizeLine := by
  rw [r.len, sizeLine_eq]; exact h
theorem pe3_tup {x1} (h : PA3 X P es t) : PE3 X P (.Tuple es x1 pos) (tTup3 t) := fun B hB =>
  PE.imp (pe_tup (h B hB)) fun τ H Q ⟨σ, M, oa, Q3, R, w, k⟩ => ⟨σ, M, oa, _, R, w, fun xs M1 vs H1 q1 R1 f1 r1 => ⟨sz_of r1 q1.1, fun p hp => by
    have sm : Same H1 (upd H1 p (.tup vs)) := fun b u e => by rw [upd_ne (ne_of_none e hp)]; exact e
    obtain ⟨R2, f2⟩ := R1.same sm
    refine k _ M1 _ _ q1.2 R2 (f1.trans f2) ?_
    unfold Rep
    exact ⟨p, vs, rfl, .of upd_same, sz_of r1 q1.1, r1.fr f2⟩⟩⟩
theorem po3_lst (h : PA3 X P es t) : PO3 X P (.List es pos) (tLst3 t) := fun B hB =>
  PE.imp (pe_lst (h B hB)) fun τ H Q ⟨σ, M, oa, Q3, R, w, k⟩ => ⟨σ, M, oa, _, R, w, fun xs M1 vs H1 q1 R1 f1 r1 => ⟨sz_of r1 q1.1, fun p hp => by
    obtain ⟨F, f2⟩ := R1.newList hp r1 (sz_of r1 q1.1)
    exact k _ M1 _ _ q1.2 F (f1.trans f2)⟩⟩
/-! ### calls of built-ins by value -/
def tCB3 (r : RnT) (t : TA3) : TE3 := fun σ M Q => t σ M fun xs M1 => r (xs.map (look M1)) fun z => Q z M1
theorem rd_all {K : PySem.W.Frag} {B : Base} {σ : Sl} {M : Mem} {τ : L2.St} {H : Hp} {oa : Nat → Addr} (R : R3 K B σ M τ H oa) : ∀ {xs : List PV} {vs : List V}, Paired (RepB K B σ M H oa) xs vs → Paired (RepR K H (Dm B.DE σ M oa)) (xs.map (look M)) vs
  | _, _, .nil => .nil
  | _, _, .cons r s => .cons (r.readable R) (rd_all R s)
theorem cb_lift {B : Base} {K : PySem.W.Frag} {r : RnT} {τ : L2.St} {H : Hp} {Q : VK} (h : liftE K B (tCB3 r t) τ H Q) : tCB (lRn K r) (liftAB K B t) τ H Q := by
  obtain ⟨σ, M, oa, Q3, R, w, k⟩ := h
  exact ⟨σ, M, oa, _, R, w, fun xs M1 vs H1 q1 R1 f1 r1 => ⟨_, _, _, R1.mem.dom, rd_all R1 r1, q1, fun z w H3 qz sm rz => k z M1 w H3 qz (R1.same sm).1 (f1.trans (R1.same sm).2) rz⟩⟩
theorem cbo_lift {B : Base} {K : PySem.W.Frag} {r : RnT} {τ : L2.St} {H : Hp} {Q : VK} (h : liftO K B (tCB3 r t) τ H Q) : tCB (lRnO K r) (liftAB K B t) τ H Q := by
  obtain ⟨σ, M, oa, Q3, R, w, k⟩ := h
  refine ⟨σ, M, oa, _, R, w, fun xs M1 vs H1 q1 R1 f1 r1 => ⟨_, _, _, R1.mem.dom, rd_all R1 r1, q1, fun ys p us qz hp hz rz => ?_⟩⟩
  obtain ⟨F, f2⟩ := R1.newList hp rz hz
  exact k _ M1 _ _ qz F (f1.trans f2)
variable {x : Str} {id : String}
theorem pe3_callB {r : RnT} (hc : Call3 X (.builtin id) r) (hg : Gl X x) (hm : X.mg x = none) (hv : bootBuiltins x = some (.builtin id)) (ha : PAB3 X P (e :: es) t) (hn : x ≠ "__name__" := by decide) (hdb : (x == ("__debug__" : Str)) = false := by decide)
    (he : starEach (e :: es) X.env = (false, eval e X.env) :: starEach es X.env := by rfl) (hpl : (backTo pos (starEach es X.env)).any (·.1) = false := by rfl) : PE3 X P (.Call (.Name x p) (e :: es) [] pos) (tCB3 r t) := fun B hB =>
  PE.imp (pe_callB hc hg hm hv (ha B hB) hn hdb he hpl) fun _ _ _ h => cb_lift h
theorem pe3_callTy {r : RnT} (hc : Call3 X (.type id) r) (hg : Gl X x) (hm : X.mg x = none) (hv : bootBuiltins x = some (.type id)) (ha : PAB3 X P (e :: es) t) (hn : x ≠ "__name__" := by decide) (hdb : (x == ("__debug__" : Str)) = false := by decide)
    (he : starEach (e :: es) X.env = (false, eval e X.env) :: starEach es X.env := by rfl) (hpl : (backTo pos (starEach es X.env)).any (·.1) = false := by rfl) : PE3 X P (.Call (.Name x p) (e :: es) [] pos) (tCB3 r t) := fun B hB =>
  PE.imp (pe_callTy hc hg hm hv (ha B hB) hn hdb he hpl) fun _ _ _ h => cb_lift h
theorem po3_callB {r : RnT} (hc : CallO3 X (.builtin id) r) (hg : Gl X x) (hm : X.mg x = none) (hv : bootBuiltins x = some (.builtin id)) (ha : PAB3 X P (e :: es) t) (hn : x ≠ "__name__" := by decide) (hdb : (x == ("__debug__" : Str)) = false := by decide)
    (he : starEach (e :: es) X.env = (false, eval e X.env) :: starEach es X.env := by rfl) (hpl : (backTo pos (starEach es X.env)).any (·.1) = false := by rfl) : PO3 X P (.Call (.Name x p) (e :: es) [] pos) (tCB3 r t) := fun B hB =>
  PE.imp (pe_callB hc hg hm hv (ha B hB) hn hdb he hpl) fun _ _ _ h => cbo_lift h
theorem po3_callTy {r : RnT} (hc : CallO3 X (.type id) r) (hg : Gl X x) (hm : X.mg x = none) (hv : bootBuiltins x = some (.type id)) (ha : PAB3 X P (e :: es) t) (hn : x ≠ "__name__" := by decide) (hdb : (x == ("__debug__" : Str)) = false := by decide)
    (he : starEach (e :: es) X.env = (false, eval e X.env) :: starEach es X.env := by rfl) (hpl : (backTo pos (starEach es X.env)).any (·.1) = false := by rfl) : PO3 X P (.Call (.Name x p) (e :: es) [] pos) (tCB3 r t) := fun B hB =>
  PE.imp (pe_callTy hc hg hm hv (ha B hB) hn hdb he hpl) fun _ _ _ h => cbo_lift h
end
end T3

namespace T3
open PySem PySem.Spec PyProof.Rows L2

/-! ## promises -/
abbrev W3 := Addr → PV → Mem → Prop
abbrev Sp3 := List PV → Mem → (PV → Mem → Prop) → W3 → Prop
/-- behind a call -/
structure Aft (K : PySem.W.Frag) (M M' : Mem) (H H' : Hp) (D D' : Addr → Prop) : Prop where
  keep : ∀ b o, H b = some o → M b = none → H' b = some o
  tups : ∀ b xs, H b = some (.tup xs) → H' b = some (.tup xs)
  live : ∀ b, Th H b → Th H' b
  mem : ∀ a mo, M' a = some mo → RepM K H' D' a mo
  sub : ∀ b, D b ∨ (∃ mo, M' b = some mo) → D' b
  new : ∀ b, D' b → D b ∨ ¬ Th H b
  newM : ∀ b, (∃ mo, M' b = some mo) → (∃ mo, M b = some mo) ∨ ¬ Th H b
def liftSp (K : PySem.W.Frag) (sp : Sp3) : Sp := fun vs H Q E => ∃ D M xs Q3 E3, (∀ b, (∃ mo, M b = some mo) → D b) ∧ (∀ b, D b → Th H b) ∧ (∀ a mo, M a = some mo → RepM K H D a mo) ∧ Reps K H D xs vs ∧ sp xs M Q3 E3 ∧
  (∀ y M' D' v H', Q3 y M' → Aft K M M' H H' D D' → Rep K H' D' y v → Q v H') ∧
  (∀ C y M' D' v dd H', E3 C y M' → Aft K M M' H H' D D' → Rep K H' D' y v → H' dd = some (.xd [("value", v)]) → E (.ref C) (some dd) H')
/-- what is wished of an exception -/
def liftX (K : PySem.W.Frag) (B : Base) (W : W3) : XK := fun cls d H => ∃ C x M v dd D, cls = .ref C ∧ d = some dd ∧ H dd = some (.xd [("value", v)]) ∧ RMem K B M H D ∧ Rep K H D x v ∧ W C x M
def TK (X : Cx) (P : BP) (W : W3) : Prop := ∀ B, P B → Takes X (fun cls d _ H => liftX X.K B W cls d H)
def W0 : W3 := fun _ _ _ => False
theorem tk0 {X : Cx} {P : BP} : TK X P W0 := fun B _ => takes0.imp fun c d σ H ⟨_, _, _, _, _, _, _, _, _, _, _, w⟩ => w
theorem TK.imp {X : Cx} {P : BP} {W W' : W3} (t : TK X P W) (h : ∀ C x M, W' C x M → W C x M) : TK X P W' := fun B hB => (t B hB).imp fun c d σ H ⟨C, x, M, v, dd, D, e1, e2, e3, e4, e5, w⟩ => ⟨C, x, M, v, dd, D, e1, e2, e3, e4, e5, h _ _ _ w⟩

section
variable {X : Cx} {P : BP} {e o : Expr} {es : List Expr} {t : TA3} {ta : TE3} {pos p apos : Pos} {k : Nat} {f : Addr} {fd : FuncData} {ps : List Str} {sp : Sp3} {W : W3} {x m : Str}
theorem sp_lift {K : PySem.W.Frag} {B : Base} {σ : Sl} {M : Mem} {τ : L2.St} {H : Hp} {oa : Nat → Addr} (R : R3 K B σ M τ H oa) {xs : List PV} {vs : List V} (r : Reps K H (Dm B.DE σ M oa) xs vs) {Q3 : PV → Mem → Prop} {Q : VK} (h : sp xs M Q3 W)
    (k : ∀ x M' v H', Q3 x M' → R3 K B σ M' τ H' oa → Fr3 H H' (Zm B.DE σ M oa) (Zm B.DE σ M' oa) → Rep K H' (Dm B.DE σ M' oa) x v → Q v H') : liftSp K sp vs H Q (liftX K B W) := by
  refine ⟨Dm B.DE σ M oa, M, xs, Q3, W, fun b d => .inr (.inl d), R.mem.dom, R.mem.mem, r, h, fun y M' D' v H' q A ry => ?_, fun C y M' D' v dd H' q A ry hd => ?_⟩
  · obtain ⟨R', f', sub⟩ := R.called A.keep A.tups A.live A.mem A.sub A.new A.newM
    exact k y M' v H' q R' f' (ry.fr (Fr3.dom sub))
  · obtain ⟨R', f', sub⟩ := R.called A.keep A.tups A.live A.mem A.sub A.new A.newM
    exact ⟨C, y, M', v, dd, _, rfl, rfl, hd, R'.mem, ry.fr (Fr3.dom sub), q⟩
def tCall3 (sp : Sp3) (W : W3) (t : TA3) : TE3 := fun σ M Q => t σ M fun xs M1 => sp xs M1 Q W
theorem call_lift {K : PySem.W.Frag} {B : Base} {τ : L2.St} {H : Hp} {Q : VK} (h : liftE K B (tCall3 sp W t) τ H Q) : tCall (liftSp K sp) [] (liftX K B W) (liftA K B t) τ H Q := by
  obtain ⟨σ, M, oa, Q3, R, w, k⟩ := h
  refine ⟨σ, M, oa, _, R, w, fun xs M1 vs H1 q1 R1 f1 r1 => ?_⟩
  show liftSp K sp (vs ++ []) H1 Q _
  rw [List.append_nil]
  exact sp_lift R1 r1 q1 fun x M' v H' q R' f' r' => k x M' v H' q R' (f1.trans f') r'
theorem pe3_call (F : FnOk X.prog X.w X.K X.mg X.base (L2.CX X.prog X.w) k f fd ps (liftSp X.K sp)) (hr : Room k X.A) (hg : Gl X x) (hm : X.mg x = some (.ref f)) (hk : PySem.W.keepIn X.K (.ref f) = true) (hb : Binds X.K fd ps []) (tk : TK X P W)
    (ha : PA3 X P (e :: es) t) (hdb : (x == ("__debug__" : Str)) = false := by decide) (he : starEach (e :: es) X.env = (false, eval e X.env) :: starEach es X.env := by rfl) (hpl : (backTo pos (starEach es X.env)).any (·.1) = false := by rfl) :
    PE3 X P (.Call (.Name x p) (e :: es) [] pos) (tCall3 sp W t) := fun B hB =>
  PE.imp (pe_call F hr hg hm hk hb .nil (passes_call (tk B hB) fun _ _ _ _ h => h) (ha B hB) hdb he hpl) fun _ _ _ h => call_lift h
theorem pe3_call0 (F : FnOk X.prog X.w X.K X.mg X.base (L2.CX X.prog X.w) k f fd ps (liftSp X.K sp)) (hr : Room k X.A) (hg : Gl X x) (hm : X.mg x = some (.ref f)) (hk : PySem.W.keepIn X.K (.ref f) = true) (hb : Binds X.K fd ps []) (tk : TK X P W)
    (hdb : (x == ("__debug__" : Str)) = false := by decide) : PE3 X P (.Call (.Name x p) [] [] pos) (tCall3 sp W tNil3) := fun B hB =>
  PE.imp (pe_call0 F hr hg hm hk hb .nil (passes_call (tk B hB) fun _ _ _ _ h => h) hdb) fun τ H Q ⟨σ, M, oa, Q3, R, w, k⟩ => by
    show liftSp X.K sp ([] ++ []) H Q _
    exact sp_lift R Reps.nil w k
/-- a method of a mutable instance -/
def tMeth3 (C : Addr) (m : Str) (sp : Sp3) (W : W3) (ta : TE3) (t : TA3) : TE3 := fun σ M Q => ta σ M fun x M1 => ∃ a fs, x = .raw (.ref a) ∧ M1 a = some (.ins C fs) ∧ fs.lookup m = none ∧ t σ M1 fun xs M2 => sp (x :: xs) M2 Q W
theorem zip_none {fs : List (Str × PV)} {vs : List V} {m : Str} (h : fs.lookup m = none) : ((fs.map (·.1)).zip vs).lookup m = none := by
  induction fs generalizing vs with
  | nil => rfl
  | cons p fs ih =>
    obtain ⟨g, y⟩ := p
    cases vs with
    | nil => rfl
    | cons v vs =>
      rw [List.lookup_cons] at h
      simp only [List.map_cons, List.zip_cons_cons, List.lookup_cons]
      cases q : (m == g) with
      | true => rw [q] at h; cases h
      | false => rw [q] at h; exact ih h
theorem pe3_meth {C : Addr} {pl : Sem Bool} (ho : PE3 X P o ta) (c : Cls X.K C) (hm : Meth X.K C m f) (F : FnOk X.prog X.w X.K X.mg X.base (L2.CX X.prog X.w) k f fd ps (liftSp X.K sp)) (hr : Room k X.A) (hb : Binds X.K fd ps []) (tk : TK X P W) (ha : PA3 X P (e :: es) t)
    (hst : starEach (e :: es) X.env = (false, eval e X.env) :: starEach es X.env := by rfl) (hpl : (backTo pos (starEach es X.env)).any (·.1) = false := by rfl)
    (ht : eval (.Call (.Attribute o m apos) (e :: es) [] pos) X.env = (do
      let ov ← eval o X.env
      standAt apos.atName
      let (f, first) ← holding [ov] (getMethod ov m pl)
      callWith pos f first (backTo pos (starEach (e :: es) X.env)) (backToKw pos (keywordEach [] X.env))) := by rfl) :
    PE3 X P (.Call (.Attribute o m apos) (e :: es) [] pos) (tMeth3 C m sp W ta t) := fun B hB =>
  PE.imp (pe_meth (ho B hB) c hm F hr hb .nil (passes_call (tk B hB) fun _ _ _ _ h => h) (ha B hB) hst hpl ht) fun τ H Q ⟨σ, M, oa, Q3, R, w, k⟩ => ⟨σ, M, oa, _, R, w, fun x M1 v H1 ⟨a, fs, ex, ea, hl, q1⟩ R1 f1 r1 => by
    subst ex
    have ev : v = .ref a := r1
    subst ev
    obtain ⟨dx, vs, e1, z, rr⟩ := R1.mem.mem a _ ea
    refine ⟨a, dx, _, rfl, e1, zip_none hl, σ, M1, oa, _, R1, q1, fun xs M2 us H2 q2 R2 f2 r2 => ?_⟩
    show liftSp X.K sp (.ref a :: (us ++ [])) H2 Q _
    rw [List.append_nil]
    exact sp_lift R2 (Reps.cons (x := .raw (.ref a)) rfl r2) q2 fun x M' v H' q R' f' r' => k x M' v H' q R' ((f1.trans f2).trans f') r'⟩
theorem pe3_meth0 {C : Addr} {pl : Sem Bool} (ho : PE3 X P o ta) (c : Cls X.K C) (hm : Meth X.K C m f) (F : FnOk X.prog X.w X.K X.mg X.base (L2.CX X.prog X.w) k f fd ps (liftSp X.K sp)) (hr : Room k X.A) (hb : Binds X.K fd ps []) (tk : TK X P W)
    (ht : eval (.Call (.Attribute o m apos) [] [] pos) X.env = (do
      let ov ← eval o X.env
      standAt apos.atName
      let (f, first) ← holding [ov] (getMethod ov m pl)
      callWith pos f first (backTo pos (starEach [] X.env)) (backToKw pos (keywordEach [] X.env))) := by rfl) :
    PE3 X P (.Call (.Attribute o m apos) [] [] pos) (tMeth3 C m sp W ta tNil3) := fun B hB =>
  PE.imp (pe_meth0 (ho B hB) c hm F hr hb .nil (passes_call (tk B hB) fun _ _ _ _ h => h) ht) fun τ H Q ⟨σ, M, oa, Q3, R, w, k⟩ => ⟨σ, M, oa, _, R, w, fun x M1 v H1 ⟨a, fs, ex, ea, hl, q1⟩ R1 f1 r1 => by
    subst ex
    have ev : v = .ref a := r1
    subst ev
    obtain ⟨dx, vs, e1, z, rr⟩ := R1.mem.mem a _ ea
    refine ⟨a, dx, _, rfl, e1, zip_none hl, ?_⟩
    show liftSp X.K sp ([.ref a] ++ []) H1 Q _
    exact sp_lift R1 (Reps.cons (x := .raw (.ref a)) rfl Reps.nil) q1 fun x M' v H' q R' f' r' => k x M' v H' q R' (f1.trans f') r'⟩
/-! ### a new instance -/
/-- a fresh instance: the memory takes it -/
theorem R3.newIns {K : PySem.W.Frag} {B : Base} {σ : Sl} {M : Mem} {τ : L2.St} {H : Hp} {oa : Nat → Addr} (R : R3 K B σ M τ H oa) {a dx C : Addr} (ha : H a = none) (hd : H dx = none) (ne : dx ≠ a) :
    R3 K B σ (M.put a (.ins C [])) τ (upd (upd H dx (.own a)) a (.ins C dx [])) oa ∧ Fr3 H (upd (upd H dx (.own a)) a (.ins C dx [])) (Zm B.DE σ M oa) (Zm B.DE σ (M.put a (.ins C [])) oa) ∧ M a = none := by
  have sm : Same H (upd (upd H dx (.own a)) a (.ins C dx [])) := fun b u e => by rw [upd_ne (ne_of_none e ha), upd_ne (ne_of_none e hd)]; exact e
  have ma : M a = none := by
    cases q : M a with
    | none => rfl
    | some mo => obtain ⟨u, z⟩ := (R.mem.mem a mo q).there; rw [ha] at z; cases z
  have lv : ∀ b, Th H b → Th (upd (upd H dx (.own a)) a (.ins C dx [])) b := fun b ⟨u, q, t⟩ => ⟨u, sm b u q, t⟩
  have fr : Fr3 H (upd (upd H dx (.own a)) a (.ins C dx [])) (.all (Dm B.DE σ M oa)) (.all fun b => Dm B.DE σ M oa b ∨ b = a) := ⟨fun b u e _ _ => sm b u e, lv, fun b xs e => sm b _ e, fun b d => d.elim .inl fun z => .inr (nth (by rw [z]; exact ha)), fun b d => d.elim .inl fun z => .inr (nth (by rw [z]; exact ha))⟩
  have A : Aft K M (M.put a (.ins C [])) H (upd (upd H dx (.own a)) a (.ins C dx [])) (Dm B.DE σ M oa) (fun b => Dm B.DE σ M oa b ∨ b = a) := by
    refine ⟨fun b u e _ => sm b u e, fr.tups, fr.live, fun b mo e => ?_, fun b d => ?_, fr.new, fun b ⟨mo, d⟩ => ?_⟩
    · by_cases hb : b = a
      · subst hb
        rw [Mem.put_same] at e; cases e
        exact ⟨dx, [], upd_same, rfl, Reps.nil⟩
      · rw [Mem.put_ne hb] at e
        have r := R.mem.mem b mo e
        obtain ⟨u, q⟩ := r.there
        exact r.fr fr (by rw [sm b u q, q])
    · rcases d with d | ⟨mo, d⟩
      · exact .inl d
      · by_cases hb : b = a
        · exact .inr hb
        · rw [Mem.put_ne hb] at d; exact .inl (.inr (.inl ⟨mo, d⟩))
    · by_cases hb : b = a
      · exact .inr (nth (by rw [hb]; exact ha))
      · rw [Mem.put_ne hb] at d; exact .inl ⟨mo, d⟩
  obtain ⟨R', f, _⟩ := R.called A.keep A.tups A.live A.mem A.sub A.new A.newM
  exact ⟨R', f, ma⟩
def Mem.del (M : Mem) (a : Addr) : Mem := fun b => if b = a then none else M b
theorem Mem.del_ne {M : Mem} {a b : Addr} (h : b ≠ a) : M.del a b = M b := by simp [Mem.del, h]
theorem Mem.del_put {M : Mem} {a : Addr} {mo : MO} (h : M a = none) : (M.put a mo).del a = M := by
  funext b; simp only [Mem.del, Mem.put]; split
  · rename_i e; rw [e, h]
  · rfl
/-- a fresh instance of the memory is frozen -/
theorem R3.frozeIns {K : PySem.W.Frag} {B : Base} {σ : Sl} {M : Mem} {τ : L2.St} {H : Hp} {oa : Nat → Addr} (R : R3 K B σ M τ H oa) {a C : Addr} {fs : List (Str × PV)} (e : M a = some (.ins C fs)) (nd : ¬ B.DE a) :
    R3 K B σ (M.del a) τ H oa ∧ Fr3 H H (Zm B.DE σ M oa) (Zm B.DE σ (M.del a) oa) ∧ Rep K H (Dm B.DE σ (M.del a) oa) (.ins C (fs.map (·.1)) (fs.map (·.2))) (.ref a) := by
  obtain ⟨R', f⟩ := R.less (M1 := M.del a) fun b mo q => by
    by_cases hb : b = a
    · subst hb; simp [Mem.del] at q
    · rw [Mem.del_ne hb] at q; exact q
  refine ⟨R', f, ?_⟩
  obtain ⟨dx, vs, e1, z, rr⟩ := R.mem.mem a _ e
  unfold Rep
  refine ⟨a, dx, vs, rfl, fun d => ?_, e1, by simpa using z, rr.fr f⟩
  rcases d with d | ⟨mo, d⟩ | ⟨i, x, e', d⟩
  · exact nd d
  · simp [Mem.del] at d
  · have q := (R.nm i x e').1
    rw [d, e] at q; cases q
/-- C(..), the instance frozen behind its __init__ -/
def tMake3 (C : Addr) (sp : Sp3) (W : W3) (t : TA3) : TE3 := fun σ M Q => t σ M fun xs M1 => ∀ a, M1 a = none → sp (.raw (.ref a) :: xs) (M1.put a (.ins C [])) (fun y M2 => y = .non ∧ ∃ fs, M2 a = some (.ins C fs) ∧ Q (.ins C (fs.map (·.1)) (fs.map (·.2))) (M2.del a)) W
/-- C(..), the instance kept in the memory -/
def tMakeM3 (C : Addr) (sp : Sp3) (W : W3) (t : TA3) : TE3 := fun σ M Q => t σ M fun xs M1 => ∀ a, M1 a = none → sp (.raw (.ref a) :: xs) (M1.put a (.ins C [])) (fun y M2 => y = .non ∧ Q (.raw (.ref a)) M2) W
variable {C : Addr}
theorem make_lift {K : PySem.W.Frag} {B : Base} {τ : L2.St} {H : Hp} {Q : VK} (h : liftE K B (tMake3 C sp W t) τ H Q) : tMake C (liftSp K sp) [] (liftX K B W) (liftA K B t) τ H Q := by
  obtain ⟨σ, M, oa, Q3, R, w, k⟩ := h
  refine ⟨σ, M, oa, _, R, w, fun xs M1 vs H1 q1 R1 f1 r1 a dx ha hd ne => ?_⟩
  obtain ⟨R2, f2, ma⟩ := R1.newIns (C := C) ha hd ne
  rw [List.append_nil]
  refine sp_lift R2 (Reps.cons (x := .raw (.ref a)) rfl (r1.fr f2)) (q1 a ma) fun x M' v H' q R' f' r' => ?_
  obtain ⟨ex, fs, em, q⟩ := q
  subst ex
  have nd : ¬ B.DE a := fun z => nth ha (R1.mem.dom a (.inl z))
  obtain ⟨R4, f4, r4⟩ := R'.frozeIns em nd
  exact ⟨r', k _ _ _ _ q R4 (((f1.trans f2).trans f').trans f4) r4⟩
theorem makeM_lift {K : PySem.W.Frag} {B : Base} {τ : L2.St} {H : Hp} {Q : VK} (h : liftE K B (tMakeM3 C sp W t) τ H Q) : tMake C (liftSp K sp) [] (liftX K B W) (liftA K B t) τ H Q := by
  obtain ⟨σ, M, oa, Q3, R, w, k⟩ := h
  refine ⟨σ, M, oa, _, R, w, fun xs M1 vs H1 q1 R1 f1 r1 a dx ha hd ne => ?_⟩
  obtain ⟨R2, f2, ma⟩ := R1.newIns (C := C) ha hd ne
  rw [List.append_nil]
  refine sp_lift R2 (Reps.cons (x := .raw (.ref a)) rfl (r1.fr f2)) (q1 a ma) fun x M' v H' q R' f' r' => ?_
  obtain ⟨ex, q⟩ := q
  subst ex
  exact ⟨r', k _ _ _ _ q R' ((f1.trans f2).trans f') rfl⟩
theorem pe3_make (G : Mk X.K C f) (F : FnOk X.prog X.w X.K X.mg X.base (L2.CX X.prog X.w) k f fd ps (liftSp X.K sp)) (hr : Room (k + 1) X.A) (hg : Gl X x) (hm : X.mg x = some (.ref C)) (hb : Binds X.K fd ps []) (tk : TK X P W)
    (ha : PA3 X P (e :: es) t) (hdb : (x == ("__debug__" : Str)) = false := by decide) (he : starEach (e :: es) X.env = (false, eval e X.env) :: starEach es X.env := by rfl) (hpl : (backTo pos (starEach es X.env)).any (·.1) = false := by rfl) :
    PE3 X P (.Call (.Name x p) (e :: es) [] pos) (tMake3 C sp W t) := fun B hB =>
  PE.imp (pe_make G F hr hg hm hb .nil (passes_call (tk B hB) fun _ _ _ _ h => h) (ha B hB) hdb he hpl) fun _ _ _ h => make_lift h
theorem pe3_makeM (G : Mk X.K C f) (F : FnOk X.prog X.w X.K X.mg X.base (L2.CX X.prog X.w) k f fd ps (liftSp X.K sp)) (hr : Room (k + 1) X.A) (hg : Gl X x) (hm : X.mg x = some (.ref C)) (hb : Binds X.K fd ps []) (tk : TK X P W)
    (ha : PA3 X P (e :: es) t) (hdb : (x == ("__debug__" : Str)) = false := by decide) (he : starEach (e :: es) X.env = (false, eval e X.env) :: starEach es X.env := by rfl) (hpl : (backTo pos (starEach es X.env)).any (·.1) = false := by rfl) :
    PE3 X P (.Call (.Name x p) (e :: es) [] pos) (tMakeM3 C sp W t) := fun B hB =>
  PE.imp (pe_make G F hr hg hm hb .nil (passes_call (tk B hB) fun _ _ _ _ h => h) (ha B hB) hdb he hpl) fun _ _ _ h => makeM_lift h
theorem pe3_makeM0 (G : Mk X.K C f) (F : FnOk X.prog X.w X.K X.mg X.base (L2.CX X.prog X.w) k f fd ps (liftSp X.K sp)) (hr : Room (k + 1) X.A) (hg : Gl X x) (hm : X.mg x = some (.ref C)) (hb : Binds X.K fd ps []) (tk : TK X P W)
    (hdb : (x == ("__debug__" : Str)) = false := by decide) : PE3 X P (.Call (.Name x p) [] [] pos) (tMakeM3 C sp W tNil3) := fun B hB =>
  PE.imp (pe_make0 G F hr hg hm hb .nil (passes_call (tk B hB) fun _ _ _ _ h => h) hdb) fun τ H Q ⟨σ, M, oa, Q3, R, w, k⟩ a dx ha hd ne => by
    obtain ⟨R2, f2, ma⟩ := R.newIns (C := C) ha hd ne
    refine sp_lift R2 (Reps.cons (x := .raw (.ref a)) rfl Reps.nil) (w a ma) fun x M' v H' q R' f' r' => ?_
    obtain ⟨ex, q⟩ := q
    subst ex
    exact ⟨r', k _ _ _ _ q R' (f2.trans f') rfl⟩
/-! ### attributes -/
def fldOf (C : Addr) (f : Str) (M : Mem) (x : PV) : Option PV := match x with
  | .raw (.ref a) => match M a with
    | some (.ins C' fs) => if C' = C then fs.lookup f else none
    | _ => none
  | .ins C' fs xs => if C' = C then (fs.zip xs).lookup f else none
  | _ => none
def optW {α : Type} (x : Option α) (k : α → Prop) : Prop := match x with
  | some y => k y
  | none => False
theorem optW_of {α : Type} {x : Option α} {k : α → Prop} (h : optW x k) : ∃ y, x = some y ∧ k y := by
  cases x with
  | none => exact h.elim
  | some y => exact ⟨y, rfl, h⟩
def tFld3 (C : Addr) (f : Str) (ta : TE3) : TE3 := fun σ M Q => ta σ M fun x M1 => optW (fldOf C f M1 x) fun y => Q y M1
theorem zip_look {K : PySem.W.Frag} {H : Hp} {D : Addr → Prop} {f : Str} {y : PV} : ∀ {fs : List Str} {xs : List PV} {vs : List V}, Reps K H D xs vs → (fs.zip xs).lookup f = some y → ∃ v, (fs.zip vs).lookup f = some v ∧ Rep K H D y v
  | [], _, _, _, h => by simp at h
  | g :: fs, [], _, _, h => by simp at h
  | g :: fs, x :: xs, _, r, h => by
    unfold Reps at r
    obtain ⟨v, rr, e, h1, h2⟩ := r
    subst e
    simp only [List.zip_cons_cons, List.lookup_cons] at h ⊢
    cases q : (f == g) with
    | true => rw [q] at h; cases h; exact ⟨v, rfl, h1⟩
    | false => rw [q] at h; exact zip_look h2 h
theorem zip_12 : ∀ fs : List (Str × PV), (fs.map (·.1)).zip (fs.map (·.2)) = fs
  | [] => rfl
  | (a, b) :: fs => by simp only [List.map_cons, List.zip_cons_cons, zip_12 fs]
theorem fld_rep {K : PySem.W.Frag} {B : Base} {σ : Sl} {M : Mem} {τ : L2.St} {H : Hp} {oa : Nat → Addr} (R : R3 K B σ M τ H oa) {f : Str} {x y : PV} {v : V} (r : Rep K H (Dm B.DE σ M oa) x v) (h : fldOf C f M x = some y) :
    ∃ a dx fs u, v = .ref a ∧ H a = some (.ins C dx fs) ∧ fs.lookup f = some u ∧ Rep K H (Dm B.DE σ M oa) y u := by
  unfold fldOf at h
  split at h
  · split at h
    · rename_i a _ C' fs e
      split at h
      · rename_i ec; subst ec
        have ev : v = .ref a := r
        obtain ⟨dx, vs, e1, z, rr⟩ := R.mem.mem a _ e
        obtain ⟨u, l, ru⟩ := zip_look (fs := fs.map (·.1)) (xs := fs.map (·.2)) rr (by
          rw [zip_12]; exact h)
        exact ⟨a, dx, _, u, ev, e1, l, ru⟩
      · cases h
    · cases h
  · rename_i C' fs xs
    split at h
    · rename_i ec; subst ec
      unfold Rep at r
      obtain ⟨a, dx, vs, e, n, t, l, rr⟩ := r
      obtain ⟨u, l', ru⟩ := zip_look rr h
      exact ⟨a, dx, _, u, e, t, l', ru⟩
    · cases h
  · cases h
theorem pe3_fld {fn : Str} (c : Cls X.K C) (n : NoAttr X.K C fn) (he : PE3 X P e ta) (hb : attributeBase e fn X.env (eval e X.env) = eval e X.env := by rfl) : PE3 X P (.Attribute e fn pos) (tFld3 C fn ta) := fun B hB =>
  PE.imp (pe_fld (he B hB) hb) fun τ H Q ⟨σ, M, oa, Q3, R, w, k⟩ => ⟨σ, M, oa, _, R, w, fun x M1 v H1 q1 R1 f1 r1 => by
    obtain ⟨y, ey, q⟩ := optW_of q1
    obtain ⟨a, dx, fs, u, ev, ea, l, ru⟩ := fld_rep R1 r1 ey
    exact ⟨a, C, dx, fs, u, ev, ea, c, n, l, k y M1 u H1 q R1 f1 ru⟩⟩
end
end T3

namespace T3
open PySem PySem.Spec PyProof.Rows L2

/-! ## targets -/
abbrev TG3 := PV → Sl → Mem → (Sl → Mem → Prop) → Prop
abbrev TGs3 := List PV → Sl → Mem → (Sl → Mem → Prop) → Prop
def wipeL {α : Type} (n : α) (σ : List α) : List Nat → List α
  | [] => σ
  | v :: vs => (wipeL n σ vs).set v n
abbrev wipe3 (σ : Sl) (vs : List Nat) : Sl := wipeL Slot.un σ vs
theorem wipe_L (τ : L2.St) : ∀ vs : List Nat, wipe τ vs = wipeL none τ vs
  | [] => rfl
  | v :: vs => by unfold wipe wipeL; rw [wipe_L τ vs]
theorem wipeL_set {α : Type} {n : α} {τ : List α} {k : Nat} {v : α} : ∀ {vs : List Nat}, k ∈ vs → wipeL n (τ.set k v) vs = wipeL n τ vs
  | [], h => by simp at h
  | i :: vs, h => by
    unfold wipeL
    by_cases e : k ∈ vs
    · rw [wipeL_set e]
    · have ek : k = i := by simpa [e] using h
      subst ek
      have key : ∀ ws : List Nat, k ∉ ws → wipeL n (τ.set k v) ws = (wipeL n τ ws).set k v := by
        intro ws
        induction ws with
        | nil => intro _; rfl
        | cons j ws ih =>
          intro hj
          simp only [List.mem_cons, not_or] at hj
          unfold wipeL
          rw [ih hj.2, List.set_comm _ _ hj.1]
      rw [key vs e, List.set_set]
theorem wipeL_sub {α : Type} {n : α} {τ : List α} {us : List Nat} : ∀ {vs : List Nat}, (∀ i ∈ vs, i ∈ us) → wipeL n (wipeL n τ vs) us = wipeL n τ us
  | [], _ => rfl
  | v :: vs, h => by
    show wipeL n ((wipeL n τ vs).set v n) us = _
    rw [wipeL_set (h v (by simp)), wipeL_sub fun i hi => h i (by simp [hi])]
theorem wipeL_idem {α : Type} {n : α} {τ : List α} {vs : List Nat} : wipeL n (wipeL n τ vs) vs = wipeL n τ vs := wipeL_sub fun _ h => h
section
variable (K : PySem.W.Frag) (B : Base)
/-- ws: the slots that it writes -/
def liftG (g : TG3) (ws : List Nat) : TG := fun v τ H Q => ∃ x σ M oa Q3, R3 K B σ M τ H oa ∧ Rep K H (Dm B.DE σ M oa) x v ∧ g x σ M Q3 ∧
  ∀ σ' M' τ' H', Q3 σ' M' → R3 K B σ' M' τ' H' oa → (∀ vs : List Nat, (∀ i ∈ ws, i ∈ vs) → wipe τ' vs = wipe τ vs ∧ wipe3 σ' vs = wipe3 σ vs) → Fr3 H H' (Zm B.DE σ M oa) (Zm B.DE σ' M' oa) → Q τ' H'
def liftGs (g : TGs3) (ws : List Nat) : TGs := fun us τ H Q => ∃ xs σ M oa Q3, R3 K B σ M τ H oa ∧ Reps K H (Dm B.DE σ M oa) xs us ∧ g xs σ M Q3 ∧
  ∀ σ' M' τ' H', Q3 σ' M' → R3 K B σ' M' τ' H' oa → (∀ vs : List Nat, (∀ i ∈ ws, i ∈ vs) → wipe τ' vs = wipe τ vs ∧ wipe3 σ' vs = wipe3 σ vs) → Fr3 H H' (Zm B.DE σ M oa) (Zm B.DE σ' M' oa) → Q τ' H'
end
def PG3 (X : Cx) (P : BP) (e : Expr) (g : TG3) (ws : List Nat) : Prop := ∀ B, P B → PG X e (liftG X.K B g ws)
def PGs3 (X : Cx) (P : BP) (es : List Expr) (g : TGs3) (ws : List Nat) : Prop := ∀ B, P B → PGs X es (liftGs X.K B g ws)
theorem PG.imp {X : Cx} {e : Expr} {t t' : TG} (h : PG X e t) (i : ∀ v τ H Q, t' v τ H Q → t v τ H Q) : PG X e t' := ⟨fun pins s σ H v u Q I r w => h.run pins s σ H v u Q I r (i v σ H Q w)⟩
theorem PGs.imp {X : Cx} {e : List Expr} {t t' : TGs} (h : PGs X e t) (i : ∀ v τ H Q, t' v τ H Q → t v τ H Q) : PGs X e t' := ⟨fun pins s σ H v u Q I r w => h.run pins s σ H v u Q I r (i v σ H Q w)⟩
section
variable {X : Cx} {P : BP} {pos : Pos} {e : Expr} {es : List Expr} {g : TG3} {gs : TGs3} {ws ws' : List Nat}
def gName3 (i : Nat) : TG3 := fun x σ M Q => Q (σ.set i (.val x)) M
theorem pg3_name (i : Nat) {x : Str} (hN : X.N.Nodup) (hi : X.N[i]? = some x := by rfl) (hx : Loc X.env.scope x := by first | exact Or.inl rfl | exact Or.inr rfl) (hf : X.fn x = true ∨ X.env.scope.names.lookup x = some .local := by first | exact .inl rfl | exact .inr rfl | assumption) :
    PG3 X P (.Name x pos) (gName3 i) [i] := fun B hB => PG.imp (pg_name hN hi hx hf) fun v τ H Q ⟨x, σ, M, oa, Q3, R, r, w, k⟩ => by
  obtain ⟨R', f⟩ := R.put (k := i) r
  exact k _ _ _ _ w R' (fun vs hv => ⟨by rw [wipe_L, wipe_L, wipeL_set (hv i (by simp))], wipeL_set (hv i (by simp))⟩) f
def gNil3 : TGs3 := fun xs σ M Q => xs = [] ∧ Q σ M
def gCons3 (g : TG3) (gs : TGs3) : TGs3 := fun xs σ M Q => match xs with
  | x :: r => g x σ M fun σ' M' => gs r σ' M' Q
  | [] => False
theorem pgs3_nil : PGs3 X P [] gNil3 [] := fun B hB => PGs.imp pgs_nil fun us τ H Q ⟨xs, σ, M, oa, Q3, R, r, w, k⟩ => by
  obtain ⟨e, w⟩ := w
  subst e
  have eu : us = [] := by unfold Reps at r; exact r
  exact ⟨eu, k σ M τ H w R (fun vs _ => ⟨rfl, rfl⟩) (Fr3.refl _ _)⟩
theorem pgs3_cons (h1 : PG3 X P e g ws) (h2 : PGs3 X P es gs ws') (hs : (assignEach (e :: es) X.env).map (·.2) = assign e X.env :: (assignEach es X.env).map (·.2) := by rfl) : PGs3 X P (e :: es) (gCons3 g gs) (ws ++ ws') := fun B hB =>
  PGs.imp (pgs_cons (h1 B hB) (h2 B hB) hs) fun us τ H Q ⟨xs, σ, M, oa, Q3, R, r, w, k⟩ => by
    cases xs with
    | nil => exact w.elim
    | cons x xs =>
      unfold Reps at r
      obtain ⟨v, vr, e, r1, r2⟩ := r
      subst e
      refine ⟨v, vr, rfl, x, σ, M, oa, _, R, r1, w, fun σ1 M1 τ1 H1 q1 R1 wp f1 => ⟨xs, σ1, M1, oa, _, R1, r2.fr f1, q1, fun σ2 M2 τ2 H2 q2 R2 wp2 f2 => k σ2 M2 τ2 H2 q2 R2 (fun vs hv => ?_) (f1.trans f2)⟩⟩
      have a2 := wp2 vs fun i hi => hv i (by simp [hi])
      have a1 := wp vs fun i hi => hv i (by simp [hi])
      exact ⟨a2.1.trans a1.1, a2.2.trans a1.2⟩
def gTup3 (n : Nat) (gs : TGs3) : TG3 := fun x σ M Q => match x with
  | .tup xs => xs.length = n ∧ gs xs σ M Q
  | _ => False
theorem pg3_tup {k : Nat} {n : Nat} (hc : X.calm = true) (h : PGs3 X P es gs ws) (hn : (assignEach es X.env).length = n := by rfl) (hst : (assignEach es X.env).findIdx? (·.1) = none := by rfl) : PG3 X P (.Tuple es k pos) (gTup3 n gs) ws := fun B hB =>
  PG.imp (pg_tup hc (h B hB) hn hst) fun v τ H Q ⟨x, σ, M, oa, Q3, R, r, w, k⟩ => by
    unfold gTup3 at w
    split at w
    · rename_i xs
      unfold Rep at r
      obtain ⟨a, vs, e, t, z, rr⟩ := r
      exact ⟨a, vs, e, t.sq, by rw [rr.len]; exact w.1, xs, σ, M, oa, Q3, R, rr, w.2, k⟩
    · exact w.elim
end

/-! ## statements -/
structure D3 where
  nx : Sl → Mem → Prop
  rt : PV → Mem → Prop
  bk : Sl → Mem → Prop := fun _ _ => False
  ct : Sl → Mem → Prop := fun _ _ => False
abbrev TS3 := D3 → Sl → Mem → Prop
section
variable (K : PySem.W.Frag) (B : Base)
structure EndsOk (H0 : Hp) (D0 : Addr → Prop) (E : D3) (D : Ends) : Prop where
  nx : ∀ σ M τ H oa, E.nx σ M → R3 K B σ M τ H oa → Fr3 H0 H (.all D0) (.all (Dm B.DE σ M oa)) → D.nx τ H
  rt : ∀ x M v H D', E.rt x M → RMem K B M H D' → Rep K H D' x v → D.rt v H
  bk : ∀ σ M τ H oa, E.bk σ M → R3 K B σ M τ H oa → Fr3 H0 H (.all D0) (.all (Dm B.DE σ M oa)) → D.bk τ H
  ct : ∀ σ M τ H oa, E.ct σ M → R3 K B σ M τ H oa → Fr3 H0 H (.all D0) (.all (Dm B.DE σ M oa)) → D.ct τ H
theorem EndsOk.from {K : PySem.W.Frag} {B : Base} {H0 H1 : Hp} {D0 D1 : Addr → Prop} {E : D3} {D : Ends} (k : EndsOk K B H0 D0 E D) (f : Fr3 H0 H1 (.all D0) (.all D1)) : EndsOk K B H1 D1 E D :=
  ⟨fun σ M τ H oa q R g => k.nx σ M τ H oa q R (f.trans g), k.rt, fun σ M τ H oa q R g => k.bk σ M τ H oa q R (f.trans g), fun σ M τ H oa q R g => k.ct σ M τ H oa q R (f.trans g)⟩
def liftS (t : TS3) : TS := fun D τ H => ∃ σ M oa E, R3 K B σ M τ H oa ∧ t E σ M ∧ EndsOk K B H (Dm B.DE σ M oa) E D
end
def PS3 (X : Cx) (P : BP) (st : Stmt) (t : TS3) : Prop := ∀ B, P B → PS X st (liftS X.K B t)
def PSs3 (X : Cx) (P : BP) (st : List Stmt) (t : TS3) : Prop := ∀ B, P B → PSs X st (liftS X.K B t)
section
variable {X : Cx} {P : BP} {st : Stmt} {sts rest : List Stmt} {t u : TS3} {e o c a b : Expr} {te ta tb to ti : TE3} {pos pos' : Pos} {tc : TT3} {g : TG3} {ws : List Nat} {W : W3}
def tNext3 : TS3 := fun D σ M => D.nx σ M
def tSeq3 (t u : TS3) : TS3 := fun D σ M => t { D with nx := u D } σ M
theorem pss3_nil : PSs3 X P [] tNext3 := fun B hB => PSs.imp pss_nil fun D τ H ⟨σ, M, oa, E, R, w, k⟩ => k.nx σ M τ H oa w R (Fr3.refl _ _)
theorem pss3_cons (h1 : PS3 X P st t) (h2 : PSs3 X P rest u) : PSs3 X P (st :: rest) (tSeq3 t u) := fun B hB =>
  PSs.imp (pss_cons (h1 B hB) (h2 B hB)) fun D τ H ⟨σ, M, oa, E, R, w, k⟩ => ⟨σ, M, oa, _, R, w, ⟨fun σ' M' τ' H' oa' q R' f' => ⟨σ', M', oa', E, R', q, k.from f'⟩, k.rt, k.bk, k.ct⟩⟩
theorem pss3_one (h1 : PS3 X P st t) : PSs3 X P [st] t := fun B hB => pss_one (h1 B hB)
def tBreak3 : TS3 := fun D σ M => D.bk σ M
theorem ps3_pass : PS3 X P (.Pass pos) tNext3 := fun B hB => PS.imp ps_pass fun D τ H ⟨σ, M, oa, E, R, w, k⟩ => k.nx σ M τ H oa w R (Fr3.refl _ _)
theorem ps3_break : PS3 X P (.Break pos) tBreak3 := fun B hB => PS.imp ps_break fun D τ H ⟨σ, M, oa, E, R, w, k⟩ => k.bk σ M τ H oa w R (Fr3.refl _ _)
def tDrop3 (te : TE3) : TS3 := fun D σ M => te σ M fun _ M1 => D.nx σ M1
theorem ps3_expr (he : PE3 X P e te) (hs : swapsWith e none pos.line X.env = pure false := by rfl) : PS3 X P (.Expr e pos) (tDrop3 te) := fun B hB =>
  PS.imp (ps_expr (he B hB) hs) fun D τ H ⟨σ, M, oa, E, R, w, k⟩ => ⟨σ, M, oa, _, R, w, fun x M1 v H1 q1 R1 f1 r1 => k.nx σ M1 τ H1 oa q1 R1 f1.all⟩
/-- at a return: what the slots own is given away -/
theorem ret_rep {K : PySem.W.Frag} {B : Base} {σ : Sl} {M : Mem} {τ : L2.St} {H : Hp} {oa : Nat → Addr} (R : R3 K B σ M τ H oa) {x : PV} {v : V} (r : RepB K B σ M H oa x v) :
    ∃ D', RMem K B M H D' ∧ Rep K H D' x v := by
  have sub : ∀ b, (B.DE b ∨ ∃ mo, M b = some mo) → Dm B.DE σ M oa b := fun b d => d.elim .inl fun d => .inr (.inl d)
  refine ⟨fun b => B.DE b ∨ ∃ mo, M b = some mo, R.mem.sub_ sub fun _ d => d, ?_⟩
  rcases r with r | ⟨i, e, q⟩
  · exact r.fr (Fr3.dom sub)
  · subst q
    refine (R.own i x e).2.freeze (fun d => ?_) sub
    rcases d with d | ⟨mo, d⟩
    · exact (R.nm i x e).2 d
    · rw [(R.nm i x e).1] at d; cases d
def tRet3 (te : TE3) : TS3 := fun D σ M => te σ M D.rt
theorem ps3_ret (he : PB3 X P e te) : PS3 X P (.Return (some e) pos) (tRet3 te) := fun B hB =>
  PS.imp (ps_ret (he B hB)) fun D τ H ⟨σ, M, oa, E, R, w, k⟩ => ⟨σ, M, oa, _, R, w, fun x M1 v H1 q1 R1 f1 r1 => by
    obtain ⟨D', RM, rr⟩ := ret_rep R1 r1
    exact k.rt x M1 v H1 D' q1 RM rr⟩
def tRetN3 : TS3 := fun D _ M => D.rt .non M
theorem ps3_retN : PS3 X P (.Return none pos) tRetN3 := fun B hB => PS.imp ps_retN fun D τ H ⟨σ, M, oa, E, R, w, k⟩ => by
  obtain ⟨D', RM, rr⟩ := ret_rep R (.inl (Rep.non))
  exact k.rt .non M .non H D' w RM rr
def tIfS3 (c : TT3) (t u : TS3) : TS3 := fun D σ M => c σ M fun b M1 => if b = true then t D σ M1 else u D σ M1
theorem ps3_if {aa bb : List Stmt} (hc : PT3 X P c tc) (ha : PSs3 X P aa t) (hb : PSs3 X P bb u) : PS3 X P (.If c aa bb pos) (tIfS3 tc t u) := fun B hB =>
  PS.imp (ps_if (hc B hB) (ha B hB) (hb B hB)) fun D τ H ⟨σ, M, oa, E, R, w, k⟩ => ⟨σ, M, oa, _, R, w, fun d M1 H1 q1 R1 f1 => by
    cases d with
    | true => exact ⟨σ, M1, oa, E, R1, q1, k.from f1.all⟩
    | false => exact ⟨σ, M1, oa, E, R1, q1, k.from f1.all⟩⟩
def tNever3 : TS3 := fun _ _ _ => False
theorem ps3_never : PS3 X P st tNever3 := fun B hB => PS.imp ps_never fun D τ H ⟨_, _, _, _, _, w, _⟩ => w
theorem pss3_never : PSs3 X P sts tNever3 := fun B hB => PSs.imp pss_never fun D τ H ⟨_, _, _, _, _, w, _⟩ => w
/-! ### stores -/
def tAsg3 (te : TE3) (g : TG3) : TS3 := fun D σ M => te σ M fun x M1 => g x σ M1 D.nx
theorem asg_lift {K : PySem.W.Frag} {B : Base} {D : Ends} {τ : L2.St} {H : Hp} (h : liftS K B (tAsg3 te g) D τ H) : tAsg (liftE K B te) (liftG K B g ws) D τ H := by
  obtain ⟨σ, M, oa, E, R, w, k⟩ := h
  exact ⟨σ, M, oa, _, R, w, fun x M1 v H1 q1 R1 f1 r1 => ⟨x, σ, M1, oa, _, R1, r1, q1, fun σ' M' τ' H' q R' _ f' => k.nx σ' M' τ' H' oa q R' (f1.trans f').all⟩⟩
theorem ps3_asg {tg : Expr} (he : PE3 X P e te) (hg : PG3 X P tg g ws) (hs : swapsWithSole [tg] e pos.line X.env = pure false := by rfl) (hw : swappedStores [tg] e X.env = pure none := by rfl)
    (h1 : (assignEach [tg] X.env).map (·.2) = [assign tg X.env] := by rfl) : PS3 X P (.Assign [tg] e pos) (tAsg3 te g) := fun B hB => PS.imp (ps_asg (he B hB) (hg B hB) hs hw h1) fun _ _ _ h => asg_lift h
def tSet3 (i : Nat) (te : TE3) : TS3 := fun D σ M => te σ M fun x M1 => D.nx (σ.set i (.val x)) M1
theorem ps3_set (i : Nat) {x : Str} (hN : X.N.Nodup) (he : PE3 X P e te) (hi : X.N[i]? = some x := by rfl) (hx : Loc X.env.scope x := by first | exact Or.inl rfl | exact Or.inr rfl) (hs : swapsWith e (some (.Name x pos')) pos.line X.env = pure false := by rfl)
    (hf : X.fn x = true ∨ X.env.scope.names.lookup x = some .local := by first | exact .inl rfl | exact .inr rfl | assumption) : PS3 X P (.Assign [.Name x pos'] e pos) (tSet3 i te) := fun B hB =>
  PS.imp (ps_set hN hi hx (he B hB) hs hf) fun D τ H ⟨σ, M, oa, E, R, w, k⟩ => ⟨σ, M, oa, _, R, w, fun x M1 v H1 q1 R1 f1 r1 => k.nx _ _ _ _ _ q1 (R1.put r1).1 (f1.trans (R1.put r1).2).all⟩
/-- the slot owns it -/
def tSetO3 (i : Nat) (te : TE3) : TS3 := fun D σ M => te σ M fun x M1 => D.nx (σ.set i (.own x)) M1
theorem ps3_setO (i : Nat) {x : Str} (hN : X.N.Nodup) (he : PO3 X P e te) (hi : X.N[i]? = some x := by rfl) (hx : Loc X.env.scope x := by first | exact Or.inl rfl | exact Or.inr rfl) (hs : swapsWith e (some (.Name x pos')) pos.line X.env = pure false := by rfl)
    (hf : X.fn x = true ∨ X.env.scope.names.lookup x = some .local := by first | exact .inl rfl | exact .inr rfl | assumption) : PS3 X P (.Assign [.Name x pos'] e pos) (tSetO3 i te) := fun B hB =>
  PS.imp (ps_set hN hi hx (he B hB) hs hf) fun D τ H ⟨σ, M, oa, E, R, w, k⟩ => ⟨σ, M, oa, _, R, w, fun x M1 a H1 q1 F f1 => k.nx _ _ _ _ _ q1 F.putOwn.1 (f1.all.trans (Fr3.dom F.putOwn.2))⟩
/-- the memory takes it -/
def tSetM3 (i : Nat) (te : TE3) : TS3 := fun D σ M => te σ M fun x M1 => match x with
  | .lst xs => ∀ a, M1 a = none → D.nx (σ.set i (.val (.raw (.ref a)))) (M1.put a (.lst xs))
  | _ => False
theorem ps3_setM (i : Nat) {x : Str} (hN : X.N.Nodup) (he : PO3 X P e te) (hi : X.N[i]? = some x := by rfl) (hx : Loc X.env.scope x := by first | exact Or.inl rfl | exact Or.inr rfl) (hs : swapsWith e (some (.Name x pos')) pos.line X.env = pure false := by rfl)
    (hf : X.fn x = true ∨ X.env.scope.names.lookup x = some .local := by first | exact .inl rfl | exact .inr rfl | assumption) : PS3 X P (.Assign [.Name x pos'] e pos) (tSetM3 i te) := fun B hB =>
  PS.imp (ps_set hN hi hx (he B hB) hs hf) fun D τ H ⟨σ, M, oa, E, R, w, k⟩ => ⟨σ, M, oa, _, R, w, fun x M1 a H1 q1 F f1 => by
    cases x with
    | lst xs =>
      obtain ⟨R2, f2, ma⟩ := F.putMem
      obtain ⟨R3', f3⟩ := R2.put (k := i) (x := .raw (.ref a)) (v := .ref a) rfl
      exact k.nx _ _ _ _ _ (q1 a ma) R3' ((f1.all.trans (Fr3.dom f2)).trans f3.all)
    | _ => exact q1.elim⟩
/-- ghost: what slot i owns is frozen -/
def tFrz3 (i : Nat) (t : TS3) : TS3 := fun D σ M => match σ[i]? with
  | some (.own x) => t D (σ.set i (.val x)) M
  | some (.val x) => t D σ M
  | _ => False
theorem frz_lift {K : PySem.W.Frag} {B : Base} {i : Nat} {D : Ends} {τ : L2.St} {H : Hp} (h : liftS K B (tFrz3 i t) D τ H) : liftS K B t D τ H := by
  obtain ⟨σ, M, oa, E, R, w, k⟩ := h
  unfold tFrz3 at w
  split at w
  · rename_i x e
    exact ⟨_, M, oa, E, (R.frozen e).1, w, k.from (R.frozen e).2.all⟩
  · exact ⟨σ, M, oa, E, R, w, k⟩
  · exact w.elim
theorem pss3_frz (i : Nat) (h : PSs3 X P sts t) : PSs3 X P sts (tFrz3 i t) := fun B hB => PSs.imp (h B hB) fun _ _ _ h => frz_lift h
/-- a, b = x, y with plain local names -/
def tPar3 (i j : Nat) (ta : TA3) : TS3 := fun D σ M => ta σ M fun xs M1 => match xs with
  | [x, y] => D.nx ((σ.set i (.val x)).set j (.val y)) M1
  | _ => False
theorem ps3_par (i j : Nat) {x y : Str} {ta : TA3} {px py pt : Pos} {kt k2 pt2} (hc : X.calm = true) (hN : X.N.Nodup) (ha : PA3 X P [a, b] ta) (hi : X.N[i]? = some x := by rfl) (hj : X.N[j]? = some y := by rfl) (hij : i ≠ j := by decide)
    (hx : X.env.scope.names.lookup x = some .local := by rfl) (hy : X.env.scope.names.lookup y = some .local := by rfl)
    (hw : swappedStores [.Tuple [.Name x px, .Name y py] kt pt] (.Tuple [a, b] k2 pt2) X.env = pure (some [x, y]) := by rfl)
    (hs : swapsWithSole [.Tuple [.Name x px, .Name y py] kt pt] (.Tuple [a, b] k2 pt2) pos.line X.env = pure false := by rfl) :
    PS3 X P (.Assign [.Tuple [.Name x px, .Name y py] kt pt] (.Tuple [a, b] k2 pt2) pos) (tPar3 i j ta) := fun B hB =>
  PS.imp (ps_par hc hN hi hj hij hx hy (ha B hB) hw hs) fun D τ H ⟨σ, M, oa, E, R, w, k⟩ => ⟨σ, M, oa, _, R, w, fun xs M1 vs H1 q1 R1 f1 r1 => by
    match xs, q1 with
    | [x, y], q1 =>
      unfold Reps at r1
      obtain ⟨v, r, e1, h1, h2⟩ := r1
      unfold Reps at h2
      obtain ⟨u, r', e2, h3, h4⟩ := h2
      unfold Reps at h4
      subst h4; subst e2; subst e1
      obtain ⟨R2, f2⟩ := R1.put (k := i) h1
      obtain ⟨R3', f3⟩ := R2.put (k := j) (h3.fr f2)
      exact ⟨v, u, rfl, k.nx _ _ _ _ _ q1 R3' (f1.trans (f2.trans f3)).all⟩⟩
/-! ### a raise -/
end
end T3

namespace T3
open PySem PySem.Spec PyProof.Rows L2

/-! ## what is walked -/
/-- the turns of J give ys, while what stands at H0 outside D0 stands -/
def ItOk (K : PySem.W.Frag) (J : It) (ys : List PV) (H0 : Hp) (D0 : Addr → Prop) : Prop := ∀ (H : Hp) (D : Addr → Prop) (i : Nat), Fr3 H0 H (.all D0) (.all D) → (∀ b, D b → Th H b) →
  (i < ys.length → J.go i H ∧ ∀ x H', J.yld i H x H' → Same H H' ∧ ∃ y, ys[i]? = some y ∧ Rep K H' D y x) ∧ (ys.length = i → J.stop i H)
/-- .. and while the slots' own things stand -/
def ItOkB (K : PySem.W.Frag) (J : It) (ys : List PV) (σ : Sl) (oa : Nat → Addr) (H0 : Hp) (D0 : Addr → Prop) : Prop := ∀ (H : Hp) (D : Addr → Prop) (i : Nat), Fr3 H0 H (.all D0) (.all D) → (∀ b, D b → Th H b) → (∀ (j : Nat) x, σ[j]? = some (Slot.own x) → RepO K H D x (oa j)) →
  (i < ys.length → J.go i H ∧ ∀ x H', J.yld i H x H' → Same H H' ∧ ∃ y, ys[i]? = some y ∧ Rep K H' D y x) ∧ (ys.length = i → J.stop i H)
abbrev TI3 := Sl → Mem → (List PV → Mem → Prop) → Prop
section
variable (K : PySem.W.Frag) (B : Base)
def liftI (wi : TI3) : TI := fun τ H R => ∃ σ M oa Q3, R3 K B σ M τ H oa ∧ wi σ M Q3 ∧ ∀ ys M' J H', Q3 ys M' → R3 K B σ M' τ H' oa → Fr3 H H' (Zm B.DE σ M oa) (Zm B.DE σ M' oa) → ys.length ≤ sizeLine → ItOk K J ys H' (Dm B.DE σ M' oa) → R J H'
def liftIB (wi : TI3) : TI := fun τ H R => ∃ σ M oa Q3, R3 K B σ M τ H oa ∧ wi σ M Q3 ∧ ∀ ys M' J H', Q3 ys M' → R3 K B σ M' τ H' oa → Fr3 H H' (Zm B.DE σ M oa) (Zm B.DE σ M' oa) → ys.length ≤ sizeLine → ItOkB K J ys σ oa H' (Dm B.DE σ M' oa) → R J H'
end
def PI3 (X : Cx) (P : BP) (tg e : Expr) (wi : TI3) : Prop := ∀ B, P B → PI X tg e (liftI X.K B wi)
def PIB3 (X : Cx) (P : BP) (tg e : Expr) (wi : TI3) : Prop := ∀ B, P B → PI X tg e (liftIB X.K B wi)
theorem PI.imp {X : Cx} {tg e : Expr} {t t' : TI} (h : PI X tg e t) (i : ∀ τ H R, t' τ H R → t τ H R) : PI X tg e t' := ⟨fun pins s σ H R I w => h.run pins s σ H R I (i σ H R w)⟩
theorem ItOk.b {K : PySem.W.Frag} {J : It} {ys : List PV} {σ : Sl} {oa : Nat → Addr} {H0 : Hp} {D0 : Addr → Prop} (h : ItOk K J ys H0 D0) : ItOkB K J ys σ oa H0 D0 := fun H D i f d _ => h H D i f d
theorem PI3.b {X : Cx} {P : BP} {tg e : Expr} {wi : TI3} (h : PI3 X P tg e wi) : PIB3 X P tg e wi := fun B hB => PI.imp (h B hB) fun τ H R ⟨σ, M, oa, Q3, RR, w, k⟩ => ⟨σ, M, oa, Q3, RR, w, fun ys M' J H' q R' f z it => k ys M' J H' q R' f z it.b⟩

section
variable {X : Cx} {P : BP} {tg e iter elt c : Expr} {body : List Stmt} {te : TE3} {ta : TA3} {wi : TI3} {g : TG3} {ws : List Nat} {tb : TS3} {tt tc : TT3} {pos p : Pos} {scope : Scope} {ifs : List Expr}
/-- the items of a list or tuple -/
def seqW (x : PV) (k : List PV → Prop) : Prop := match x with
  | .lst xs => k xs
  | .tup xs => k xs
  | _ => False
theorem it_list {K : PySem.W.Frag} {a : Addr} {vs : List V} {ys : List PV} {H0 : Hp} {D0 : Addr → Prop} (h : LstAt K H0 D0 a vs) (r : Reps K H0 D0 ys vs) : ItOk K (Itl K a) ys H0 D0 := fun H D i f d => by
  have r' : Reps K H D ys vs := r.fr f
  have h' : SqL K H a vs := LstAt.sq (LstAt.fr f h)
  refine ⟨fun hi => ?_, fun hi => ⟨vs, h', by rw [r.len, hi]; exact Nat.le_refl _⟩⟩
  obtain ⟨y, ey⟩ : ∃ y, ys[i]? = some y := ⟨_, List.getElem?_eq_getElem hi⟩
  obtain ⟨v, ev, rv⟩ := r'.get ey
  refine ⟨⟨vs, v, h', ev⟩, fun x H' ⟨e1, e2⟩ => ?_⟩
  subst e1
  have ex := e2 vs h'
  rw [ev] at ex; cases ex
  exact ⟨fun _ _ z => z, y, ey, rv⟩
theorem it_tup {K : PySem.W.Frag} {a : Addr} {vs : List V} {ys : List PV} {H0 : Hp} {D0 : Addr → Prop} (h : TupAt K H0 a vs) (r : Reps K H0 D0 ys vs) : ItOk K (Itt K a) ys H0 D0 := fun H D i f d => by
  have r' : Reps K H D ys vs := r.fr f
  have h' : SqT K H a vs := (h.fr f).sq
  refine ⟨fun hi => ?_, fun hi => ⟨vs, h', by rw [r.len, hi]; exact Nat.le_refl _⟩⟩
  obtain ⟨y, ey⟩ : ∃ y, ys[i]? = some y := ⟨_, List.getElem?_eq_getElem hi⟩
  obtain ⟨v, ev, rv⟩ := r'.get ey
  refine ⟨⟨vs, v, h', ev⟩, fun x H' ⟨e1, e2⟩ => ?_⟩
  subst e1
  have ex := e2 vs h'
  rw [ev] at ex; cases ex
  exact ⟨fun _ _ z => z, y, ey, rv⟩
def lstW (x : PV) (k : List PV → Prop) : Prop := match x with
  | .lst xs => k xs
  | _ => False
def tupW (x : PV) (k : List PV → Prop) : Prop := match x with
  | .tup xs => k xs
  | _ => False
def iLst3 (te : TE3) : TI3 := fun σ M Q => te σ M fun x M1 => lstW x fun ys => Q ys M1
def iTup3 (te : TE3) : TI3 := fun σ M Q => te σ M fun x M1 => tupW x fun ys => Q ys M1
theorem pi3_list (h : PE3 X P e te) : PI3 X P tg e (iLst3 te) := fun B hB =>
  PI.imp (pi_list (h B hB)) fun τ H R ⟨σ, M, oa, Q3, RR, w, k⟩ => ⟨σ, M, oa, _, RR, w, fun x M1 v H1 q1 R1 f1 r1 => by
    cases x with
    | lst ys =>
      unfold Rep at r1
      obtain ⟨a, vs, ev, t, z, r⟩ := r1
      exact ⟨a, ev, ⟨vs, t.sq⟩, k ys M1 _ H1 q1 R1 f1 (by rw [← r.len]; exact z) (it_list t r)⟩
    | _ => exact q1.elim⟩
theorem pi3_tup (h : PE3 X P e te) : PI3 X P tg e (iTup3 te) := fun B hB =>
  PI.imp (pi_tup (h B hB)) fun τ H R ⟨σ, M, oa, Q3, RR, w, k⟩ => ⟨σ, M, oa, _, RR, w, fun x M1 v H1 q1 R1 f1 r1 => by
    cases x with
    | tup ys =>
      unfold Rep at r1
      obtain ⟨a, vs, ev, t, z, r⟩ := r1
      exact ⟨a, ev, ⟨vs, t.sq⟩, k ys M1 _ H1 q1 R1 f1 (by rw [← r.len]; exact z) (it_tup t r)⟩
    | _ => exact q1.elim⟩
/-- a list that a slot owns -/
theorem pib3_own (h : PB3 X P e te) : PIB3 X P tg e (iLst3 te) := fun B hB =>
  PI.imp (pi_list (h B hB)) fun τ H R ⟨σ, M, oa, Q3, RR, w, k⟩ => ⟨σ, M, oa, _, RR, w, fun x M1 v H1 q1 R1 f1 r1 => by
    cases x with
    | lst ys =>
      rcases r1 with r1 | ⟨i, ei, ev⟩
      · unfold Rep at r1
        obtain ⟨a, vs, ev, t, z, r⟩ := r1
        exact ⟨a, ev, ⟨vs, t.sq⟩, k ys M1 _ H1 q1 R1 f1 (by rw [← r.len]; exact z) (it_list t r).b⟩
      · obtain ⟨vs, t, z, r⟩ := (R1.own i _ ei).2
        refine ⟨oa i, ev, ⟨vs, .of t⟩, k ys M1 _ H1 q1 R1 f1 (by rw [← r.len]; exact z) fun H D j f d ho => ?_⟩
        obtain ⟨us, t', z', r'⟩ := ho i _ ei
        have h' : SqL X.K H (oa i) us := .of t'
        refine ⟨fun hi => ?_, fun hi => ⟨us, h', by rw [r'.len, hi]; exact Nat.le_refl _⟩⟩
        obtain ⟨y, ey⟩ : ∃ y, ys[j]? = some y := ⟨_, List.getElem?_eq_getElem hi⟩
        obtain ⟨u, eu, ru⟩ := r'.get ey
        refine ⟨⟨us, u, h', eu⟩, fun x H' ⟨e1, e2⟩ => ?_⟩
        subst e1
        have ex := e2 us h'
        rw [eu] at ex; cases ex
        exact ⟨fun _ _ z => z, y, ey, ru⟩
    | _ => exact q1.elim⟩
/-- the ints from lo on, n of them -/
def intsFrom (lo : Int) (n : Nat) : List PV := (List.range n).map fun (i : Nat) => PV.int (lo + (i : Int))
theorem intsFrom_len {lo : Int} {n : Nat} : (intsFrom lo n).length = n := by simp [intsFrom]
theorem intsFrom_get {lo : Int} {n i : Nat} (h : i < n) : (intsFrom lo n)[i]? = some (.int (lo + i)) := by simp [intsFrom, h]
theorem it_range {K : PySem.W.Frag} {lo : Int} {n : Nat} {H0 : Hp} {D0 : Addr → Prop} : ItOk K (Itr lo n) (intsFrom lo n) H0 D0 := fun H D i f d => by
  rw [intsFrom_len]
  refine ⟨fun hi => ⟨hi, fun x H' ⟨e1, e2⟩ => ?_⟩, fun hi => Nat.le_of_eq hi⟩
  subst e1; subst e2
  exact ⟨fun _ _ z => z, _, intsFrom_get hi, Rep.int⟩
def intW (x : PV) (k : Int → Prop) : Prop := match x with
  | .int i => k i
  | _ => False
theorem intW_of {x : PV} {k : Int → Prop} (h : intW x k) : ∃ i, x = .int i ∧ k i := by
  cases x <;> first | exact h.elim | exact ⟨_, rfl, h⟩
/-- small: below 2^24 in size -/
def smW (i : Int) : Prop := -16777216 ≤ i ∧ i ≤ 16777216
def iRange1 (ta : TA3) : TI3 := fun σ M Q => ta σ M fun xs M1 => match xs with
  | [x] => intW x fun j => smW j ∧ Q (intsFrom 0 j.toNat) M1
  | _ => False
def iRange2 (ta : TA3) : TI3 := fun σ M Q => ta σ M fun xs M1 => match xs with
  | [x, y] => intW x fun i => intW y fun j => (smW i ∧ smW j ∧ j - i ≤ 16777216) ∧ Q (intsFrom i (j - i).toNat) M1
  | _ => False
variable {a b : Expr}
theorem reps1 {K : PySem.W.Frag} {H : Hp} {D : Addr → Prop} {x : PV} {vs : List V} (h : Reps K H D [x] vs) : ∃ v, vs = [v] ∧ Rep K H D x v := by
  unfold Reps at h
  obtain ⟨v, r, e, h1, h2⟩ := h
  unfold Reps at h2
  subst h2
  exact ⟨v, e, h1⟩
theorem reps2 {K : PySem.W.Frag} {H : Hp} {D : Addr → Prop} {x y : PV} {vs : List V} (h : Reps K H D [x, y] vs) : ∃ v u, vs = [v, u] ∧ Rep K H D x v ∧ Rep K H D y u := by
  unfold Reps at h
  obtain ⟨v, r, e, h1, h2⟩ := h
  obtain ⟨u, e2, h3⟩ := reps1 h2
  subst e2
  exact ⟨v, u, e, h1, h3⟩
theorem pi3_range1 (hm : X.mg "range" = none) (ha : PA3 X P [a] ta) (hg : Gl X "range" := by rfl) (hs : starEach [a] X.env = [(false, eval a X.env)] := by rfl) : PI3 X P tg (.Call (.Name "range" p) [a] [] pos) (iRange1 ta) := fun B hB =>
  PI.imp (pi_range1 hg hm (ha B hB) hs) fun τ H R ⟨σ, M, oa, Q3, RR, w, k⟩ => ⟨σ, M, oa, _, RR, w, fun xs M1 vs H1 q1 R1 f1 r1 => by
    match xs, q1 with
    | [x], q1 =>
      obtain ⟨j, ex, ⟨s1, s2⟩, q⟩ := intW_of q1
      subst ex
      obtain ⟨v, ev, rv⟩ := reps1 r1
      have ev' : v = .int j := rv
      subst ev'; subst ev
      exact ⟨j, rfl, by omega, by omega, k _ M1 _ H1 q R1 f1 (by rw [intsFrom_len, sizeLine_eq]; omega) it_range⟩⟩
theorem pi3_range2 (hm : X.mg "range" = none) (ha : PA3 X P [a, b] ta) (hg : Gl X "range" := by rfl) (hs : starEach [a, b] X.env = [(false, eval a X.env), (false, eval b X.env)] := by rfl) (hs2 : starEach [b] X.env = [(false, eval b X.env)] := by rfl) : PI3 X P tg (.Call (.Name "range" p) [a, b] [] pos) (iRange2 ta) := fun B hB =>
  PI.imp (pi_range2 hg hm (ha B hB) hs hs2) fun τ H R ⟨σ, M, oa, Q3, RR, w, k⟩ => ⟨σ, M, oa, _, RR, w, fun xs M1 vs H1 q1 R1 f1 r1 => by
    match xs, q1 with
    | [x, y], q1 =>
      obtain ⟨i, ex, q2⟩ := intW_of q1
      obtain ⟨j, ey, ⟨⟨s1, s2⟩, ⟨s3, s4⟩, s5⟩, q⟩ := intW_of q2
      subst ex; subst ey
      obtain ⟨v, u, ev, rv, ru⟩ := reps2 r1
      have ev' : v = .int i := rv
      have eu' : u = .int j := ru
      subst ev'; subst eu'; subst ev
      exact ⟨i, j, rfl, by omega, k _ M1 _ H1 q R1 f1 (by rw [intsFrom_len, sizeLine_eq]; omega) it_range⟩⟩

/-! ## for, while -/
def forW (g : TG3) (tb : TS3) (D : D3) : List PV → Sl → Mem → Prop
  | [], σ, M => D.nx σ M
  | y :: ys, σ, M => g y σ M fun σ1 M1 => tb { D with nx := fun σ2 M2 => forW g tb D ys σ2 M2, ct := fun σ2 M2 => forW g tb D ys σ2 M2, bk := D.nx } σ1 M1
def tFor3 (wi : TI3) (g : TG3) (tb : TS3) : TS3 := fun D σ M => wi σ M fun ys M1 => forW g tb D ys σ M1
theorem ps3_for (hp : PassesOwn (model X.prog X.w) X.A X.env X.xe) (hc : X.calm = true) (hi : PI3 X P tg iter wi) (hg : PG3 X P tg g ws) (hb : PSs3 X P body tb)
    (hs : ∀ x, foldedSetIterable iter X.env x = pure x := by intro _; rfl) : PS3 X P (.For tg iter body [] pos) (tFor3 wi g tb) := fun B hB =>
  PS.imp (ps_for hp hc (hi B hB) (hg B hB) (hb B hB) hs) fun D τ H ⟨σ, M, oa, E, RR, w, k⟩ => ⟨σ, M, oa, _, RR, w, fun ys M1 J H1 q1 R1 f1 z it => by
    refine ⟨fun i m τ' H' => m = ys.length - i ∧ i ≤ ys.length ∧ ∃ σ' M' oa', R3 X.K B σ' M' τ' H' oa' ∧ Fr3 H1 H' (.all (Dm B.DE σ M1 oa)) (.all (Dm B.DE σ' M' oa')) ∧ forW g tb E (ys.drop i) σ' M', ⟨_, rfl, Nat.zero_le _, σ, M1, oa, R1, Fr3.refl _ _, q1⟩, ?_⟩
    rintro i m τ' H' ⟨rfl, hi', σ', M', oa', R', f', q'⟩
    have I := it H' (Dm B.DE σ' M' oa') i f' R'.mem.dom
    by_cases hlt : i < ys.length
    · obtain ⟨go, yl⟩ := I.1 hlt
      have hd : ys.drop i = ys[i] :: ys.drop (i + 1) := List.drop_eq_getElem_cons hlt
      rw [hd] at q'
      refine .inr ⟨go, fun τ2 H2 => ∃ σ2 M2 oa2, R3 X.K B σ2 M2 τ2 H2 oa2 ∧ Fr3 H1 H2 (.all (Dm B.DE σ M1 oa)) (.all (Dm B.DE σ2 M2 oa2)) ∧ forW g tb E (ys.drop (i + 1)) σ2 M2, fun τ2 H2 n2 => ⟨ys.length - (i + 1), by omega, rfl, hlt, n2⟩, fun x H2 hy => ?_⟩
      obtain ⟨sm, y, ey, ry⟩ := yl x H2 hy
      have ey' : y = ys[i] := by rw [List.getElem?_eq_getElem hlt] at ey; exact (Option.some.inj ey).symm
      subst ey'
      obtain ⟨R2, f2⟩ := R'.same sm
      refine ⟨ys[i], σ', M', oa', _, R2, ry, q', fun σ3 M3 τ3 H3 q3 R3' _ f3 => ⟨σ3, M3, oa', _, R3', q3, ?_⟩⟩
      have fa := (f'.trans f2.all).trans f3.all
      refine ⟨fun σ4 M4 τ4 H4 oa4 q4 R4 f4 => ⟨σ4, M4, oa4, R4, fa.trans f4, q4⟩, k.rt, fun σ4 M4 τ4 H4 oa4 q4 R4 f4 => k.nx σ4 M4 τ4 H4 oa4 q4 R4 (f1.all.trans (fa.trans f4)), fun σ4 M4 τ4 H4 oa4 q4 R4 f4 => ⟨σ4, M4, oa4, R4, fa.trans f4, q4⟩⟩
    · have e : i = ys.length := by omega
      subst e
      rw [List.drop_length] at q'
      exact .inl ⟨I.2 rfl, k.nx σ' M' τ' H' oa' q' R' (f1.all.trans f')⟩⟩
/-- while: W the invariant with its measure -/
def tWhile3 (c : TT3) (tb : TS3) : TS3 := fun D σ M => ∃ W : Nat → Sl → Mem → Prop, (∃ m, W m σ M) ∧ ∀ m σ M, W m σ M →
  c σ M fun b M1 => if b = true then tb { D with nx := fun σ' M' => ∃ m', m' < m ∧ W m' σ' M', ct := fun σ' M' => ∃ m', m' < m ∧ W m' σ' M', bk := D.nx } σ M1 else D.nx σ M1
theorem ps3_while (hp : PassesOwn (model X.prog X.w) X.A X.env X.xe) (hc : PT3 X P c tc) (hb : PSs3 X P body tb) : PS3 X P (.While c body [] pos) (tWhile3 tc tb) := fun B hB =>
  PS.imp (ps_while hp (hc B hB) (hb B hB)) fun D τ H ⟨σ, M, oa, E, RR, ⟨W, ⟨m0, w0⟩, turn⟩, k⟩ => by
    refine ⟨fun m τ' H' => ∃ σ' M' oa', R3 X.K B σ' M' τ' H' oa' ∧ Fr3 H H' (.all (Dm B.DE σ M oa)) (.all (Dm B.DE σ' M' oa')) ∧ W m σ' M', ⟨m0, σ, M, oa, RR, Fr3.refl _ _, w0⟩, ?_⟩
    rintro m τ' H' ⟨σ', M', oa', R', f', w'⟩
    refine ⟨σ', M', oa', _, R', turn m σ' M' w', fun b M1 H1 q1 R1 f1 => ?_⟩
    cases b with
    | false => exact k.nx σ' M1 τ' H1 oa' q1 R1 (f'.trans f1.all)
    | true =>
      refine ⟨fun τ2 H2 => ∃ m', m' < m ∧ ∃ σ2 M2 oa2, R3 X.K B σ2 M2 τ2 H2 oa2 ∧ Fr3 H H2 (.all (Dm B.DE σ M oa)) (.all (Dm B.DE σ2 M2 oa2)) ∧ W m' σ2 M2, fun τ2 H2 ⟨m', hm, n2⟩ => ⟨m', hm, n2⟩, σ', M1, oa', _, R1, q1, ?_⟩
      have fa := f'.trans f1.all
      exact ⟨fun σ4 M4 τ4 H4 oa4 ⟨m', hm, q4⟩ R4 f4 => ⟨m', hm, σ4, M4, oa4, R4, fa.trans f4, q4⟩, k.rt, fun σ4 M4 τ4 H4 oa4 q4 R4 f4 => k.nx σ4 M4 τ4 H4 oa4 q4 R4 (fa.trans f4), fun σ4 M4 τ4 H4 oa4 ⟨m', hm, q4⟩ R4 f4 => ⟨m', hm, σ4, M4, oa4, R4, fa.trans f4, q4⟩⟩
end
end T3

namespace T3
open PySem PySem.Spec PyProof.Rows L2

/-! ## list comprehensions -/
section
variable {K : PySem.W.Frag} {B : Base} {σ : Sl} {M : Mem} {τ : L2.St} {H : Hp} {oa : Nat → Addr}
theorem wipe3_R (R : R3 K B σ M τ H oa) : ∀ vs : List Nat, R3 K B (wipe3 σ vs) M (wipe τ vs) H oa
  | [] => R
  | v :: vs => by unfold wipe3 wipeL wipe; exact (wipe3_R R vs).forget
theorem wipe3_own {i : Nat} {x : PV} : ∀ {vs : List Nat}, (wipe3 σ vs)[i]? = some (Slot.own x) → σ[i]? = some (Slot.own x) ∧ i ∉ vs
  | [], h => ⟨h, by simp⟩
  | v :: vs, h => by
    unfold wipe3 wipeL at h
    by_cases hi : v = i
    · subst hi
      rw [List.getElem?_set] at h
      split at h
      · split at h
        · cases h
        · cases h
      · rename_i hh; exact absurd rfl hh
    · rw [List.getElem?_set_ne hi] at h
      obtain ⟨h1, h2⟩ := wipe3_own h
      exact ⟨h1, by simp only [List.mem_cons, not_or]; exact ⟨fun z => hi z.symm, h2⟩⟩
theorem wipe3_keep {i : Nat} {s : Slot} : ∀ {vs : List Nat}, i ∉ vs → σ[i]? = some s → (wipe3 σ vs)[i]? = some s
  | [], _, h => h
  | v :: vs, hn, h => by
    simp only [List.mem_cons, not_or] at hn
    unfold wipe3 wipeL
    rw [List.getElem?_set_ne (Ne.symm hn.1)]
    exact wipe3_keep hn.2 h
def noOwn (σ : Sl) (vs : List Nat) : Prop := ∀ i ∈ vs, match σ[i]? with
  | some (Slot.own _) => False
  | _ => True
theorem Dm.wipe_le {vs : List Nat} : ∀ b, Dm B.DE (wipe3 σ vs) M oa b → Dm B.DE σ M oa b := fun b d => by
  rcases d with d | d | ⟨i, x, e, d⟩
  · exact .inl d
  · exact .inr (.inl d)
  · exact .inr (.inr ⟨i, x, (wipe3_own e).1, d⟩)
theorem Dm.wipe_eq {vs : List Nat} (h : noOwn σ vs) : Dm B.DE (wipe3 σ vs) M oa = Dm B.DE σ M oa := by
  funext b
  refine propext ⟨Dm.wipe_le b, fun d => ?_⟩
  rcases d with d | d | ⟨i, x, e, d⟩
  · exact .inl d
  · exact .inr (.inl d)
  · refine .inr (.inr ⟨i, x, wipe3_keep (fun hi => ?_) e, d⟩)
    have z := h i hi
    rw [e] at z
    exact z
def Zp (B : Base) (a : Addr) (σ : Sl) (M : Mem) (oa : Nat → Addr) : Zone := ⟨Dm (B.plus a).DE σ M oa, fun b => (∃ mo, M b = some mo) ∨ b = a, fun b h => h.elim (fun h => .inr (.inl h)) fun h => .inl (.inr h)⟩
theorem Fr3.zp {a : Addr} {σ' : Sl} {M' : Mem} {H' : Hp} (f : Fr3 H H' (Zm (B.plus a).DE σ M oa) (Zm (B.plus a).DE σ' M' oa)) : Fr3 H H' (Zp B a σ M oa) (Zp B a σ' M' oa) :=
  ⟨fun b o e n t => f.keep b o e (fun d => n (.inl d)) t, f.live, f.tups, f.new, fun b d => by
    rcases d with d | d
    · rcases f.newM b d with z | z
      · exact .inl (.inl z)
      · exact .inr z
    · exact .inl (.inr d)⟩
/-- the new list is written -/
theorem R3.poke {a : Addr} {us us' : List V} (R : R3 K (B.plus a) σ M τ H oa) (ha : H a = some (.lst us)) (hE : ¬ Th B.HE a) (nd : ¬ Dm B.DE σ M oa a) :
    R3 K (B.plus a) σ M τ (upd H a (.lst us')) oa ∧ Fr3 H (upd H a (.lst us')) (Zp B a σ M oa) (Zp B a σ M oa) := by
  have lv : ∀ b, Th H b → Th (upd H a (.lst us')) b := fun b ⟨u, q, t⟩ => by
    by_cases hb : b = a
    · rw [hb]; exact ⟨_, upd_same, fun _ z => by cases z⟩
    · exact ⟨u, by rw [upd_ne hb]; exact q, t⟩
  have tp : ∀ b xs, H b = some (.tup xs) → upd H a (.lst us') b = some (.tup xs) := fun b xs e => by
    rw [upd_ne fun z => by rw [z, ha] at e; cases e]; exact e
  have f : Fr3 H (upd H a (.lst us')) (Zp B a σ M oa) (Zp B a σ M oa) := ⟨fun b o e n _ => by rw [upd_ne fun z => n (.inr z)]; exact e, lv, tp, fun b d => .inl d, fun b d => .inl d⟩
  have nM : ∀ b mo, M b = some mo → b ≠ a := fun b mo e z => nd (.inr (.inl ⟨mo, by rw [← z]; exact e⟩))
  have nO : ∀ (i : Nat) x, σ[i]? = some (Slot.own x) → oa i ≠ a := fun i x e z => nd (.inr (.inr ⟨i, x, e, z⟩))
  have fA := f.all
  refine ⟨⟨⟨fun b mo e => ?_, R.mem.sub, fun b o e n t => ?_, fun b n => lv b (R.mem.live b n), fun b xs e => tp b xs (R.mem.tups b xs e), R.mem.new, R.mem.newM, fun b d => lv b (R.mem.dom b d), fun p hp => ?_⟩, R.len, fun i x e => ?_, fun i x e => ?_, R.inj, R.nm⟩, f⟩
  · exact (R.mem.mem b mo e).fr fA (by rw [upd_ne (nM b mo e)])
  · have q := R.mem.keep b o e n t
    rw [upd_ne fun z => hE (by
      rw [z, ha] at q; cases q
      exact ⟨_, by rw [← z]; exact e, fun _ z => by cases z⟩)]
    exact q
  · obtain ⟨ps, h1, h2, h3⟩ := R.mem.tabs p hp
    refine ⟨ps, by rw [upd_ne fun z => by rw [z, ha] at h1; cases h1]; exact h1, h2, fun pos cv hc => ?_⟩
    obtain ⟨c, e1, e2⟩ := h3 pos cv hc
    exact ⟨c, e1, by rw [upd_ne fun z => by rw [z, ha] at e2; unfold LamX.CodeO at e2; cases e2]; exact e2⟩
  · obtain ⟨v, q, r⟩ := R.slot i x e
    exact ⟨v, q, r.fr fA⟩
  · obtain ⟨q, r⟩ := R.own i x e
    exact ⟨q, r.fr fA (by rw [upd_ne (nO i x e)])⟩
end
def PTs3 (X : Cx) (P : BP) (ifs : List Expr) (t : TT3) : Prop := ∀ B, P B → PTs X ifs (liftT X.K B t)
theorem PTs.imp {X : Cx} {ifs : List Expr} {t t' : TT} (h : PTs X ifs t) (i : ∀ τ H Q, t' τ H Q → t τ H Q) : PTs X ifs t' := ⟨fun pins s σ H Q I w => h.run pins s σ H Q I (i σ H Q w)⟩
def tYes3 : TT3 := fun _ M Q => Q true M
theorem pts3_nil {X : Cx} {P : BP} : PTs3 X P [] tYes3 := fun B hB => PTs.imp pts_nil fun τ H Q ⟨σ, M, oa, Q3, R, w, k⟩ => k true M H w R (Fr3.refl _ _)
theorem pts3_one {X : Cx} {P : BP} {c : Expr} {t : TT3} (h : PT3 X P c t) : PTs3 X P [c] t := fun B hB => pts_one (h B hB)

/-- the rest of the turns; acc: what has come -/
def compW (g : TG3) (tt : TT3) (te : TE3) (vs : List Nat) (σ : Sl) (Q : PV → Mem → Prop) : List PV → List PV → Mem → Prop
  | [], acc, M => Q (.lst acc) M
  | y :: ys, acc, M => g y (wipe3 σ vs) M fun σ1 M1 => tt σ1 M1 fun b M2 => if b = true then te σ1 M2 fun z M3 => compW g tt te vs σ Q ys (acc ++ [z]) M3 else compW g tt te vs σ Q ys acc M2
def tComp3 (wi : TI3) (g : TG3) (tt : TT3) (te : TE3) (vs : List Nat) : TE3 := fun σ M Q => noOwn σ vs ∧ wi σ M fun ys M1 => compW g tt te vs σ Q ys [] M1
abbrev PAll : BP := fun _ => True
section
variable {X : Cx} {P : BP} {tg iter elt : Expr} {wi : TI3} {g : TG3} {ws : List Nat} {tt : TT3} {te : TE3} {scope : Scope} {own : List (Str × Nat)} {ifs : List Expr} {pos : Pos}
theorem PG3.ex (h : PG3 X PAll tg g ws) : PG X tg (fun v τ H Q => ∃ B, liftG X.K B g ws v τ H Q) := ⟨fun pins s σ H v u Q I r ⟨B, w⟩ => (h B trivial).run pins s σ H v u Q I r w⟩
theorem PTs3.ex (h : PTs3 X PAll ifs tt) : PTs X ifs (fun τ H Q => ∃ B, liftT X.K B tt τ H Q) := ⟨fun pins s σ H Q I ⟨B, w⟩ => (h B trivial).run pins s σ H Q I w⟩
theorem PE3.ex (h : PE3 X PAll elt te) : PE X elt (fun τ H Q => ∃ B, liftE X.K B te τ H Q) := ⟨fun pins s σ H Q I ⟨B, w⟩ => (h B trivial).run pins s σ H Q I w⟩
/-- the reading of the comprehension -/
theorem comp_lift {K : PySem.W.Frag} {B : Base} {vs : List Nat} {τ : L2.St} {H : Hp} {Q : VK} (hw : ∀ i ∈ ws, i ∈ vs) (h : liftO K B (tComp3 wi g tt te vs) τ H Q) :
    tLc (liftIB K B wi) (fun v τ H Q => ∃ B, liftG K B g ws v τ H Q) (fun τ H Q => ∃ B, liftT K B tt τ H Q) (fun τ H Q => ∃ B, liftE K B te τ H Q) vs τ H Q := by
  obtain ⟨σ, M, oa, Q3, R, ⟨no, w⟩, k⟩ := h
  refine ⟨σ, M, oa, _, R, w, fun ys M1 J H1 q1 R1 f1 hz it D hD => ?_⟩
  obtain ⟨F, fF⟩ := R1.newList hD (xs := []) (vs := []) Reps.nil (Nat.zero_le _)
  have hDE := F.hE
  have eD : ∀ M' : Mem, Dm (B.plus D).DE (wipe3 σ vs) M' oa = Dm (B.plus D).DE σ M' oa := fun M' => Dm.wipe_eq no
  have eD0 : ∀ M' : Mem, Dm B.DE (wipe3 σ vs) M' oa = Dm B.DE σ M' oa := fun M' => Dm.wipe_eq no
  -- the invariant
  refine ⟨fun i m H' => m = ys.length - i ∧ i ≤ ys.length ∧ ∃ acc accV M', R3 K (B.plus D) (wipe3 σ vs) M' (wipe τ vs) H' oa ∧ Fr3 H1 H' (Zm B.DE σ M1 oa) (Zp B D (wipe3 σ vs) M' oa) ∧ H' D = some (.lst accV) ∧
      Reps K H' (Dm (B.plus D).DE (wipe3 σ vs) M' oa) acc accV ∧ acc.length ≤ i ∧ ¬ Dm B.DE σ M' oa D ∧ compW g tt te vs σ Q3 (ys.drop i) acc M', ⟨_, rfl, Nat.zero_le _, [], [], M1, wipe3_R F.st vs, ?_, upd_same, Reps.nil, Nat.zero_le _, F.nd, q1⟩, ?_⟩
  · refine ⟨fun b o e n t => fF.keep b o e n t, fF.live, fF.tups, fun b d => ?_, fun b d => ?_⟩
    · exact fF.new b (Dm.wipe_le b d)
    · rcases d with d | d
      · exact .inl d
      · exact .inr (nth (by rw [d]; exact hD))
  rintro i m H' ⟨rfl, hi', acc, accV, M', R', f', hDl, rA, hA, nD, q'⟩
  have I := it H' (Dm (B.plus D).DE (wipe3 σ vs) M' oa) i f'.all R'.mem.dom (fun j x e => ?_)
  rotate_left
  · have hj : j ∉ vs := fun hj => by
      have z := no j hj
      rw [e] at z
      exact z
    exact (R'.own j x (wipe3_keep hj e)).2
  by_cases hlt : i < ys.length
  · obtain ⟨go, yl⟩ := I.1 hlt
    have hd : ys.drop i = ys[i] :: ys.drop (i + 1) := List.drop_eq_getElem_cons hlt
    rw [hd] at q'
    refine .inr ⟨go, fun H5 => ∃ acc accV M', R3 K (B.plus D) (wipe3 σ vs) M' (wipe τ vs) H5 oa ∧ Fr3 H1 H5 (Zm B.DE σ M1 oa) (Zp B D (wipe3 σ vs) M' oa) ∧ H5 D = some (.lst accV) ∧
      Reps K H5 (Dm (B.plus D).DE (wipe3 σ vs) M' oa) acc accV ∧ acc.length ≤ i + 1 ∧ ¬ Dm B.DE σ M' oa D ∧ compW g tt te vs σ Q3 (ys.drop (i + 1)) acc M', fun H5 n5 => ⟨ys.length - (i + 1), by omega, rfl, hlt, n5⟩, fun x H2 hy => ?_⟩
    obtain ⟨sm, y, ey, ry⟩ := yl x H2 hy
    have ey' : y = ys[i] := by rw [List.getElem?_eq_getElem hlt] at ey; exact (Option.some.inj ey).symm
    subst ey'
    obtain ⟨R2, f2⟩ := R'.same sm
    refine ⟨B.plus D, ys[i], _, M', oa, _, R2, ry, q', fun σ3 M3 τ3 H3 q3 R3' wp f3 => ?_⟩
    obtain ⟨wp1, wp2⟩ := wp vs hw
    rw [wipe_L (wipe τ vs), wipe_L τ, wipeL_idem, ← wipe_L τ] at wp1
    replace wp2 : wipe3 σ3 vs = wipe3 σ vs := wp2.trans wipeL_idem
    refine ⟨wp1, B.plus D, σ3, M3, oa, _, R3', q3, fun b M4 H4 q4 R4 f4 => ?_⟩
    have fa := (f2.trans f3).trans f4
    -- the end of a turn
    have fin : ∀ {M5 : Mem} {H5 : Hp}, R3 K (B.plus D) σ3 M5 τ3 H5 oa → Fr3 H' H5 (Zm (B.plus D).DE (wipe3 σ vs) M' oa) (Zm (B.plus D).DE σ3 M5 oa) →
        R3 K (B.plus D) (wipe3 σ vs) M5 (wipe τ vs) H5 oa ∧ Fr3 H' H5 (Zm (B.plus D).DE (wipe3 σ vs) M' oa) (Zm (B.plus D).DE (wipe3 σ vs) M5 oa) ∧ H5 D = some (.lst accV) ∧ ¬ Dm B.DE σ M5 oa D ∧ (∀ b, Dm (B.plus D).DE (wipe3 σ vs) M5 oa b → Dm (B.plus D).DE σ3 M5 oa b) := fun {M5 H5} R5 f5 => by
      have r := wipe3_R R5 vs
      rw [wp1, wp2] at r
      have le : ∀ b, Dm (B.plus D).DE (wipe3 σ vs) M5 oa b → Dm (B.plus D).DE σ3 M5 oa b := fun b d => by rw [← wp2] at d; exact Dm.wipe_le b d
      have nM : ¬ ∃ mo, M' D = some mo := fun ⟨mo, e⟩ => nD (.inr (.inl ⟨mo, e⟩))
      refine ⟨r, f5.shrink le fun _ d => d, f5.keep D _ hDl nM (fun _ z => by cases z), fun d => ?_, le⟩
      rcases d with d | d | ⟨j, x, e, d⟩
      · exact nD (.inl d)
      · rcases f5.newM D d with z | z
        · exact nM z
        · exact z ⟨_, hDl, fun _ z => by cases z⟩
      · exact nD (.inr (.inr ⟨j, x, e, d⟩))
    cases b with
    | false =>
      obtain ⟨a1, a2, a3, a4, a5⟩ := fin R4 fa
      exact ⟨acc, accV, M4, a1, f'.trans a2.zp, a3, rA.fr a2, Nat.le_succ_of_le hA, a4, q4⟩
    | true =>
      refine ⟨B.plus D, σ3, M4, oa, _, R4, q4, fun z M5 v H5 q5 R5 f5 r5 => ?_⟩
      obtain ⟨a1, a2, a3, a4, a5⟩ := fin R5 (fa.trans f5)
      have hl : accV.length < sizeLine := by
        rw [rA.len]
        exact Nat.lt_of_lt_of_le (Nat.lt_of_le_of_lt hA hlt) hz
      obtain ⟨R6, f6⟩ := a1.poke (us' := accV ++ [v]) a3 hDE (by rw [eD0]; exact a4)
      have r5' : Rep K H5 (Dm (B.plus D).DE (wipe3 σ vs) M5 oa) z v := r5.fr (Fr3.dom a5)
      refine ⟨accV, a3, hl, acc ++ [z], accV ++ [v], M5, R6, (f'.trans a2.zp).trans f6, upd_same, ?_, by simp; omega, a4, q5⟩
      exact Reps.app ((rA.fr a2).fr f6) (Reps.cons (r5'.fr f6) Reps.nil)
  · have e : i = ys.length := by omega
    subst e
    rw [List.drop_length] at q'
    refine .inl ⟨I.2 rfl, k _ M' _ _ q' ⟨⟨?_, ?_, ?_, ?_, ?_, ?_⟩, ?_, hDE, nD⟩ ?_⟩
    · have m := R'.mem
      rw [eD] at m; exact m
    · exact R1.len
    · intro j x e
      obtain ⟨v, q, r⟩ := R1.slot j x e
      have r2 := r.fr f'
      have eZ : (Zp B D (wipe3 σ vs) M' oa).D = Dm (B.plus D).DE σ M' oa := eD M'
      rw [eZ] at r2
      exact ⟨v, q, r2⟩
    · intro j x e
      have hj : j ∉ vs := fun hj => by
        have z := no j hj
        rw [e] at z
        exact z
      obtain ⟨q, r⟩ := R'.own j x (wipe3_keep hj e)
      rw [eD] at r
      exact ⟨(R1.own j x e).1, r⟩
    · exact R1.inj
    · intro j x e
      have hj : j ∉ vs := fun hj => by
        have z := no j hj
        rw [e] at z
        exact z
      exact R'.nm j x (wipe3_keep hj e)
    · refine ⟨accV, hDl, by rw [rA.len]; exact Nat.le_trans hA hz, ?_⟩
      rw [eD] at rA; exact rA
    · have f2 : Fr3 H1 H' (Zm B.DE σ M1 oa) (Zm (B.plus D).DE σ M' oa) := f'.shrink (fun b d => by
        show Dm (B.plus D).DE (wipe3 σ vs) M' oa b
        rw [eD]; exact d) fun b d => .inl d
      exact f1.trans f2
theorem po3_comp (hc : X.calm = true) (hN : X.N.Nodup) (hi : PIB3 X P tg iter wi) (ok : BlkOk X.N X.env.scope scope own) (hw : ∀ i ∈ ws, i ∈ own.map (·.2))
    (hg : ∀ (s : Shared) (H : Hp) (C : Addr) (cl : List (Str × Addr)) (fp : List Addr), PG3 (X.blk s H scope (compEnvC scope cl C X.env) fp) PAll tg g ws)
    (ht : ∀ (s : Shared) (H : Hp) (C : Addr) (cl : List (Str × Addr)) (fp : List Addr), PTs3 (X.blk s H scope (compEnvC scope cl C X.env) fp) PAll ifs tt)
    (he : ∀ (s : Shared) (H : Hp) (C : Addr) (cl : List (Str × Addr)) (fp : List Addr), PE3 (X.blk s H scope (compEnvC scope cl C X.env) fp) PAll elt te) (hs : ∀ x, foldedSetIterable iter X.env x = pure x := by intro _; rfl) :
    PO3 X P (.ListComp elt [⟨tg, iter, ifs, 0⟩] scope pos) (tComp3 wi g tt te (own.map (·.2))) := fun B hB =>
  PE.imp (pe_lc hc hN (hi B hB) ok (fun s H C cl fp => (hg s H C cl fp).ex) (fun s H C cl fp => (ht s H C cl fp).ex) (fun s H C cl fp => (he s H C cl fp).ex) hs) fun τ H Q h => comp_lift hw h
/-- y = [..] on one line -/
theorem ps3_setLc (i : Nat) {y : Str} {py spos : Pos} (hc : X.calm = true) (hN : X.N.Nodup) (hsw : swapsWith (.ListComp elt [⟨tg, iter, ifs, 0⟩] scope pos) (some (.Name y py)) spos.line X.env = pure true) (hi : PIB3 X P tg iter wi) (ok : BlkOk X.N X.env.scope scope own) (hw : ∀ i ∈ ws, i ∈ own.map (·.2))
    (hg : ∀ (s : Shared) (H : Hp) (C : Addr) (cl : List (Str × Addr)) (fp : List Addr), PG3 (X.blk s H scope (compEnvC scope cl C X.env) fp) PAll tg g ws)
    (ht : ∀ (s : Shared) (H : Hp) (C : Addr) (cl : List (Str × Addr)) (fp : List Addr), PTs3 (X.blk s H scope (compEnvC scope cl C X.env) fp) PAll ifs tt)
    (he : ∀ (s : Shared) (H : Hp) (C : Addr) (cl : List (Str × Addr)) (fp : List Addr), PE3 (X.blk s H scope (compEnvC scope cl C X.env) fp) PAll elt te)
    (hy : X.N[i]? = some y := by rfl) (hyl : X.env.scope.names.lookup y = some .local := by rfl) (hs : ∀ x, foldedSetIterable iter X.env x = pure x := by intro _; rfl) :
    PS3 X P (.Assign [.Name y py] (.ListComp elt [⟨tg, iter, ifs, 0⟩] scope pos) spos) (tSet3 i (tComp3 wi g tt te (own.map (·.2)))) := fun B hB =>
  PS.imp (ps_setLc hc hN hy hyl hsw (hi B hB) ok (fun s H C cl fp => (hg s H C cl fp).ex) (fun s H C cl fp => (ht s H C cl fp).ex) (fun s H C cl fp => (he s H C cl fp).ex) hs) fun D τ H ⟨σ, M, oa, E, R, w, k⟩ =>
    comp_lift hw ⟨σ, M, oa, _, R, w, fun x M1 a H1 q1 F f1 => by
      obtain ⟨R1, r1⟩ := F.frozen
      exact k.nx _ _ _ _ _ q1 (R1.put r1).1 (f1.all.trans ((Fr3.dom fun b d => Dm.plus.mpr (.inl d)).trans (R1.put r1).2.all))⟩
/-- .. that the slot owns -/
theorem ps3_setLcO (i : Nat) {y : Str} {py spos : Pos} (hc : X.calm = true) (hN : X.N.Nodup) (hsw : swapsWith (.ListComp elt [⟨tg, iter, ifs, 0⟩] scope pos) (some (.Name y py)) spos.line X.env = pure true) (hi : PIB3 X P tg iter wi) (ok : BlkOk X.N X.env.scope scope own) (hw : ∀ i ∈ ws, i ∈ own.map (·.2))
    (hg : ∀ (s : Shared) (H : Hp) (C : Addr) (cl : List (Str × Addr)) (fp : List Addr), PG3 (X.blk s H scope (compEnvC scope cl C X.env) fp) PAll tg g ws)
    (ht : ∀ (s : Shared) (H : Hp) (C : Addr) (cl : List (Str × Addr)) (fp : List Addr), PTs3 (X.blk s H scope (compEnvC scope cl C X.env) fp) PAll ifs tt)
    (he : ∀ (s : Shared) (H : Hp) (C : Addr) (cl : List (Str × Addr)) (fp : List Addr), PE3 (X.blk s H scope (compEnvC scope cl C X.env) fp) PAll elt te)
    (hy : X.N[i]? = some y := by rfl) (hyl : X.env.scope.names.lookup y = some .local := by rfl) (hs : ∀ x, foldedSetIterable iter X.env x = pure x := by intro _; rfl) :
    PS3 X P (.Assign [.Name y py] (.ListComp elt [⟨tg, iter, ifs, 0⟩] scope pos) spos) (tSetO3 i (tComp3 wi g tt te (own.map (·.2)))) := fun B hB =>
  PS.imp (ps_setLc hc hN hy hyl hsw (hi B hB) ok (fun s H C cl fp => (hg s H C cl fp).ex) (fun s H C cl fp => (ht s H C cl fp).ex) (fun s H C cl fp => (he s H C cl fp).ex) hs) fun D τ H ⟨σ, M, oa, E, R, w, k⟩ =>
    comp_lift hw ⟨σ, M, oa, _, R, w, fun x M1 a H1 q1 F f1 => k.nx _ _ _ _ _ q1 F.putOwn.1 (f1.all.trans (Fr3.dom F.putOwn.2))⟩
end
end T3

namespace T3
open PySem PySem.Spec PyProof.Rows L2

/-! ## a def keeps its promise -/
def Mem.Le (M1 M : Mem) : Prop := ∀ b mo, M1 b = some mo → M b = some mo
theorem Mem.Le.refl (M : Mem) : M.Le M := fun _ _ h => h
/-- less memory may be told -/
def clQ (Q : PV → Mem → Prop) : PV → Mem → Prop := fun y M' => ∃ M1, Mem.Le M1 M' ∧ Q y M1
def clW (E : W3) : W3 := fun C y M' => ∃ M1, Mem.Le M1 M' ∧ E C y M1
theorem clQ.of {Q : PV → Mem → Prop} {y : PV} {M : Mem} (h : Q y M) : clQ Q y M := ⟨M, .refl M, h⟩
theorem clW.of {E : W3} {C : Addr} {y : PV} {M : Mem} (h : E C y M) : clW E C y M := ⟨M, .refl M, h⟩
theorem RMem.aft {K : PySem.W.Frag} {D : Addr → Prop} {H H' : Hp} {M M' M1 : Mem} {D' : Addr → Prop} (R : RMem K ⟨D, H, M, []⟩ M' H' D') (l : Mem.Le M1 M') : Aft K M M1 H H' D D' :=
  ⟨fun b o e n => R.keep b o e n (.inl rfl), R.tups, R.live, fun a mo e => R.mem a mo (l a mo e), fun b d => d.elim (fun d => R.sub b (.inl d)) fun ⟨mo, d⟩ => R.sub b (.inr ⟨mo, l b mo d⟩), R.new, fun b ⟨mo, d⟩ => R.newM b ⟨mo, l b mo d⟩⟩
def start3 (N : List Str) (xs : List PV) : Sl := xs.map Slot.val ++ List.replicate (N.length - xs.length) Slot.un
theorem start3_val {N : List Str} {xs : List PV} {i : Nat} {x : PV} (h : (start3 N xs)[i]? = some (Slot.val x)) : xs[i]? = some x := by
  unfold start3 at h
  by_cases hi : i < xs.length
  · rw [List.getElem?_append_left (by simpa using hi), List.getElem?_map] at h
    cases q : xs[i]? with
    | none => rw [q] at h; cases h
    | some y => rw [q] at h; cases h; rfl
  · rw [List.getElem?_append_right (by simpa using hi), List.getElem?_replicate] at h
    split at h
    · cases h
    · cases h
theorem start3_own {N : List Str} {xs : List PV} {i : Nat} {x : PV} (h : (start3 N xs)[i]? = some (Slot.own x)) : False := by
  unfold start3 at h
  by_cases hi : i < xs.length
  · rw [List.getElem?_append_left (by simpa using hi), List.getElem?_map] at h
    cases q : xs[i]? with
    | none => rw [q] at h; cases h
    | some y => rw [q] at h; cases h
  · rw [List.getElem?_append_right (by simpa using hi), List.getElem?_replicate] at h
    split at h
    · cases h
    · cases h
theorem R3.begin {K : PySem.W.Frag} {D : Addr → Prop} {H : Hp} {M : Mem} {T : List (Addr × Str)} {N : List Str} {xs : List PV} {vs : List V} (hMD : ∀ b, (∃ mo, M b = some mo) → D b) (hD : ∀ b, D b → Th H b) (hm : ∀ a mo, M a = some mo → RepM K H D a mo)
    (r : Reps K H D xs vs) (ht : LamX.Tabs T H) : R3 K ⟨D, H, M, T⟩ (start3 N xs) M (L2.start N vs) H (fun _ => 0) ∧ ∀ b, Dm D (start3 N xs) M (fun _ => 0) b → D b := by
  have le : ∀ b, Dm D (start3 N xs) M (fun _ => 0) b → D b := fun b d => by
    rcases d with d | d | ⟨i, x, e, _⟩
    · exact d
    · exact hMD b d
    · exact (start3_own e).elim
  refine ⟨⟨⟨fun a mo e => (hm a mo e).sub le, fun b d => d.elim .inl fun d => .inr (.inl d), fun b o e _ _ => e, fun b t => t, fun b xs e => e, fun b d => .inl (le b d), fun b d => .inl d, fun b d => hD b (le b d), ht⟩, ?_, fun i x e => ?_, fun i x e => (start3_own e).elim, fun i j x y e => (start3_own e).elim, fun i x e => (start3_own e).elim⟩, le⟩
  · simp [start3, L2.start, r.len]
  · have e' := start3_val e
    obtain ⟨v, q, rv⟩ := r.get e'
    refine ⟨v, ?_, rv.fr (Fr3.dom le)⟩
    unfold L2.start
    have hi : i < vs.length := (List.getElem?_eq_some_iff.mp q).1
    rw [List.getElem?_append_left (by simpa using hi), List.getElem?_map, q]
    rfl
section
variable {Pg : Program} {w : World} {K : PySem.W.Frag} {mg : Str → Option Value} {base : Heap}
theorem fn3 {x qual : Str} {st : Stmt} {f : Addr} {fd : FuncData} {N ps : List Str} {k : Nat} {sp : Sp3} (F : Fun K x qual st f fd) (S : FnScope N ps (defScope st)) (len : ∀ xs M Q E, sp xs M Q E → xs.length = ps.length)
    (body : ∀ (cdv : Value) (A : Around) (outer : List Env) (s : Shared) (H : Hp) (E : XK) (P : BP) (xs : List PV) (M : Mem) (Q : PV → Mem → Prop) (E3 : W3), sp xs M Q E3 →
      TK (cxOf (L2.CX Pg w) Pg w K mg base N qual (defScope st) f cdv A outer s H E) P (clW E3) → Room k (A.deeper (envOfC qual (defScope st) s.heap.objs.size f cdv)) →
      ∃ t, PSs3 (cxOf (L2.CX Pg w) Pg w K mg base N qual (defScope st) f cdv A outer s H E) P (defBody st) t ∧ t { nx := fun _ M' => clQ Q .non M', rt := clQ Q } (start3 N xs) M) :
    FnOk Pg w K mg base (L2.CX Pg w) (k + 1) f fd ps (liftSp K sp) := by
  refine F.okX S (fun vs H Q E h => ?_) (fun cdv A outer s H vs Q E hr h => ?_)
  · obtain ⟨D, M, xs, Q3, E3, _, _, _, r, hsp, _⟩ := h
    rw [r.len]; exact len _ _ _ _ hsp
  · obtain ⟨D, M, xs, Q3, E3, hMD, hDH, hm, r, hsp, kQ, kE⟩ := h
    obtain ⟨t, ht, q⟩ := body cdv A outer s H E (fun B => B = ⟨D, H, M, []⟩) xs M Q3 E3 hsp (fun B hB => by
      subst hB
      refine Takes.imp (takes_of rfl rfl rfl rfl) fun cls d σ H' h => ?_
      obtain ⟨C, y, M', v, dd, D', e1, e2, hd, R, ry, M1, l, q⟩ := h
      subst e1; subst e2
      exact kE C y M1 D' v dd H' q (R.aft l) ry hd) hr
    refine ⟨_, ht _ rfl, ?_⟩
    obtain ⟨R, le⟩ := R3.begin (N := N) (T := []) hMD hDH hm r (fun p hp => absurd hp (by simp))
    refine ⟨_, M, _, _, R, q, ⟨fun σ M' τ H' oa ⟨M1, l, q'⟩ R' _ => ?_, fun y M' v H' D' ⟨M1, l, q'⟩ R' ry => kQ y M1 D' v H' q' (R'.aft l) ry, fun _ _ _ _ _ q' => q'.elim, fun _ _ _ _ _ q' => q'.elim⟩⟩
    obtain ⟨D', RM, rr⟩ := ret_rep R' (.inl Rep.non)
    exact kQ .non M1 D' .non H' q' (RM.aft l) rr
end

/-! ## errors of one's own that keep a value -/
section
variable {X : Cx} {P : BP} {e : Expr} {te : TE3} {W : W3} {p pos pos2 : Pos} {C fI : Addr} {x : Str}
/-- YardError.__init__ -/
def spErr (K : PySem.W.Frag) : Sp := fun vs H Q _ => ∃ (a C : Addr) (v : V), vs = [.ref a, v] ∧ OexC K C ∧ PySem.W.findIn K (.ref C) "value" = some none ∧ H a = some (exo a C none) ∧
  ∀ dx, H dx = none → dx ≠ a → Q .non (upd (upd H dx (exd dx [("value", v)])) a (exo a C (some dx)))
/-- what is known of an error's class -/
structure ErrT (K : PySem.W.Frag) (mg : Str → Option Value) (x : Str) (C fI : Addr) : Prop where
  T : OexC K C
  iC : PySem.W.findIn K (.ref C) "__init__" = some (some (.ref fI))
  nv : PySem.W.findIn K (.ref C) "value" = some none
  m : mg x = some (.ref C)
def tRaise3 (C : Addr) (W : W3) (te : TE3) : TS3 := fun _ σ M => te σ M fun x M1 => W C x M1
theorem ps3_raise {CX : CXT} {k : Nat} {fd : FuncData} (T : ErrT X.K X.mg x C fI) (tI : PySem.W.typeIn X.K (.ref fI) = some (.type "function")) (F : FnOk X.prog X.w X.K X.mg X.base CX k fI fd ["self", "value"] (spErr X.K)) (hr : Room (k + 1) X.A) (hb : Binds X.K fd ["self", "value"] [])
    (hx : Passes CX X (fun _ _ _ => False)) (tk : TK X P W) (he : PE3 X P e te) (hc : X.calm = true := by rfl) (hg : Gl X x := by rfl) (hdb : (x == ("__debug__" : Str)) = false := by decide)
    (hst : starEach (e :: []) X.env = (false, eval e X.env) :: starEach [] X.env := by rfl) (hpl : (backTo pos (starEach [] X.env)).any (·.1) = false := by rfl) : PS3 X P (.Raise (some (.Call (.Name x p) [e] [] pos)) none pos2) (tRaise3 C W te) := fun B hB =>
  PS.imp (ps_raise hc (tk B hB) (pmk_oex T.T T.iC tI F hr hb .nil hx hg T.m (pa3_cons he pa3_nil hst B hB) hdb hst hpl)) fun D τ H ⟨σ, M, oa, E, R, w, k⟩ => by
    refine ⟨σ, M, oa, fun xs M' => ∃ x, xs = [x] ∧ W C x M', R, ?_, fun xs M1 vs H1 ⟨x, ex, q1⟩ R1 f1 r1 => ?_⟩
    · show te σ M fun x M1 => tNil3 σ M1 fun xs M2 => ∃ y, x :: xs = [y] ∧ W C y M2
      have w' : te σ M fun x M1 => W C x M1 := w
      exact (show (fun x M1 => tNil3 σ M1 fun xs M2 => ∃ y, x :: xs = [y] ∧ W C y M2) = (fun x M1 => W C x M1) from by
        funext x M1
        refine propext ⟨fun ⟨y, ey, q⟩ => ?_, fun q => ⟨x, rfl, q⟩⟩
        cases ey; exact q) ▸ w'
    · subst ex
      obtain ⟨v, ev, rv⟩ := reps1 r1
      subst ev
      refine ⟨by simp, fun a ha => ?_⟩
      refine ⟨a, C, v, rfl, T.T, T.nv, upd_same, fun dx hdx ne => ⟨rfl, dx, [("value", v)], upd_same, by rw [upd_ne ne, upd_same], by rw [upd_ne ne] at hdx; exact hdx, ?_⟩⟩
      rw [upd_ne ne] at hdx
      have sm : Same H1 (upd (del (upd (upd (upd H1 a (exo a C none)) dx (exd dx [("value", v)])) a (exo a C (some dx))) a) dx (.xd [("value", v)])) := fun b u eb => by
        have nb : b ≠ a := ne_of_none eb ha
        have nd : b ≠ dx := ne_of_none eb hdx
        rw [upd_ne nd, del_ne nb, upd_ne nb, upd_ne nd, upd_ne nb]
        exact eb
      obtain ⟨R2, f2⟩ := R1.same sm
      exact ⟨C, x, M1, v, dx, _, rfl, rfl, upd_same, R2.mem, rv.fr f2, q1⟩
theorem ok_err {Pg : Program} {w : World} {K : PySem.W.Frag} {mg : Str → Option Value} {base : Heap} {st : Stmt} {f : Addr} {fd : FuncData} {p1 p2 p3 p4 : Pos} (F : Fun K "__init__" "YardError.__init__" st f fd) (S : FnScope ["self", "value"] ["self", "value"] (defScope st))
    (hb : defBody st = [.Assign [.Attribute (.Name "self" p1) "value" p2] (.Name "value" p3) p4]) (hs : (defScope st).names.lookup ("self" : Str) = some NameKind.local) (hv : (defScope st).names.lookup ("value" : Str) = some NameKind.local) :
    FnOk Pg w K mg base CX0 1 f fd ["self", "value"] (spErr K) := by
  refine F.ok S (fun vs H Q E h => ?_) (fun cdv A outer s H vs Q E hr h => ?_)
  · obtain ⟨a, C, v, rfl, _⟩ := h
    rfl
  · obtain ⟨a, C, v, rfl, T, nv, ha, k⟩ := h
    rw [hb]
    refine ⟨_, pss_one (ps_ost (pe_var (i := 0) rfl (.inl hs)) (pe_var (i := 1) rfl (.inl hv))), ?_⟩
    exact ⟨v, rfl, .ref a, rfl, a, C, rfl, T, nv, .inl ⟨ha, fun dx hd ne => k dx hd ne⟩⟩
end
end T3

namespace T3
open PySem PySem.Spec PyProof.Rows L2

/-! ## try: body, several except .. as n -/
def clrE (i : Nat) (D : Ends) : Ends := { nx := fun σ' H' => D.nx (σ'.set i none) H', rt := D.rt, bk := fun σ' H' => D.bk (σ'.set i none) H', ct := fun σ' H' => D.ct (σ'.set i none) H' }
abbrev HTs := Addr → Value → Option Addr → TS
def wAsM (K : PySem.W.Frag) (i : Nat) (D : Ends) : List (Value × HTs) → WX
  | [] => fun _ _ _ _ => False
  | (c, ts) :: r => fun cls d σ H => ∃ b, PySem.W.exmOne K cls c = some b ∧ (b = true → ∀ a, H a = none → ts a cls d (clrE i D) (σ.set i (some (.ref a))) H) ∧ (b = false → wAsM K i D r cls d σ H)
/-- the clauses' suites, the name n at slot i -/
inductive HdsAs (X : Cx) (n : Str) : List ExceptHandler → List (Value × HTs) → Prop
  | nil : HdsAs X n [] []
  | cons {x : Str} {c : Value} {ts : HTs} {b₀ : Stmt} {suite : List Stmt} {np pos' : Pos} {hds : List ExceptHandler} {l : List (Value × HTs)} (hc : Names X x c)
      (hsu : ∀ (a : Addr) (oe : Obj) (cls : Value) (d : Option Addr) (pn : List (Addr × Obj)), Zc cls d oe → (∃ vs, oe.data = .fields vs) → PSs (X.suite a ((a, oe) :: pn)) (b₀ :: suite) (ts a cls d)) (r : HdsAs X n hds l) :
      HdsAs X n (.ExceptHandler (some (.Name x np)) (some n) (b₀ :: suite) pos' :: hds) ((c, ts) :: l)
theorem ps_try_asM {X : Cx} {body : List Stmt} {n : Str} {i : Nat} {h₀ : ExceptHandler} {hds : List ExceptHandler} {l : List (Value × HTs)} {pos : Pos} {tb : WX → TS}
    (hs : X.stack = X.env :: X.outer) (hf : X.env.frame = some X.env.locals) (hN : X.N.Nodup) (hi : X.N[i]? = some n) (hln : X.env.kindOf n = some .local)
    (hb : ∀ (W : WX) (pn : List (Addr × Obj)) (xe : Value → Shared → Prop), Takes (X.tr pn xe) W → PassesOwn (model X.prog X.w) X.A X.env xe → PSs (X.tr pn xe) body (tb W))
    (hh : HdsAs X n (h₀ :: hds) l) : PS X (.Try body (h₀ :: hds) [] [] pos) (fun D σ H => tb (fun cls d τ H' => τ.length = X.N.length → wAsM X.K i D l cls d τ H') D σ H) := by
  refine ⟨fun pins s σ H D I h => ?_⟩
  have ok := I.ok
  have hfr : X.A.frames = some (X.env :: X.outer) := ok.frames.trans (congrArg some hs)
  refine wpAny_Try_except (wpAny_mono ((hb (fun cls d τ H' => τ.length = X.N.length → wAsM X.K i D l cls d τ H') (X.pn ++ pins) (fun e s₁ => wpAny (model X.prog X.w) X.A (noteFrame e X.env) (fun _ s₂ => wpAny (model X.prog X.w) X.A (setFlight e none) (fun _ s₃ => wpAny (model X.prog X.w) X.A (handleBy e X.env (h₀ :: hds)) (SP X pins D) X.xe s₃) X.xe s₂) X.xe s₁) (fun u s' xx => ?_) PassesOwn.looking).run [] s σ H D (I.toTry _) h) (fun f s1 hsp => ?_) fun _ _ z => z)
  · -- an exception comes
    obtain ⟨a, B, sI, pins', σ', H', cls, d, rfl, J0, nb, up, sky, na, os, ag, w⟩ := xx
    have J := J0.ofTry ok
    show wpAny (model X.prog X.w) X.A (noteFrame (.ref a) X.env) _ _ _
    refine Sky.land Zc.steady hfr hf (by rw [← hs]; exact sky) fun h3 fl3 up3 => ?_
    obtain ⟨oe3, vs3, he3, hz3, hd3⟩ := fl3.there
    have nfr : a ∉ frs (X.env :: X.outer) := fun hm => by
      obtain ⟨_, o', e', q⟩ := fl3.2.2.1.mem hm
      rw [he3] at e'; cases e'
      exact q _ hd3
    have nL : a ≠ X.env.locals := fun z => nfr (List.mem_filterMap.mpr ⟨X.env, by simp, hf.trans (congrArg some z.symm)⟩)
    have nF : a ∉ X.fs := fun hm => by
      obtain ⟨e, he, q⟩ := List.mem_filterMap.mp hm
      exact nfr (List.mem_filterMap.mpr ⟨e, List.mem_cons_of_mem _ he, q⟩)
    have J3 : Inv X pins σ' H' { s' with heap := h3 } := J.landed nb fl3.1 (up.trans up3) os ag
    have S3 := J3.suite he3 hd3 na nL nF
    have all : ∀ {hs' : List ExceptHandler} {l' : List (Value × HTs)}, HdsAs X n hs' l' → wAsM X.K i D l' cls d σ' H' → wpAny (model X.prog X.w) X.A (handleBy (.ref a) X.env hs') (SP X pins D) X.xe { s' with heap := h3 } := by
      intro hs' l' hk
      induction hk with
      | nil => exact fun w => w.elim
      | @cons x c ts b₀ suite np pos' hds2 l2 hc hsu r ih =>
        rintro ⟨b, hb1, hyes, hno⟩
        have LT : PySem.W.Looks (model X.prog X.w) h3 (typeOf (.ref a)) cls := fun A Q E s k q => wpAny_typeOf_ref (k _ _ he3) (hz3.1.symm ▸ q)
        have LM := PySem.W.exm_one (M := model X.prog X.w) J3.kIn LT hb1
        refine wpAny_handleBy_cons (codeAny_handlers_test ?_) nofun
        have test : ∀ {Q : Value → Shared → Prop} {E : Value → Shared → Prop}, Q c { s' with heap := h3 } → wpAny (model X.prog X.w) (X.A.mark (some (.ref a))) (eval (.Name x np) X.env) Q E { s' with heap := h3 } := fun {Q E} q => by
          rcases hc with ⟨hg, hdbg, hm | ⟨hm, hv, hnn⟩⟩
          · exact ld_glob (X := X.suite a ((a, oe3) :: (X.pn ++ pins))) S3 hg hm q hdbg
          · exact ld_blt (X := X.suite a ((a, oe3) :: (X.pn ++ pins))) S3 hg hm hv q hnn hdbg
        refine test (LM.here ?_)
        cases b with
        | false => exact ih (hno rfl)
        | true =>
          refine codeAny_handlers_suite_as (HandSPX.lands_againZ fl3 fun h4 fl4 up4 => ?_)
          obtain ⟨oe4, vs4, he4, hz4, hd4⟩ := fl4.there
          have J4 : Inv X pins σ' H' { s' with heap := h4 } := J.landed nb fl4.1 ((up.trans up3).trans up4) os ag
          have S4 := J4.suite he4 hd4 na nL nF
          refine store_ok (X := X.suite a ((a, oe4) :: (X.pn ++ pins))) (v := .ref a) S4 hN hi (.inl hln) rfl (fun s5 S5 => ?_) (.inr hln)
          refine wpAny_mono ((hsu a oe4 cls d (X.pn ++ pins) hz4 ⟨_, hd4⟩).run [] s5 _ H' _ S5 (hyes rfl a na)) (fun f s6 hsp => ?_) fun _ _ z => z.elim
          have fin : ∀ {σ6 : L2.St} {H6 : Hp} {Q : Shared → Prop}, Inv (X.suite a ((a, oe4) :: (X.pn ++ pins))) [] σ6 H6 s6 → (∀ s7, Inv X pins (σ6.set i none) H6 s7 → Q s7) →
              wpAny (model X.prog X.w) X.A (do bindName X.env n .none; unbindBehindTheSuite X.env n pos') (fun _ s7 => Q s7) X.xe s6 := fun S6 hq => gone_ok (S6.unsuite ok) hN hi hln hq
          cases f with
          | ret u => obtain ⟨v6, σ6, H6, S6, r6, q6⟩ := hsp; exact fin S6 fun s7 J7 => ⟨_, _, _, J7, r6, q6⟩
          | next => obtain ⟨σ6, H6, S6, q6⟩ := hsp; exact fin S6 fun s7 J7 => ⟨_, _, J7, q6⟩
          | brk => obtain ⟨σ6, H6, S6, q6⟩ := hsp; exact fin S6 fun s7 J7 => ⟨_, _, J7, q6⟩
          | cont => obtain ⟨σ6, H6, S6, q6⟩ := hsp; exact fin S6 fun s7 J7 => ⟨_, _, J7, q6⟩
    exact all hh (w J.len)
  · cases f with
    | ret u => obtain ⟨v, σ', H', J', r, q⟩ := hsp; exact ⟨v, σ', H', J'.ofTry ok, r, q⟩
    | next => obtain ⟨σ', H', J', q⟩ := hsp; exact wpAny_execs_nil ⟨σ', H', J'.ofTry ok, q⟩
    | brk => obtain ⟨σ', H', J', q⟩ := hsp; exact ⟨σ', H', J'.ofTry ok, q⟩
    | cont => obtain ⟨σ', H', J', q⟩ := hsp; exact ⟨σ', H', J'.ofTry ok, q⟩
end T3

namespace T3
open PySem PySem.Spec PyProof.Rows L2

/-! ## _law_refused(lambda: ..) -/
/-- the clauses as written: class and word -/
inductive RefHds (X : Cx) : List ExceptHandler → List (Addr × Str) → Prop
  | nil : RefHds X [] []
  | cons {x : Str} {C : Addr} {wd : Str} {np p1 p2 p3 p4 p5 pos' : Pos} {j k : Nat} {hds : List ExceptHandler} {ws : List (Addr × Str)} (hc : Names X x (.ref C)) (T : XfC X.K C) (nv : PySem.W.findIn X.K (.ref C) "value" = some none) (r : RefHds X hds ws) :
      RefHds X (.ExceptHandler (some (.Name x np)) (some "e") [.Return (some (.Tuple [.Constant (.str wd) j p1, .Attribute (.Name "e" p2) "value" p3] k p4)) p5] pos' :: hds) ((C, wd) :: ws)
def tHdl (wd : Str) (C : Addr) : HTs := fun a cls d => tRet (tTup (tCons (tC (.str wd)) (tCons (tXf a cls d C "value" (tVar 1)) tNil)))
theorem RefHds.as {X : Cx} (hN : X.N[1]? = some (Str.ofString "e")) (hv : Vis X.env.scope "e") :
    ∀ {hds : List ExceptHandler} {ws : List (Addr × Str)}, RefHds X hds ws → HdsAs X "e" hds (ws.map fun p => (Value.ref p.1, tHdl p.2 p.1))
  | _, _, .nil => .nil
  | _, _, .cons hc T nv r => .cons hc (fun a oe cls d pn hz hf => pss_one (ps_ret (pe_tup (pa_cons pe_str (pa_cons (pe_xf T nv hz hf (pe_var (i := 1) hN hv)) pa_nil))))) (RefHds.as hN hv r)
/-- what the def makes of the lambda's reading -/
def TTref (ws : List (Addr × Str)) : (XK → Hp → VK → Prop) → Hp → VK → Prop := fun tl H Q =>
  tl (fun cls d H' => ∃ C v dd wd, cls = .ref C ∧ d = some dd ∧ H' dd = some (.xd [("value", v)]) ∧ ws.lookup C = some wd ∧ ∀ p, H' p = none → Q (.ref p) (upd H' p (.tup [.str wd, v]))) H
    (fun _ H' => [V.str (Str.ofString ""), V.non].length ≤ sizeLine ∧ ∀ p, H' p = none → Q (.ref p) (upd H' p (.tup [.str "", .non])))
/-- a sibling's clause is passed over -/
def Sibs (K : PySem.W.Frag) (ws : List (Addr × Str)) : Prop := ∀ C C', C ∈ ws.map (·.1) → C' ∈ ws.map (·.1) → PySem.W.exmOne K (.ref C) (.ref C') = some (decide (C = C'))
theorem lookup_mem {ws : List (Addr × Str)} {C : Addr} {wd : Str} (h : ws.lookup C = some wd) : C ∈ ws.map (·.1) := by
  induction ws with
  | nil => cases h
  | cons p ws ih =>
    obtain ⟨C', w'⟩ := p
    rw [List.lookup_cons] at h
    cases q : (C == C') with
    | true => simp at q; simp [q]
    | false => rw [q] at h; simp; exact .inr (by simpa using ih h)
theorem look_pair {ws : List (Addr × Str)} {C : Addr} {wd : Str} (h : ws.lookup C = some wd) : (C, wd) ∈ ws := by
  induction ws with
  | nil => cases h
  | cons p ws ih =>
    obtain ⟨C', w'⟩ := p
    rw [List.lookup_cons] at h
    cases q : (C == C') with
    | true => rw [q] at h; simp at q h; simp [q, h]
    | false => rw [q] at h; exact List.mem_cons_of_mem _ (ih h)
theorem wAs_ref {K : PySem.W.Frag} {all : List (Addr × Str)} (S : Sibs K all) {D : Ends} {C dd : Addr} {v : V} {wd : Str} {τ : L2.St} {H : Hp} (hd : H dd = some (.xd [("value", v)])) (hC : C ∈ all.map (·.1)) (h1 : τ.length = 2)
    (hq : ∀ p, H p = none → D.rt (.ref p) (upd H p (.tup [.str wd, v]))) :
    ∀ {ws : List (Addr × Str)}, (∀ p ∈ ws, p ∈ all) → ws.lookup C = some wd → wAsM K 1 D (ws.map fun p => (Value.ref p.1, tHdl p.2 p.1)) (.ref C) (some dd) τ H
  | [], _, h => by cases h
  | (C', w') :: ws, hs, h => by
    refine ⟨_, S C C' hC (List.mem_map.mpr ⟨(C', w'), hs _ (by simp), rfl⟩), fun e a ha => ?_, fun e => ?_⟩
    · have e' : C = C' := of_decide_eq_true e
      subst e'
      rw [List.lookup_cons, beq_self_eq_true] at h
      cases h
      exact ⟨.ref a, by rw [List.getElem?_set_self (by omega)], rfl, rfl, dd, _, v, rfl, hd, by simp [List.lookup], by show 2 ≤ sizeLine; decide, hq⟩
    · have e' : C ≠ C' := of_decide_eq_false e
      rw [List.lookup_cons] at h
      have q : (C == C') = false := by simpa using e'
      rw [q] at h
      exact wAs_ref S hd hC h1 hq (fun p hp => hs p (List.mem_cons_of_mem _ hp)) h
theorem ref_gives {X : Cx} {Ng : List Str} {x q : Str} {sg : Scope} {g : Addr} {cdg : Value} {h₀ : ExceptHandler} {hds : List ExceptHandler} {ws : List (Addr × Str)} {p1 p2 p3 p4 p5 p6 p7 p8 : Pos} {j1 k2 : Nat} {j3 : Nat}
    (hNg : Ng = [Str.ofString "ask", Str.ofString "e"]) (he : sg.names.lookup (Str.ofString "e") = some NameKind.local) (S : Sibs X.K ws)
    (hh : ∀ (s : Shared) (H : Hp), RefHds (cxOf C8.CX0 X.prog X.w X.K X.mg X.base Ng x sg g cdg X.A X.stack s H C8.E0).nox (h₀ :: hds) ws) :
    LamX.GivesTo X Ng x sg g cdg [.Try [.Expr (.Call (.Name "ask" p1) [] [] p2) p3] (h₀ :: hds) [] [] p4, .Return (some (.Tuple [.Constant (.str "") j1 p5, .Constant .none k2 p6] j3 p7)) p8] "ask" q (TTref ws) := by
  intro f c' s H Q tl act hc h
  subst hNg
  refine ⟨_, pss_cons (ps_try_asM (X := (cxOf C8.CX0 X.prog X.w X.K X.mg X.base [Str.ofString "ask", Str.ofString "e"] x sg g cdg X.A X.stack s H C8.E0).nox) (i := 1)
      (tb := fun W D τ H => ∃ Ech : XK, (∀ cls d σ' H', Ech cls d H' → W cls d σ' H') ∧ τ[0]? = some (some (.ref f)) ∧ H c' = some (LamX.CodeO c' q) ∧ tl Ech H fun _ H1 => D.nx τ H1)
      rfl rfl (show [Str.ofString "ask", Str.ofString "e"].Nodup from by decide +kernel) rfl he (fun W pn xe tk _ => ?_) ((hh s H).as rfl (.inl he))) (pss_one (ps_ret (pe_tup (pa_cons pe_str (pa_cons pe_non pa_nil))))), ?_⟩
  · refine ⟨fun pins s' σ H' D I ⟨Ech, hW, h1, h2, h3⟩ => ?_⟩
    have hp := act W pn xe Ech p1 p2 tk hW
    exact (pss_one (ps_expr (pos := p3) hp rfl)).run pins s' σ H' D I ⟨h1, h2, h3⟩
  · refine ⟨fun cls d H' => ∃ C v dd wd, cls = .ref C ∧ d = some dd ∧ H' dd = some (.xd [("value", v)]) ∧ ws.lookup C = some wd ∧ ∀ p, H' p = none → Q (.ref p) (upd H' p (.tup [.str wd, v])), ?_, rfl, hc, ?_⟩
    · intro cls d τ H' ⟨C, v, dd, wd, e1, e2, hd, hl, hq⟩ len
      subst e1; subst e2
      exact wAs_ref S hd (lookup_mem hl) len hq (fun _ h => h) hl
    · exact h
/-- the slots that a lambda sees -/
def unown (σ : Sl) : Sl := σ.map fun s => match s with
  | .own _ => .un
  | s => s
theorem unown_val {σ : Sl} {i : Nat} {x : PV} (h : (unown σ)[i]? = some (Slot.val x)) : σ[i]? = some (Slot.val x) := by
  unfold unown at h
  rw [List.getElem?_map] at h
  cases q : σ[i]? with
  | none => rw [q] at h; cases h
  | some s =>
    rw [q] at h
    cases s with
    | val y => exact h
    | un => cases h
    | own y => cases h
theorem unown_own {σ : Sl} {i : Nat} {x : PV} (h : (unown σ)[i]? = some (Slot.own x)) : False := by
  unfold unown at h
  rw [List.getElem?_map] at h
  cases q : σ[i]? with
  | none => rw [q] at h; cases h
  | some s => rw [q] at h; cases s <;> cases h
/-- as at the entry of a def: all that is ours is the callers' -/
theorem R3.rebase {K : PySem.W.Frag} {B : Base} {σ : Sl} {M : Mem} {τ : L2.St} {H : Hp} {oa : Nat → Addr} (R : R3 K B σ M τ H oa) : R3 K ⟨Dm B.DE σ M oa, H, M, B.T⟩ (unown σ) M τ H oa ∧ ∀ b, Dm (Dm B.DE σ M oa) (unown σ) M oa b → Dm B.DE σ M oa b := by
  have le : ∀ b, Dm (Dm B.DE σ M oa) (unown σ) M oa b → Dm B.DE σ M oa b := fun b d => by
    rcases d with d | d | ⟨i, x, e, _⟩
    · exact d
    · exact .inr (.inl d)
    · exact (unown_own e).elim
  refine ⟨⟨⟨fun a mo e => (R.mem.mem a mo e).sub le, fun b d => d.elim .inl fun d => .inr (.inl d), fun b o e _ _ => e, fun b t => t, fun b xs e => e, fun b d => .inl (le b d), fun b d => .inl d, fun b d => R.mem.dom b (le b d), R.mem.tabs⟩, ?_, fun i x e => ?_, fun i x e => (unown_own e).elim, fun i j x y e => (unown_own e).elim, fun i x e => (unown_own e).elim⟩, le⟩
  · have h := R.len
    simpa [unown] using h
  · obtain ⟨v, q, r⟩ := R.slot i x (unown_val e)
    exact ⟨v, q, r.fr (Fr3.dom le)⟩
/-- back from such an inner walk -/
theorem R3.back {K : PySem.W.Frag} {B : Base} {σ : Sl} {M M' : Mem} {τ : L2.St} {H H' : Hp} {oa : Nat → Addr} {D' : Addr → Prop} (R : R3 K B σ M τ H oa) (R' : RMem K ⟨Dm B.DE σ M oa, H, M, B.T⟩ M' H' D') :
    R3 K B σ M' τ H' oa ∧ Fr3 H H' (Zm B.DE σ M oa) (Zm B.DE σ M' oa) ∧ ∀ b, Dm B.DE σ M' oa b → D' b :=
  R.calledT R'.keep R'.tabs R'.tups R'.live R'.mem (fun b d => R'.sub b d) R'.new R'.newM
/-- the call -/
def tRef3 (ws : List (Addr × Str)) (tb : W3 → TE3) : TE3 := fun σ M Q =>
  tb (fun C y M' => optW (ws.lookup C) fun wd => Q (.tup [.str wd, y]) M') (unown σ) M fun _ M' => Q (.tup [.str "", .non]) M'
section
variable {X : Cx} {P : BP}
theorem pe3_refused {T : List (Addr × Str)} {ws : List (Addr × Str)} {tb : W3 → TE3} {x : Str} {g c Pt : Addr} {k : Nat} {pg : Arguments} {bg : List Stmt} {sg : Scope} {dV kV doc pm cdv ct oc : Value} {an od : Option Addr} {osl : Array (Option Value)} {Ng : List Str}
    {params : Arguments} {body : Expr} {scope : Scope} {p lpos pos : Pos} (hP : ∀ B, P B → B.T = T) (hsz : ∀ wd ∈ ws.map (·.2), wd.length ≤ sizeLine) (hm : X.mg x = some (.ref g)) (hk : PySem.W.keepIn X.K (.ref g) = true)
    (lk : X.K.lookup g = some ⟨oc, od, .func (PySem.W.fnOf x x pg bg sg dV kV doc pm an cdv ct), osl⟩) (hcg : PySem.W.codeIn X.K cdv x = true) (hb : L2.Binds X.K (PySem.W.fnOf x x pg bg sg dV kV doc pm an cdv ct) ["ask"] []) (Sg : FnScope Ng ["ask"] sg) (hNg : Ng[0]? = some (Str.ofString "ask")) (hva : Vis sg "ask")
    (hG : LamX.GivesTo X Ng x sg g cdv bg "ask" (X.env.qual ++ "<lambda>") (TTref ws))
    (TB : LamX.TabB X.base X.mg c Pt) (hcode : X.env.code = .ref c) (hmT : (Pt, X.env.qual ++ "<lambda>") ∈ T) (hu : ∀ p ∈ T, p.1 = Pt → p.2 = X.env.qual ++ "<lambda>") (hr : Room (k + 2) X.A) (L : LamX.LamS X.env.scope scope)
    (hbody : ∀ (A : Around) (outer : List Env) (s : Shared) (H : Hp) (E : XK) (f c' : Addr) (P' : BP) (W : W3), TK (LamX.lamCx X A outer s H E scope f c') P' W → Room k (A.deeper (LamX.lamEnv X scope s.heap.objs.size f c')) → PE3 (LamX.lamCx X A outer s H E scope f c') P' body (tb W))
    (hg : Gl X x := by rfl) (hdef : defaultsOf params X.env = ([], []) := by rfl)
    (hbind : ∀ (q : Str) (cl : List (Str × Addr)) (pm cv ctv : Value), bindArgs (PySem.W.kla_fn "<lambda>" q params body scope cl pm cv ctv) ⟨[], []⟩ = pure [] := by intros; rfl)
    (hdb : (x == ("__debug__" : Str)) = false := by decide) :
    PE3 X P (.Call (.Name x p) [.Lambda params body scope lpos] [] pos) (tRef3 ws tb) := fun B hB => by
  refine PE.imp (LamX.pe_lamcall (T := T) (TT := TTref ws) (k := k) (t := fun E τ H Q => ∃ B' W', (∀ cls d H', liftX X.K B' W' cls d H' → E cls d H') ∧ liftE X.K B' (tb W') τ H Q) hg hm hk lk hcg hb Sg hNg hva hG TB hcode hmT hu hr L hdef hbind
    (fun A outer s H E f c' hr' => ⟨fun pins s' σ' H' Q I ⟨B', W', hE, w⟩ => ?_⟩) hdb) ?_
  · refine (hbody A outer s H E f c' (fun B2 => B2 = B') W' (fun B2 hB2 => ?_) hr' B' rfl).run pins s' σ' H' Q I w
    subst hB2
    exact Takes.imp (takes_of rfl rfl rfl rfl) fun cls d σ2 H2 h => hE cls d H2 h
  · rintro τ H Q ⟨σ, M, oa, Q3, R, w, kk⟩
    have hT : B.T = T := hP B hB
    refine ⟨by rw [← hT]; exact R.mem.tabs, fun H1 eN T1 => ?_⟩
    obtain ⟨R1, f1⟩ := R.later (H' := H1) (fun b o e t => eN b o e t) (by rw [hT]; exact T1) (fun e => absurd (show (Pt, X.env.qual ++ "<lambda>") ∈ B.T from by rw [hT]; exact hmT) (by rw [e]; simp)) fun b ⟨o, e, t⟩ => ⟨o, eN b o e t, t⟩
    obtain ⟨Rb, le⟩ := R1.rebase
    -- a tuple is laid at the end
    have fin : ∀ {M' : Mem} {H' : Hp} {D' : Addr → Prop} {xs : List PV} {vs : List V} {p : Addr}, RMem X.K ⟨Dm B.DE σ M oa, H1, M, B.T⟩ M' H' D' → Reps X.K H' D' xs vs → vs.length ≤ sizeLine → Q3 (.tup xs) M' → H' p = none → Q (.ref p) (upd H' p (.tup vs)) := fun {M' H' D' xs vs p} RM r z q hp => by
      obtain ⟨R2, f2, sub⟩ := R1.back RM
      have sm : Same H' (upd H' p (.tup vs)) := fun b u e => by rw [upd_ne (ne_of_none e hp)]; exact e
      obtain ⟨R3', f3⟩ := R2.same sm
      refine kk _ M' _ _ q R3' ((f1.trans f2).trans f3) ?_
      unfold Rep
      exact ⟨p, vs, rfl, .of upd_same, z, (r.fr (Fr3.dom sub)).fr f3⟩
    refine ⟨⟨Dm B.DE σ M oa, H1, M, B.T⟩, _, fun cls d H' h => ?_, unown σ, M, oa, _, Rb, w, fun y M' v H' q R' f' r' => ⟨by show 2 ≤ sizeLine; decide, fun p hp => ?_⟩⟩
    · obtain ⟨C, y, M', v, dd, D', e1, e2, hd, RM, ry, q⟩ := h
      obtain ⟨wd, hl, q⟩ := optW_of q
      refine ⟨C, v, dd, wd, e1, e2, hd, hl, fun p hp => fin RM (Reps.cons (Rep.str ?_) (Reps.cons ry Reps.nil)) (by show 2 ≤ sizeLine; decide) q hp⟩
      refine hsz wd ?_
      exact List.mem_map.mpr ⟨(C, wd), look_pair hl, rfl⟩
    · exact fin R'.mem (Reps.cons (Rep.str (by decide)) (Reps.cons Rep.non Reps.nil)) (by show 2 ≤ sizeLine; decide) q hp
end
end T3

namespace T3
open PySem PySem.Spec PyProof.Rows L2

/-! ## operations -/
section
variable {X : Cx}
/-- list + list, of any list that is read -/
def rCatL (K : PySem.W.Frag) : R2 := fun x y H Q => ∃ a b xs ys, x = .ref a ∧ y = .ref b ∧ SqL K H a xs ∧ SqL K H b ys ∧ xs.length + ys.length ≤ sizeLine ∧ ∀ p, H p = none → Q (.ref p) (upd H p (.lst (xs ++ ys)))
theorem op_catL : OpR X (binaryOp .Add) (rCatL X.K) := fun pins s σ H x y v u Q I rx ry h => by
  obtain ⟨a, b, xs, ys, rfl, rfl, ha, hb, hz, q⟩ := h
  cases rx; cases ry
  obtain ⟨i1, r1, p1, z1⟩ := I.list ha
  obtain ⟨i2, r2, p2, z2⟩ := I.list hb
  obtain ⟨⟨c1, d1, t1, s1⟩, g1, k1, n1, e1⟩ := p1.isList
  obtain ⟨⟨c2, d2, t2, s2⟩, g2, k2, n2, e2⟩ := p2.isList
  simp only at k1 e1 k2 e2
  subst k1 e1 k2 e2
  have l1 := r1.length
  have l2 := r2.length
  refine concat_meets ⟨_, g1, rfl⟩ ⟨_, g2, rfl⟩ noFill_list_add seq_list_add PySem.F.slot_list_add PySem.F.entry_list_add (PySem.F.args_list_add_2 _ _)
    (list_addW a b i1.toArray i2.toArray n1 n2 d1 d2 s1 s2 (by simp only [List.size_toArray]; omega)) ⟨g1, g2, ?_⟩
  rw [show i1.toArray ++ i2.toArray = (i1 ++ i2).toArray by simp]
  exact ⟨.ref _, _, I.lnew (t' := s.toks) (r1.append r2) (by rw [List.length_append]; exact hz), rfl, q _ I.fresh⟩
end
section
variable {K : PySem.W.Frag} {H : Hp} {D : Addr → Prop} {v : V} {Q : VK} {Q3 : PV → Prop}
theorem Post3.here (k : Post3 K H D Q3 Q) {z : PV} {v : V} (q : Q3 z) (r : Rep K H D z v) : Q v H := k z v H q (fun _ _ e => e) r
theorem Post3.tup (k : Post3 K H D Q3 Q) {zs : List PV} {vs : List V} (q : Q3 (.tup zs)) (r : Reps K H D zs vs) (z : vs.length ≤ sizeLine) {p : Addr} (hp : H p = none) : Q (.ref p) (upd H p (.tup vs)) := by
  have sm : Same H (upd H p (.tup vs)) := fun b u e => by rw [upd_ne (ne_of_none e hp)]; exact e
  refine k _ _ _ q sm ?_
  unfold Rep
  exact ⟨p, vs, rfl, .of upd_same, z, Reps.fr (Same.fr sm (.all D)) _ r⟩
theorem Post3.lst (dD : ∀ b, D b → Th H b) (k : Post3 K H D Q3 Q) {zs : List PV} {vs : List V} (q : Q3 (.lst zs)) (r : Reps K H D zs vs) (z : vs.length ≤ sizeLine) {p : Addr} (hp : H p = none) : Q (.ref p) (upd H p (.lst vs)) := by
  have sm : Same H (upd H p (.lst vs)) := fun b u e => by rw [upd_ne (ne_of_none e hp)]; exact e
  refine k _ _ _ q sm ?_
  unfold Rep
  exact ⟨p, vs, rfl, .inl ⟨fun d => nth hp (dD p d), .of upd_same⟩, z, Reps.fr (Same.fr sm (.all D)) _ r⟩
theorem rr_int {i : Int} (h : RepR K H D (.int i) v) : v = .int i := h
theorem rr_bl {b : Bool} (h : RepR K H D (.bl b) v) : v = .bl b := h
theorem rr_non (h : RepR K H D .non v) : v = .non := h
theorem rr_str {x : Str} (h : RepR K H D (.str x) v) : v = .str x ∧ x.length ≤ sizeLine := h
theorem rr_tup {xs : List PV} (h : RepR K H D (.tup xs) v) : ∃ a vs, v = .ref a ∧ SqT K H a vs ∧ vs.length ≤ sizeLine ∧ Reps K H D xs vs := by
  have h' : Rep K H D (.tup xs) v := h
  unfold Rep at h'
  obtain ⟨a, vs, e, t, z, r⟩ := h'
  exact ⟨a, vs, e, t.sq, z, r⟩
theorem rr_lst {xs : List PV} (h : RepR K H D (.lst xs) v) : ∃ a vs, v = .ref a ∧ SqL K H a vs ∧ vs.length ≤ sizeLine ∧ Reps K H D xs vs := h
/-- a tuple that stands, as it came -/
theorem tup_rep {xs : List PV} (h : RepR K H D (.tup xs) v) : Rep K H D (.tup xs) v := h
end
theorem szW_app {a b : List PV} (h : szW (a ++ b)) {n m : Nat} (e1 : n = a.length) (e2 : m = b.length) : n + m ≤ sizeLine := by
  have h' : (a ++ b).length ≤ 16777216 := h
  rw [List.length_append] at h'
  rw [sizeLine_eq]; omega
def rAdd3 : R2T := fun x y k => match x, y with
  | .int i, .int j => k (.int (i + j))
  | .str a, .str b => a.length + b.length ≤ 16777216 ∧ k (.str (a ++ b))
  | .tup a, .tup b => szW (a ++ b) ∧ k (.tup (a ++ b))
  | .lst a, .lst b => szW (a ++ b) ∧ k (.lst (a ++ b))
  | _, _ => False
def rSub3 : R2T := fun x y k => match x, y with
  | .int i, .int j => k (.int (i - j))
  | _, _ => False
/-- one side below 2^64 -/
def rMul3 : R2T := fun x y k => match x, y with
  | .int i, .int j => (i.natAbs < 18446744073709551616 ∨ j.natAbs < 18446744073709551616) ∧ k (.int (i * j))
  | _, _ => False
/-- by a positive divisor below 2^64 -/
def rDiv3 : R2T := fun x y k => match x, y with
  | .int i, .int j => (0 < j ∧ j < 18446744073709551616) ∧ k (.int (i / j))
  | _, _ => False
def rMod3 : R2T := fun x y k => match x, y with
  | .int i, .int j => 0 < j ∧ k (.int (i % j))
  | _, _ => False
def rPow3 : R2T := fun x y k => match x, y with
  | .int i, .int j => (0 ≤ j ∧ j ≤ 1000 ∧ i.natAbs < 1000) ∧ k (.int (i ^ j.toNat))
  | _, _ => False
def rNeg3 : R1T := fun x k => match x with
  | .int i => k (.int (-i))
  | _ => False
def rLt3 : R2T := fun x y k => match x, y with
  | .int i, .int j => k (.bl (decide (i < j)))
  | _, _ => False
def rLe3 : R2T := fun x y k => match x, y with
  | .int i, .int j => k (.bl (decide (i ≤ j)))
  | _, _ => False
def rGt3 : R2T := fun x y k => match x, y with
  | .int i, .int j => k (.bl (decide (j < i)))
  | _, _ => False
def rGe3 : R2T := fun x y k => match x, y with
  | .int i, .int j => k (.bl (decide (j ≤ i)))
  | _, _ => False
section
variable {X : Cx}
theorem op3_add : Op3 X (binaryOp .Add) rAdd3 :=
  OpR.imp (op_add.or (op_add_str.or (op_catA.or op_catL))) fun x y H Q ⟨D, px, py, Q3, dD, rx, ry, w, k⟩ => by
    unfold rAdd3 at w
    split at w
    · exact .inl ⟨_, _, rr_int rx, rr_int ry, k.here w Rep.int⟩
    · obtain ⟨e1, z1⟩ := rr_str rx
      obtain ⟨e2, z2⟩ := rr_str ry
      refine .inr (.inl ⟨_, _, e1, e2, by rw [sizeLine_eq]; exact w.1, k.here w.2 (Rep.str ?_)⟩)
      rw [sizeLine_eq]
      have := w.1
      simpa [Str.length_append] using this
    · rename_i as bs
      obtain ⟨a, vs, rfl, h1, z1, r1⟩ := rr_tup rx
      obtain ⟨b, us, rfl, h2, z2, r2⟩ := rr_tup ry
      refine .inr (.inr (.inl ⟨a, b, vs, us, rfl, rfl, h1, h2, szW_app w.1 r1.len r2.len, fun e => ?_, fun e1 e2 => ?_, fun e1 e2 p hp => ?_⟩))
      · have e' : as = [] := by have := r1.len; rw [e] at this; exact List.length_eq_zero_iff.mp this.symm
        subst e'
        exact k.here w.2 (tup_rep ry)
      · have e' : bs = [] := by have := r2.len; rw [e2] at this; exact List.length_eq_zero_iff.mp this.symm
        subst e'
        have w2 := w.2
        rw [List.append_nil] at w2
        exact k.here w2 (tup_rep rx)
      · exact k.tup w.2 (r1.app r2) (by rw [List.length_append]; exact szW_app w.1 r1.len r2.len) hp
    · obtain ⟨a, vs, rfl, h1, z1, r1⟩ := rr_lst rx
      obtain ⟨b, us, rfl, h2, z2, r2⟩ := rr_lst ry
      exact .inr (.inr (.inr ⟨a, b, vs, us, rfl, rfl, h1, h2, szW_app w.1 r1.len r2.len, fun p hp => k.lst dD w.2 (r1.app r2) (by rw [List.length_append]; exact szW_app w.1 r1.len r2.len) hp⟩))
    · exact w.elim
/-- the shape of most rules: two ints -/
theorem op_two {f : Value → Value → Sem Value} {r : R2} {C : Int → Int → Prop} {g : Int → Int → PV} {gv : Int → Int → V} (h : OpR X f r) (hg : ∀ K H D i j, Rep K H D (g i j) (gv i j)) (hr : ∀ i j H Q, C i j → Q (gv i j) H → r (.int i) (.int j) H Q) {t : R2T}
    (ht : ∀ x y k, t x y k → ∃ i j, x = .int i ∧ y = .int j ∧ C i j ∧ k (g i j)) : Op3 X f t :=
  OpR.imp h fun x y H Q ⟨D, px, py, Q3, dD, rx, ry, w, k⟩ => by
    obtain ⟨i, j, rfl, rfl, c, q⟩ := ht _ _ _ w
    rw [rr_int rx, rr_int ry]
    exact hr i j H Q c (k.here q (hg _ _ _ _ _))
theorem op3_sub : Op3 X (binaryOp .Sub) rSub3 := op_two (C := fun _ _ => True) (g := fun i j => .int (i - j)) op_sub (fun _ _ _ _ _ => Rep.int) (fun i j H Q _ q => ⟨i, j, rfl, rfl, q⟩) fun x y k w => by
  unfold rSub3 at w
  split at w
  · exact ⟨_, _, rfl, rfl, trivial, w⟩
  · exact w.elim
theorem op3_mul : Op3 X (binaryOp .Mult) rMul3 := op_two (C := fun i j => i.natAbs < 18446744073709551616 ∨ j.natAbs < 18446744073709551616) (g := fun i j => .int (i * j)) op_mul (fun _ _ _ _ _ => Rep.int) (fun i j H Q c q => ⟨i, j, rfl, rfl, by
    have e : (2 : Int) ^ 64 = 18446744073709551616 := by decide
    rcases c with c | c
    · exact .inl ⟨by rw [e]; omega, by rw [e]; omega⟩
    · exact .inr ⟨by rw [e]; omega, by rw [e]; omega⟩, q⟩) fun x y k w => by
  unfold rMul3 at w
  split at w
  · exact ⟨_, _, rfl, rfl, w.1, w.2⟩
  · exact w.elim
theorem op3_div : Op3 X (binaryOp .FloorDiv) rDiv3 := op_two (C := fun i j => 0 < j ∧ j < 18446744073709551616) (g := fun i j => .int (i / j)) op_fdivW (fun _ _ _ _ _ => Rep.int) (fun i j H Q c q => ⟨i, j, rfl, rfl, wide_div (b := 64) c.1 (by
    have e : (2 : Nat) ^ 64 = 18446744073709551616 := by decide
    rw [e]; omega) (by decide) (by decide), q⟩) fun x y k w => by
  unfold rDiv3 at w
  split at w
  · exact ⟨_, _, rfl, rfl, w.1, w.2⟩
  · exact w.elim
theorem op3_mod : Op3 X (binaryOp .Mod) rMod3 := op_two (C := fun i j => 0 < j) (g := fun i j => .int (i % j)) op_mod (fun _ _ _ _ _ => Rep.int) (fun i j H Q c q => ⟨i, j, rfl, rfl, c, q⟩) fun x y k w => by
  unfold rMod3 at w
  split at w
  · exact ⟨_, _, rfl, rfl, w.1, w.2⟩
  · exact w.elim
theorem op3_pow : Op3 X (binaryOp .Pow) rPow3 := op_two (C := fun i j => 0 ≤ j ∧ j ≤ 1000 ∧ i.natAbs < 1000) (g := fun i j => .int (i ^ j.toNat)) op_pow (fun _ _ _ _ _ => Rep.int) (fun i j H Q c q => ⟨i, j, rfl, rfl, ⟨c.1, by have := c.2.1; omega, by
    have e : (2 : Nat) ^ 64 = 18446744073709551616 := by decide
    have := c.2.2
    rw [e]; omega⟩, q⟩) fun x y k w => by
  unfold rPow3 at w
  split at w
  · exact ⟨_, _, rfl, rfl, w.1, w.2⟩
  · exact w.elim
theorem op3_lt : Op3 X (compareOp .Lt) rLt3 := op_two (C := fun _ _ => True) (g := fun i j => .bl (decide (i < j))) op_lt (fun _ _ _ _ _ => Rep.bl) (fun i j H Q _ q => ⟨i, j, rfl, rfl, q⟩) fun x y k w => by
  unfold rLt3 at w
  split at w
  · exact ⟨_, _, rfl, rfl, trivial, w⟩
  · exact w.elim
theorem op3_le : Op3 X (compareOp .LtE) rLe3 := op_two (C := fun _ _ => True) (g := fun i j => .bl (decide (i ≤ j))) op_le (fun _ _ _ _ _ => Rep.bl) (fun i j H Q _ q => ⟨i, j, rfl, rfl, q⟩) fun x y k w => by
  unfold rLe3 at w
  split at w
  · exact ⟨_, _, rfl, rfl, trivial, w⟩
  · exact w.elim
theorem op3_gt : Op3 X (compareOp .Gt) rGt3 := op_two (C := fun _ _ => True) (g := fun i j => .bl (decide (j < i))) op_gt (fun _ _ _ _ _ => Rep.bl) (fun i j H Q _ q => ⟨i, j, rfl, rfl, q⟩) fun x y k w => by
  unfold rGt3 at w
  split at w
  · exact ⟨_, _, rfl, rfl, trivial, w⟩
  · exact w.elim
theorem op3_ge : Op3 X (compareOp .GtE) rGe3 := op_two (C := fun _ _ => True) (g := fun i j => .bl (decide (j ≤ i))) op_ge (fun _ _ _ _ _ => Rep.bl) (fun i j H Q _ q => ⟨i, j, rfl, rfl, q⟩) fun x y k w => by
  unfold rGe3 at w
  split at w
  · exact ⟨_, _, rfl, rfl, trivial, w⟩
  · exact w.elim
theorem un3_neg : Un3 X (unaryOp .USub) rNeg3 := UnR.imp un_neg fun x H Q ⟨D, px, Q3, dD, rx, w, k⟩ => by
  unfold rNeg3 at w
  split at w
  · exact ⟨_, rr_int rx, k.here w Rep.int⟩
  · exact w.elim
end
/-! ### is None -/
def isNon : PV → Bool
  | .non => true
  | _ => false
def rIsN3 : R2T := fun x y k => match y with
  | .non => (match x with | .raw _ => False | _ => k (.bl (isNon x)))
  | _ => False
def rNotN3 : R2T := fun x y k => match y with
  | .non => (match x with | .raw _ => False | _ => k (.bl (!isNon x)))
  | _ => False
section
variable {K : PySem.W.Frag} {H : Hp} {D : Addr → Prop} {v : V} {X : Cx}
theorem isNon_rep {x : PV} (h : RepR K H D x v) (n : ∀ u, x ≠ .raw u) : decide (v = .non) = isNon x := by
  cases x with
  | non => rw [rr_non h]; rfl
  | bl b => rw [rr_bl h]; rfl
  | int i => rw [rr_int h]; rfl
  | str s => rw [(rr_str h).1]; rfl
  | tup xs => obtain ⟨a, vs, e, _⟩ := rr_tup h; rw [e]; rfl
  | lst xs => obtain ⟨a, vs, e, _⟩ := rr_lst h; rw [e]; rfl
  | dic ks xs => obtain ⟨a, vs, e, _⟩ := h; rw [e]; rfl
  | ins C fs xs => obtain ⟨a, dx, vs, e, _⟩ := h; rw [e]; rfl
  | raw u => exact absurd rfl (n u)
theorem op3_isN : Op3 X (compareOp .Is) rIsN3 := OpR.imp op_isN fun x y H Q ⟨D, px, py, Q3, dD, rx, ry, w, k⟩ => by
  unfold rIsN3 at w
  split at w
  · split at w
    · exact w.elim
    · rename_i n
      rw [isNon_rep rx n]
      exact ⟨rr_non ry, k.here w Rep.bl⟩
  · exact w.elim
theorem op3_notN : Op3 X (compareOp .IsNot) rNotN3 := OpR.imp op_notN fun x y H Q ⟨D, px, py, Q3, dD, rx, ry, w, k⟩ => by
  unfold rNotN3 at w
  split at w
  · split at w
    · exact w.elim
    · rename_i n
      rw [isNon_rep rx n]
      exact ⟨rr_non ry, k.here w Rep.bl⟩
  · exact w.elim
/-- is, of two bools -/
def rIsB3 : R2T := fun x y k => match x, y with
  | .bl a, .bl b => k (.bl (decide (a = b)))
  | _, _ => False
def rNotB3 : R2T := fun x y k => match x, y with
  | .bl a, .bl b => k (.bl (!decide (a = b)))
  | _, _ => False
theorem op3_isB : Op3 X (compareOp .Is) rIsB3 := OpR.imp op_is_bl fun x y H Q ⟨D, px, py, Q3, dD, rx, ry, w, k⟩ => by
  unfold rIsB3 at w
  split at w
  · exact ⟨_, _, rr_bl rx, rr_bl ry, k.here w Rep.bl⟩
  · exact w.elim
theorem op3_notB : Op3 X (compareOp .IsNot) rNotB3 := OpR.imp op_isnot_bl fun x y H Q ⟨D, px, py, Q3, dD, rx, ry, w, k⟩ => by
  unfold rNotB3 at w
  split at w
  · exact ⟨_, _, rr_bl rx, rr_bl ry, k.here w Rep.bl⟩
  · exact w.elim
end
end T3

namespace T3
open PySem PySem.Spec PyProof.Rows L2

/-! ## data -/
mutual
def pdOf : PV → PyData
  | .non => .none
  | .bl b => .bool b
  | .int i => .int i
  | .str s => .str s
  | .tup xs => .tuple (pdsOf xs)
  | .lst xs => .list (pdsOf xs)
  | .dic _ _ => .none
  | .ins _ _ _ => .none
  | .raw _ => .none
def pdsOf : List PV → List PyData
  | [] => []
  | x :: xs => pdOf x :: pdsOf xs
end
theorem pdsOf_map : ∀ xs : List PV, pdsOf xs = xs.map pdOf
  | [] => by simp [pdsOf]
  | x :: xs => by simp [pdsOf, pdsOf_map xs]
/-- plain data of depth n at most -/
def dpt : Nat → PV → Bool
  | _, .non => true
  | _, .bl _ => true
  | _, .int _ => true
  | _, .str s => PyData.strOk s
  | n + 1, .tup xs => xs.all (dpt n)
  | n + 1, .lst xs => xs.all (dpt n)
  | _, _ => false
theorem dpt_data : ∀ (n : Nat) (x : PV), dpt n x = true → (pdOf x).canLay0 = true ∧ (pdOf x).depth ≤ n ∧ ∀ {K : PySem.W.Frag} {H : Hp} {D : Addr → Prop} {v : V}, RepR K H D x v → Dp K H v (pdOf x) := by
  intro n
  induction n with
  | zero =>
    intro x h
    cases x with
    | non => exact ⟨rfl, by simp [pdOf, PyData.depth], fun r => by rw [rr_non r]; unfold pdOf; exact .non⟩
    | bl b => exact ⟨rfl, by simp [pdOf, PyData.depth], fun r => by rw [rr_bl r]; unfold pdOf; exact .bl b⟩
    | int i => exact ⟨rfl, by simp [pdOf, PyData.depth], fun r => by rw [rr_int r]; unfold pdOf; exact .int i⟩
    | str s => exact ⟨h, by simp [pdOf, PyData.depth], fun r => by rw [(rr_str r).1]; unfold pdOf; exact .str s⟩
    | _ => simp [dpt] at h
  | succ n ih =>
    have all : ∀ xs : List PV, xs.all (dpt n) = true → PyData.canLayAll0 (pdsOf xs) = true ∧ PyData.depthAll (pdsOf xs) ≤ n ∧ ∀ {K : PySem.W.Frag} {H : Hp} {D : Addr → Prop} {vs : List V}, Reps K H D xs vs → DpAll K H vs (pdsOf xs) := by
      intro xs
      induction xs with
      | nil => intro _; exact ⟨rfl, by simp [pdsOf, PyData.depthAll], fun r => by unfold Reps at r; subst r; unfold pdsOf; exact .nil⟩
      | cons x xs ih2 =>
        intro h
        rw [List.all_cons, Bool.and_eq_true] at h
        obtain ⟨a1, a2, a3⟩ := ih x h.1
        obtain ⟨b1, b2, b3⟩ := ih2 h.2
        refine ⟨?_, ?_, fun r => ?_⟩
        · unfold pdsOf PyData.canLayAll0; rw [a1, b1]; rfl
        · unfold pdsOf PyData.depthAll; exact Nat.max_le.mpr ⟨a2, b2⟩
        · unfold Reps at r
          obtain ⟨v, r', e, h1, h2⟩ := r
          subst e
          unfold pdsOf
          exact .cons (a3 h1.readable) (b3 h2)
    intro x h
    cases x with
    | non => exact ⟨rfl, by simp [pdOf, PyData.depth], fun r => by rw [rr_non r]; unfold pdOf; exact .non⟩
    | bl b => exact ⟨rfl, by simp [pdOf, PyData.depth], fun r => by rw [rr_bl r]; unfold pdOf; exact .bl b⟩
    | int i => exact ⟨rfl, by simp [pdOf, PyData.depth], fun r => by rw [rr_int r]; unfold pdOf; exact .int i⟩
    | str s => exact ⟨h, by simp [pdOf, PyData.depth], fun r => by rw [(rr_str r).1]; unfold pdOf; exact .str s⟩
    | tup xs =>
      obtain ⟨a1, a2, a3⟩ := all xs h
      refine ⟨by unfold pdOf; exact a1, by unfold pdOf PyData.depth; omega, fun r => ?_⟩
      obtain ⟨a, vs, e, t, z, rr⟩ := rr_tup r
      subst e
      unfold pdOf
      exact .tup t (a3 rr)
    | lst xs =>
      obtain ⟨a1, a2, a3⟩ := all xs h
      refine ⟨by unfold pdOf; exact a1, by unfold pdOf PyData.depth; omega, fun r => ?_⟩
      obtain ⟨a, vs, e, t, z, rr⟩ := rr_lst r
      subst e
      unfold pdOf
      exact .lst t (a3 rr)
    | _ => simp [dpt] at h
theorem dpt_shaped {x : PV} (h : dpt 60 x = true) : SeqAt.shaped (pdOf x) = true := by
  obtain ⟨a1, a2, _⟩ := dpt_data 60 x h
  unfold SeqAt.shaped
  rw [a1, Bool.true_and]
  exact decide_eq_true (by omega)
theorem dpt_mono {n : Nat} : ∀ {m : Nat} {x : PV}, n ≤ m → dpt n x = true → dpt m x = true := by
  induction n with
  | zero =>
    intro m x h e
    cases x <;> first | (cases m <;> exact e) | (simp [dpt] at e) | (cases m <;> rfl)
  | succ n ih =>
    intro m x h e
    obtain ⟨k, rfl⟩ : ∃ k, m = k + 1 := ⟨m - 1, by omega⟩
    cases x with
    | tup xs =>
      have e' : xs.all (dpt n) = true := e
      show xs.all (dpt k) = true
      rw [List.all_eq_true] at e' ⊢
      exact fun x hx => ih (by omega) (e' x hx)
    | lst xs =>
      have e' : xs.all (dpt n) = true := e
      show xs.all (dpt k) = true
      rw [List.all_eq_true] at e' ⊢
      exact fun x hx => ih (by omega) (e' x hx)
    | _ => first | exact e | rfl
/-- == -/
def eqP (x y : PV) : Bool := PyData.eqv (pdOf x) (pdOf y)
def eqPs (xs ys : List PV) : Bool := PyData.eqvAll (pdsOf xs) (pdsOf ys)
@[simp] theorem eqP_int {i j : Int} : eqP (.int i) (.int j) = (i == j) := rfl
@[simp] theorem eqP_bl {i j : Bool} : eqP (.bl i) (.bl j) = (i == j) := rfl
@[simp] theorem eqP_str {i j : Str} : eqP (.str i) (.str j) = (i == j) := rfl
@[simp] theorem eqP_nn : eqP .non .non = true := rfl
@[simp] theorem eqP_tt {xs ys : List PV} : eqP (.tup xs) (.tup ys) = eqPs xs ys := rfl
@[simp] theorem eqP_ll {xs ys : List PV} : eqP (.lst xs) (.lst ys) = eqPs xs ys := rfl
@[simp] theorem eqPs_nn : eqPs [] [] = true := rfl
@[simp] theorem eqPs_cc {x y : PV} {xs ys : List PV} : eqPs (x :: xs) (y :: ys) = (eqP x y && eqPs xs ys) := rfl
@[simp] theorem eqPs_nc {y : PV} {ys : List PV} : eqPs [] (y :: ys) = false := rfl
@[simp] theorem eqPs_cn {y : PV} {ys : List PV} : eqPs (y :: ys) [] = false := rfl
theorem eqP_refl : ∀ (n : Nat) (x : PV), dpt n x = true → eqP x x = true := by
  intro n
  induction n with
  | zero => intro x h; cases x <;> first | (simp [dpt] at h; done) | simp
  | succ n ih =>
    have all : ∀ xs : List PV, xs.all (dpt n) = true → eqPs xs xs = true := by
      intro xs
      induction xs with
      | nil => intro _; rfl
      | cons x xs ih2 =>
        intro h
        rw [List.all_cons, Bool.and_eq_true] at h
        rw [eqPs_cc, ih x h.1, ih2 h.2]; rfl
    intro x h
    cases x <;> first | (simp only [eqP_tt, eqP_ll]; exact all _ h) | (simp [dpt] at h; done) | simp
/-- no bool in it -/
def nobl : Nat → PV → Bool
  | _, .non => true
  | _, .int _ => true
  | _, .str _ => true
  | n + 1, .tup xs => xs.all (nobl n)
  | n + 1, .lst xs => xs.all (nobl n)
  | _, _ => false
theorem eqP_eq : ∀ (n : Nat) (x y : PV), nobl n x = true → nobl n y = true → eqP x y = true → x = y := by
  intro n
  induction n with
  | zero =>
    intro x y hx hy h
    cases x <;> first | (simp [nobl] at hx; done) | (cases y <;> first | (simp [nobl] at hy; done) | (cases h; done) | rfl | (simp at h; rw [h]))
  | succ n ih =>
    have all : ∀ xs ys : List PV, xs.all (nobl n) = true → ys.all (nobl n) = true → eqPs xs ys = true → xs = ys := by
      intro xs
      induction xs with
      | nil => intro ys _ _ h; cases ys with
        | nil => rfl
        | cons y ys => simp at h
      | cons x xs ih2 =>
        intro ys hx hy h
        cases ys with
        | nil => simp at h
        | cons y ys =>
          rw [List.all_cons, Bool.and_eq_true] at hx hy
          rw [eqPs_cc, Bool.and_eq_true] at h
          rw [ih x y hx.1 hy.1 h.1, ih2 ys hx.2 hy.2 h.2]
    intro x y hx hy h
    cases x <;> first
      | (simp [nobl] at hx; done)
      | (cases y <;> first | (simp [nobl] at hy; done) | (cases h; done) | rfl | (simp at h; rw [h]; done) | (rw [all _ _ hx hy h]))
/-- two flat values of any kinds, no bool against an int -/
def scalP : PV → PV → Bool
  | .non, .non => true | .non, .int _ => true | .int _, .non => true | .non, .bl _ => true | .bl _, .non => true | .non, .str _ => true | .str _, .non => true
  | .int _, .int _ => true | .bl _, .bl _ => true | .str _, .str _ => true | .int _, .str _ => true | .str _, .int _ => true | .bl _, .str _ => true | .str _, .bl _ => true
  | _, _ => false
theorem scal_rep {K : PySem.W.Frag} {H : Hp} {D : Addr → Prop} {x y : PV} {v u : V} (h : RepR K H D x v) (h' : RepR K H D y u) (e : scalP x y = true) : scal v u = true ∧ decide (v = u) = eqP x y := by
  cases x <;> cases y <;> first | (cases e; done) | skip
  · rw [rr_non h, rr_non h']; exact ⟨rfl, rfl⟩
  · rw [rr_non h, rr_bl h']; exact ⟨rfl, rfl⟩
  · rw [rr_non h, rr_int h']; exact ⟨rfl, rfl⟩
  · rw [rr_non h, (rr_str h').1]; exact ⟨rfl, rfl⟩
  · rw [rr_bl h, rr_non h']; exact ⟨rfl, rfl⟩
  · rw [rr_bl h, rr_bl h']; exact ⟨rfl, dec_bl⟩
  · rw [rr_bl h, (rr_str h').1]; exact ⟨rfl, rfl⟩
  · rw [rr_int h, rr_non h']; exact ⟨rfl, rfl⟩
  · rw [rr_int h, rr_int h']; exact ⟨rfl, dec_int⟩
  · rw [rr_int h, (rr_str h').1]; exact ⟨rfl, rfl⟩
  · rw [(rr_str h).1, rr_non h']; exact ⟨rfl, rfl⟩
  · rw [(rr_str h).1, rr_bl h']; exact ⟨rfl, rfl⟩
  · rw [(rr_str h).1, rr_int h']; exact ⟨rfl, rfl⟩
  · rw [(rr_str h).1, (rr_str h').1]; exact ⟨rfl, dec_str⟩
def rEq3 : R2T := fun x y k => (scalP x y = true ∨ dpt 60 x = true ∧ dpt 60 y = true) ∧ k (.bl (eqP x y))
def rNe3 : R2T := fun x y k => (scalP x y = true ∨ dpt 60 x = true ∧ dpt 60 y = true) ∧ k (.bl (!eqP x y))
section
variable {X : Cx}
theorem op3_eq (hu : X.A.units + 64 < cLine) : Op3 X (compareOp .Eq) rEq3 := OpR.imp (op_eq.or (op_eqD hu)) fun x y H Q ⟨D, px, py, Q3, dD, rx, ry, w, k⟩ => by
  rcases w with ⟨w | w, q⟩
  · obtain ⟨s1, s2⟩ := scal_rep rx ry w
    exact .inl ⟨s1, by rw [s2]; exact k.here q Rep.bl⟩
  · exact .inr ⟨_, _, (dpt_data 60 px w.1).2.2 rx, (dpt_data 60 py w.2).2.2 ry, dpt_shaped w.1, dpt_shaped w.2, k.here q Rep.bl⟩
theorem op3_ne (hu : X.A.units + 64 < cLine) : Op3 X (compareOp .NotEq) rNe3 := OpR.imp (op_ne.or (op_neD hu)) fun x y H Q ⟨D, px, py, Q3, dD, rx, ry, w, k⟩ => by
  rcases w with ⟨w | w, q⟩
  · obtain ⟨s1, s2⟩ := scal_rep rx ry w
    exact .inl ⟨s1, by rw [s2]; exact k.here q Rep.bl⟩
  · exact .inr ⟨_, _, (dpt_data 60 px w.1).2.2 rx, (dpt_data 60 py w.2).2.2 ry, dpt_shaped w.1, dpt_shaped w.2, k.here q Rep.bl⟩
end
/-! ### in -/
/-- flat: None, a bool, an int, a text -/
def flatP : PV → Bool
  | .non => true
  | .bl _ => true
  | .int _ => true
  | .str _ => true
  | _ => false
theorem flat_rep {K : PySem.W.Frag} {H : Hp} {D : Addr → Prop} {x : PV} {v : V} (h : RepR K H D x v) (f : flatP x = true) : flatV v = true := by
  cases x <;> first | (simp [flatP] at f; done) | skip
  · rw [rr_non h]; rfl
  · rw [rr_bl h]; rfl
  · rw [rr_int h]; rfl
  · rw [(rr_str h).1]; rfl
theorem eqV_rep {K : PySem.W.Frag} {H : Hp} {D : Addr → Prop} {x y : PV} {v u : V} (h : RepR K H D x v) (f : flatP x = true) (h' : RepR K H D y u) (f' : flatP y = true) : eqV v u = eqP x y := by
  cases x <;> first | (simp [flatP] at f; done) | (cases y <;> first | (simp [flatP] at f'; done) | skip)
  all_goals first
    | (rw [rr_non h, rr_non h']; rfl) | (rw [rr_non h, rr_bl h']; rfl) | (rw [rr_non h, rr_int h']; rfl) | (rw [rr_non h, (rr_str h').1]; rfl)
    | (rw [rr_bl h, rr_non h']; rfl) | (rw [rr_bl h, rr_bl h']; rfl) | (rw [rr_bl h, rr_int h']; rfl) | (rw [rr_bl h, (rr_str h').1]; rfl)
    | (rw [rr_int h, rr_non h']; rfl) | (rw [rr_int h, rr_bl h']; rfl) | (rw [rr_int h, rr_int h']; rfl) | (rw [rr_int h, (rr_str h').1]; rfl)
    | (rw [(rr_str h).1, rr_non h']; rfl) | (rw [(rr_str h).1, rr_bl h']; rfl) | (rw [(rr_str h).1, rr_int h']; rfl) | (rw [(rr_str h).1, (rr_str h').1]; rfl)
theorem inV_rep {K : PySem.W.Frag} {H : Hp} {D : Addr → Prop} {x : PV} {v : V} (h : RepR K H D x v) (f : flatP x = true) : ∀ {ys : List PV} {us : List V}, Reps K H D ys us → ys.all flatP = true → us.all flatV = true ∧ inV v us = ys.any fun y => eqP y x
  | [], us, r, _ => by unfold Reps at r; subst r; exact ⟨rfl, rfl⟩
  | y :: ys, us, r, g => by
    unfold Reps at r
    obtain ⟨u, r', e, h1, h2⟩ := r
    subst e
    rw [List.all_cons, Bool.and_eq_true] at g
    obtain ⟨a1, a2⟩ := inV_rep h f h2 g.2
    refine ⟨by rw [List.all_cons, flat_rep h1.readable g.1, a1]; rfl, ?_⟩
    unfold inV at a2 ⊢
    rw [List.any_cons, List.any_cons, a2, eqV_rep h1.readable g.1 h f]
/-- a sign of a text -/
def inStrW (x y : PV) (k : Bool → Prop) : Prop := match x, y with
  | .str ⟨⟨[c]⟩⟩, .str z => k (decide (c ∈ z.cps.toList))
  | _, _ => False
def inW (x y : PV) (k : Bool → Prop) : Prop := match y with
  | .lst ys => (flatP x = true ∧ ys.all flatP = true ∨ dpt 60 x = true ∧ dpt 60 (.lst ys) = true) ∧ k (ys.any fun y => eqP y x)
  | .tup ys => (flatP x = true ∧ ys.all flatP = true) ∧ k (ys.any fun y => eqP y x)
  | y => inStrW x y k
def rIn3 : R2T := fun x y k => inW x y fun b => k (.bl b)
def rNotIn3 : R2T := fun x y k => inW x y fun b => k (.bl (!b))
theorem any_pds {x : PV} : ∀ ys : List PV, ((pdsOf ys).any fun z => PyData.eqv z (pdOf x)) = ys.any fun y => eqP y x
  | [] => rfl
  | y :: ys => by unfold pdsOf; rw [List.any_cons, List.any_cons, any_pds ys]; rfl
theorem inStrW_of {x y : PV} {k : Bool → Prop} (h : inStrW x y k) : ∃ c z, x = .str ⟨#[c]⟩ ∧ y = .str z ∧ k (decide (c ∈ z.cps.toList)) := by
  unfold inStrW at h
  split at h
  · exact ⟨_, _, rfl, rfl, h⟩
  · exact h.elim
section
variable {X : Cx}
theorem op3_in (hu : X.A.units + 65 < cLine) : Op3 X (compareOp .In) rIn3 := OpR.imp (op_in_seq.or ((op_inD hu).or op_in_sign)) fun x y H Q ⟨D, px, py, Q3, dD, rx, ry, w, k⟩ => by
  unfold rIn3 inW at w
  split at w
  · rename_i ys
    obtain ⟨w1 | w1, w2⟩ := w
    · obtain ⟨a, vs, rfl, t, z, r⟩ := rr_lst ry
      obtain ⟨e1, e2⟩ := inV_rep rx w1.1 r w1.2
      exact .inl ⟨a, vs, rfl, .inl t, flat_rep rx w1.1, e1, by rw [if_neg (by simp), e2]; exact k.here w2 Rep.bl⟩
    · refine .inr (.inl ⟨_, pdsOf ys, (dpt_data 60 px w1.1).2.2 rx, (dpt_data 60 (.lst ys) w1.2).2.2 ry, dpt_shaped w1.1, dpt_shaped w1.2, ?_⟩)
      rw [any_pds]
      exact k.here w2 Rep.bl
  · rename_i ys
    obtain ⟨w1, w2⟩ := w
    obtain ⟨a, vs, rfl, t, z, r⟩ := rr_tup ry
    obtain ⟨e1, e2⟩ := inV_rep rx w1.1 r w1.2
    exact .inl ⟨a, vs, rfl, .inr t, flat_rep rx w1.1, e1, by rw [if_neg (by simp), e2]; exact k.here w2 Rep.bl⟩
  · obtain ⟨c, z, e1, e2, q⟩ := inStrW_of w
    subst e1; subst e2
    exact .inr (.inr ⟨c, z, (rr_str rx).1, (rr_str ry).1, k.here q Rep.bl⟩)
theorem op3_notIn (hu : X.A.units + 65 < cLine) : Op3 X (compareOp .NotIn) rNotIn3 := OpR.imp (op_notIn_seq.or ((op_notInD hu).or op_notIn_sign)) fun x y H Q ⟨D, px, py, Q3, dD, rx, ry, w, k⟩ => by
  unfold rNotIn3 inW at w
  split at w
  · rename_i ys
    obtain ⟨w1 | w1, w2⟩ := w
    · obtain ⟨a, vs, rfl, t, z, r⟩ := rr_lst ry
      obtain ⟨e1, e2⟩ := inV_rep rx w1.1 r w1.2
      exact .inl ⟨a, vs, rfl, .inl t, flat_rep rx w1.1, e1, by rw [if_pos rfl, e2]; exact k.here w2 Rep.bl⟩
    · refine .inr (.inl ⟨_, pdsOf ys, (dpt_data 60 px w1.1).2.2 rx, (dpt_data 60 (.lst ys) w1.2).2.2 ry, dpt_shaped w1.1, dpt_shaped w1.2, ?_⟩)
      rw [any_pds]
      exact k.here w2 Rep.bl
  · rename_i ys
    obtain ⟨w1, w2⟩ := w
    obtain ⟨a, vs, rfl, t, z, r⟩ := rr_tup ry
    obtain ⟨e1, e2⟩ := inV_rep rx w1.1 r w1.2
    exact .inl ⟨a, vs, rfl, .inr t, flat_rep rx w1.1, e1, by rw [if_pos rfl, e2]; exact k.here w2 Rep.bl⟩
  · obtain ⟨c, z, e1, e2, q⟩ := inStrW_of w
    subst e1; subst e2
    exact .inr (.inr ⟨c, z, (rr_str rx).1, (rr_str ry).1, k.here q Rep.bl⟩)
end
end T3

namespace T3
open PySem PySem.Spec PyProof.Rows L2

/-! ## truth, len, isinstance -/
def truW (x : PV) (k : Bool → Prop) : Prop := match x with
  | .non => k false
  | .bl b => k b
  | .int i => k (i != 0)
  | .str s => k ((s.length : Int) != 0)
  | .tup xs => k (!xs.isEmpty)
  | .lst xs => k (!xs.isEmpty)
  | .dic ks _ => k (!ks.isEmpty)
  | _ => False
theorem isEmpty_len {α β : Type} : ∀ {xs : List α} {ys : List β}, xs.length = ys.length → xs.isEmpty = ys.isEmpty
  | [], [], _ => rfl
  | _ :: _, _ :: _, _ => rfl
section
variable {K : PySem.W.Frag} {H : Hp} {D : Addr → Prop} {v : V} {X : Cx} {P : BP} {e a b : Expr} {ta tb te : TE3} {pos p : Pos}
theorem tru_rep {x : PV} {k : Bool → Prop} (r : RepR K H D x v) (h : truW x k) : ∃ b, TruV K v H b ∧ k b := by
  cases x with
  | non => rw [rr_non r]; exact ⟨false, rfl, h⟩
  | bl b => rw [rr_bl r]; exact ⟨b, rfl, h⟩
  | int i => rw [rr_int r]; exact ⟨_, rfl, h⟩
  | str s => rw [(rr_str r).1]; exact ⟨_, ⟨(rr_str r).2, rfl⟩, h⟩
  | tup xs =>
    obtain ⟨a, vs, rfl, t, z, rr⟩ := rr_tup r
    exact ⟨_, .inr (.inl ⟨vs, t, rfl⟩), by rw [isEmpty_len rr.len]; exact h⟩
  | lst xs =>
    obtain ⟨a, vs, rfl, t, z, rr⟩ := rr_lst r
    exact ⟨_, .inl ⟨vs, t, rfl⟩, by rw [isEmpty_len rr.len]; exact h⟩
  | dic ks xs =>
    obtain ⟨a, vs, rfl, t, l, z, rr⟩ := r
    exact ⟨_, .inr (.inr ⟨_, t, rfl⟩), by rw [isEmpty_len (ys := ks) (by simp [l])]; exact h⟩
  | _ => exact h.elim
theorem pt3_truth (he : PB3 X P e te) (hw : ∀ whole, isTrue e X.env whole = (do let v ← whole; standAt e.pos; holding [v] (truthy v)) := by intro _; rfl) : PT3 X P e (fun σ M Q => te σ M fun x M1 => truW (look M1 x) fun b => Q b M1) := fun B hB =>
  PT.imp (pt_truth (he B hB) hw) fun τ H Q ⟨σ, M, oa, Q3, R, w, k⟩ => ⟨σ, M, oa, _, R, w, fun x M1 v H1 q1 R1 f1 r1 => by
    obtain ⟨b, h1, h2⟩ := tru_rep (r1.readable R1) q1
    exact ⟨b, h1, k b M1 H1 h2 R1 f1⟩⟩
/-- len -/
def lenW (x : PV) (k : Int → Prop) : Prop := match x with
  | .str s => k (s.length : Int)
  | .tup xs => k (xs.length : Int)
  | .lst xs => k (xs.length : Int)
  | _ => False
def rLen3 : RnT := fun xs k => match xs with
  | [x] => lenW x fun n => k (.int n)
  | _ => False
theorem paired1 {α β : Type} {F : α → β → Prop} {x : α} {vs : List β} (h : Paired F [x] vs) : ∃ v, vs = [v] ∧ F x v := by
  cases h with
  | cons h1 h2 => cases h2; exact ⟨_, rfl, h1⟩
theorem paired2 {α β : Type} {F : α → β → Prop} {x y : α} {vs : List β} (h : Paired F [x, y] vs) : ∃ v u, vs = [v, u] ∧ F x v ∧ F y u := by
  cases h with
  | cons h1 h2 =>
    obtain ⟨u, e, h3⟩ := paired1 h2
    subst e
    exact ⟨_, u, rfl, h1, h3⟩
theorem call3_len : Call3 X (.builtin "len") rLen3 := CallR.imp call_len fun xs H Q ⟨D, ps, Q3, dD, rs, w, k⟩ => by
  unfold rLen3 at w
  split at w
  · rename_i x
    obtain ⟨v, rfl, r⟩ := paired1 rs
    unfold lenW at w
    split at w
    · obtain ⟨e, z⟩ := rr_str r
      subst e
      exact ⟨_, _, rfl, ⟨z, rfl⟩, k.here w Rep.int⟩
    · obtain ⟨a, vs, rfl, t, z, rr⟩ := rr_tup r
      exact ⟨_, _, rfl, .inr ⟨vs, t, rfl⟩, by rw [rr.len]; exact k.here w Rep.int⟩
    · obtain ⟨a, vs, rfl, t, z, rr⟩ := rr_lst r
      exact ⟨_, _, rfl, .inl ⟨vs, t, rfl⟩, by rw [rr.len]; exact k.here w Rep.int⟩
    · exact w.elim
  · exact w.elim
/-! ### isinstance -/
def tyN : PV → Option String
  | .non => some "NoneType"
  | .bl _ => some "bool"
  | .int _ => some "int"
  | .str _ => some "str"
  | .tup _ => some "tuple"
  | .lst _ => some "list"
  | .dic _ _ => some "dict"
  | _ => none
theorem tyN_rep {x : PV} {t : String} (r : RepR K H D x v) (h : tyN x = some t) : TyX K H v (.type t) := by
  cases x with
  | non => cases h; rw [rr_non r]; exact .base .non
  | bl b => cases h; rw [rr_bl r]; exact .base (.bl b)
  | int i => cases h; rw [rr_int r]; exact .base (.int i)
  | str s => cases h; rw [(rr_str r).1]; exact .base (.str s)
  | tup xs =>
    cases h
    obtain ⟨a, vs, rfl, t, z, rr⟩ := rr_tup r
    rcases t with (t | ⟨o, t⟩) | ⟨o, its, n, l, c, _⟩
    · exact .base (.tup t)
    · exact .fTuple t
    · exact .kTuple l c
  | lst xs =>
    cases h
    obtain ⟨a, vs, rfl, t, z, rr⟩ := rr_lst r
    rcases t with (t | ⟨o, t⟩) | ⟨o, its, n, l, c, _⟩
    · exact .base (.lst t)
    · exact .base (.frz t)
    · exact .kList l c
  | dic ks xs =>
    cases h
    obtain ⟨a, vs, rfl, t, l, z, rr⟩ := r
    exact .base (.dK t)
  | _ => cases h
/-- f answers isinstance of the class c -/
def IsTy (c : String) (f : PV → Option Bool) : Prop := ∀ x b, f x = some b → ∃ t, tyN x = some t ∧ kitB t c = some b
def isInt : PV → Option Bool
  | .int _ => some true | .bl _ => some true | .raw _ => none | .ins _ _ _ => none | _ => some false
def isBool : PV → Option Bool
  | .bl _ => some true | .raw _ => none | .ins _ _ _ => none | _ => some false
def isStr : PV → Option Bool
  | .str _ => some true | .raw _ => none | .ins _ _ _ => none | _ => some false
def isTup : PV → Option Bool
  | .tup _ => some true | .raw _ => none | .ins _ _ _ => none | _ => some false
def isLst : PV → Option Bool
  | .lst _ => some true | .raw _ => none | .ins _ _ _ => none | _ => some false
def isDic : PV → Option Bool
  | .dic _ _ => some true | .raw _ => none | .ins _ _ _ => none | _ => some false
theorem isTy_int : IsTy "int" isInt := fun x b h => by
  cases x <;> first | (cases h; done) | (cases h; exact ⟨_, rfl, by decide +kernel⟩)
theorem isTy_bool : IsTy "bool" isBool := fun x b h => by
  cases x <;> first | (cases h; done) | (cases h; exact ⟨_, rfl, by decide +kernel⟩)
theorem isTy_str : IsTy "str" isStr := fun x b h => by
  cases x <;> first | (cases h; done) | (cases h; exact ⟨_, rfl, by decide +kernel⟩)
theorem isTy_tup : IsTy "tuple" isTup := fun x b h => by
  cases x <;> first | (cases h; done) | (cases h; exact ⟨_, rfl, by decide +kernel⟩)
theorem isTy_lst : IsTy "list" isLst := fun x b h => by
  cases x <;> first | (cases h; done) | (cases h; exact ⟨_, rfl, by decide +kernel⟩)
theorem isTy_dic : IsTy "dict" isDic := fun x b h => by
  cases x <;> first | (cases h; done) | (cases h; exact ⟨_, rfl, by decide +kernel⟩)
def tIsi3 (f : PV → Option Bool) (te : TE3) : TE3 := fun σ M Q => te σ M fun x M1 => optW (f (look M1 x)) fun b => Q (.bl b) M1
def tIsi2 (f g : PV → Option Bool) (te : TE3) : TE3 := fun σ M Q => te σ M fun x M1 => optW (f (look M1 x)) fun b => if b = true then Q (.bl true) M1 else optW (g (look M1 x)) fun c => Q (.bl c) M1
/-- isinstance(e, C) with C built in -/
theorem pe3_isi {c : Str} {T : String} {f : PV → Option Bool} {p1 p2 : Pos} (hf : IsTy T f) (he : PB3 X P e te) (hm : X.mg "isinstance" = none) (hmc : X.mg c = none) (hvc : bootBuiltins c = some (.type T)) (hg : Gl X "isinstance" := by rfl) (hgc : Gl X c := by rfl) (hnc : c ≠ "__name__" := by decide)
    (hdc : (c == ("__debug__" : Str)) = false := by decide) (hs : starEach [e, .Name c p2] X.env = (false, eval e X.env) :: starEach [.Name c p2] X.env := by rfl) (hs2 : starEach [Expr.Name c p2] X.env = (false, eval (Expr.Name c p2) X.env) :: starEach [] X.env := by rfl) (hpl : (backTo pos (starEach [Expr.Name c p2] X.env)).any (·.1) = false := by rfl) :
    PE3 X P (.Call (.Name "isinstance" p1) [e, .Name c p2] [] pos) (tIsi3 f te) := fun B hB =>
  PE.imp (pe_callB call_isi hg hm (by rfl) (pa_cons (he B hB) (pa_cons (pe_bltn hgc hmc hvc (v := .ty T) rfl hnc hdc) pa_nil hs2) hs) (by decide) (by decide) hs hpl) fun τ H Q ⟨σ, M, oa, Q3, R, w, k⟩ => ⟨σ, M, oa, _, R, w, fun x M1 v H1 q1 R1 f1 r1 => by
    obtain ⟨b, eb, q⟩ := optW_of q1
    obtain ⟨t, e1, e2⟩ := hf _ _ eb
    exact ⟨v, .ty T, .type t, .type T, b, rfl, .ty T, tyN_rep (r1.readable R1) e1, kit_ty e2, k _ M1 _ H1 q R1 f1 Rep.bl⟩⟩
/-- isinstance(e, (C, D)) -/
theorem pe3_isi2 {c d : Str} {T U : String} {f g : PV → Option Bool} {p1 p2 p3 p4 : Pos} {kk : Nat} (hf : IsTy T f) (hg' : IsTy U g) (he : PB3 X P e te) (hm : X.mg "isinstance" = none) (hmc : X.mg c = none) (hvc : bootBuiltins c = some (.type T)) (hmd : X.mg d = none) (hvd : bootBuiltins d = some (.type U))
    (hg : Gl X "isinstance" := by rfl) (hgc : Gl X c := by rfl) (hgd : Gl X d := by rfl) (hnc : c ≠ "__name__" := by decide) (hnd : d ≠ "__name__" := by decide)
    (hdc : (c == ("__debug__" : Str)) = false := by decide) (hdd : (d == ("__debug__" : Str)) = false := by decide) (hs : starEach [e, .Tuple [.Name c p2, .Name d p3] kk p4] X.env = (false, eval e X.env) :: starEach [.Tuple [.Name c p2, .Name d p3] kk p4] X.env := by rfl)
    (hs2 : starEach [Expr.Tuple [.Name c p2, .Name d p3] kk p4] X.env = (false, eval (Expr.Tuple [.Name c p2, .Name d p3] kk p4) X.env) :: starEach [] X.env := by rfl) (hpl : (backTo pos (starEach [Expr.Tuple [.Name c p2, .Name d p3] kk p4] X.env)).any (·.1) = false := by rfl)
    (hs3 : starEach [Expr.Name c p2, .Name d p3] X.env = (false, eval (Expr.Name c p2) X.env) :: starEach [.Name d p3] X.env := by rfl) (hs4 : starEach [Expr.Name d p3] X.env = (false, eval (Expr.Name d p3) X.env) :: starEach [] X.env := by rfl) :
    PE3 X P (.Call (.Name "isinstance" p1) [e, .Tuple [.Name c p2, .Name d p3] kk p4] [] pos) (tIsi2 f g te) := fun B hB =>
  PE.imp (pe_callB call_isiT hg hm (by rfl) (pa_cons (he B hB) (pa_cons (pe_tup (pa_cons (pe_bltn hgc hmc hvc (v := .ty T) rfl hnc hdc) (pa_cons (pe_bltn hgd hmd hvd (v := .ty U) rfl hnd hdd) pa_nil hs4) hs3)) pa_nil hs2) hs) (by decide) (by decide) hs hpl) fun τ H Q ⟨σ, M, oa, Q3, R, w, k⟩ => ⟨σ, M, oa, _, R, w, fun x M1 v H1 q1 R1 f1 r1 => by
    refine ⟨by show 2 ≤ sizeLine; decide, fun q hq => ?_⟩
    have sm : Same H1 (upd H1 q (.tup [.ty T, .ty U])) := fun b u e => by rw [upd_ne (ne_of_none e hq)]; exact e
    obtain ⟨R2, f2⟩ := R1.same sm
    obtain ⟨b, eb, q2⟩ := optW_of q1
    obtain ⟨t, e1, e2⟩ := hf _ _ eb
    have ty := tyN_rep ((r1.fr f2).readable R2) e1
    have P2 : Paired ClsV [V.ty T, .ty U] [.type T, .type U] := .cons (.ty T) (.cons (.ty U) .nil)
    cases b with
    | true =>
      rw [if_pos rfl] at q2
      exact ⟨v, q, _, .type t, _, true, rfl, upd_same, P2, ty, kitAny_cons (kit_ty e2) (fun z => nomatch z) fun _ => rfl, k _ M1 _ _ q2 R2 (f1.trans f2) Rep.bl⟩
    | false =>
      rw [if_neg (by simp)] at q2
      obtain ⟨c', ec, q3⟩ := optW_of q2
      obtain ⟨t', e3, e4⟩ := hg' _ _ ec
      rw [e1] at e3; cases e3
      refine ⟨v, q, _, .type t, _, c', rfl, upd_same, P2, ty, kitAny_cons (kit_ty e2) (fun _ => kitAny_cons (kit_ty e4) (fun z => ?_) fun z => z) (fun z => nomatch z), k _ M1 _ _ q3 R2 (f1.trans f2) Rep.bl⟩
      rw [z]; exact kitAny_nil⟩
/-! ### subscripts -/
def rIx3 : R2T := fun x y k => match x, y with
  | .lst xs, .int i => optW (atI xs i) k
  | .tup xs, .int i => optW (atI xs i) k
  | .str s, .int i => optW (atI s.cps.toList i) fun c => k (.str ⟨#[c]⟩)
  | _, _ => False
theorem atI_map {α β : Type} {F : α → β → Prop} {xs : List α} {vs : List β} {i : Int} {x : α} (hl : vs.length = xs.length) (hg : ∀ (j : Nat) (x : α), xs[j]? = some x → ∃ v, vs[j]? = some v ∧ F x v) (h : atI xs i = some x) : ∃ v, atI vs i = some v ∧ F x v := by
  unfold atI at h ⊢
  rw [hl]
  cases e : ixN xs.length i with
  | none => rw [e] at h; cases h
  | some j =>
    rw [e] at h
    exact hg j x h
theorem Reps.atI {xs : List PV} {vs : List V} {i : Int} {x : PV} (r : Reps K H D xs vs) (h : atI xs i = some x) : ∃ v, L2.atI vs i = some v ∧ Rep K H D x v := atI_map r.len (fun j x e => r.get e) h
theorem ix3_seq : IxR X (lR2 X.K rIx3) := fun va sl pins s σ H x y v u Q I rx ry h hs => by
  obtain ⟨D, px, py, Q3, dD, ra, rb, w, k⟩ := h
  refine ix_seq va sl pins s σ H x y v u Q I rx ry ?_ hs
  unfold rIx3 at w
  split at w
  · obtain ⟨z, ez, q⟩ := optW_of w
    obtain ⟨a, vs, rfl, t, l, rr⟩ := rr_lst ra
    obtain ⟨w, ew, rw'⟩ := Reps.atI rr ez
    exact .inl ⟨a, vs, _, w, rfl, rr_int rb, t, ew, k.here q rw'⟩
  · obtain ⟨z, ez, q⟩ := optW_of w
    obtain ⟨a, vs, rfl, t, l, rr⟩ := rr_tup ra
    obtain ⟨w, ew, rw'⟩ := Reps.atI rr ez
    exact .inr (.inl ⟨a, vs, _, w, rfl, rr_int rb, t, ew, k.here q rw'⟩)
  · obtain ⟨z, ez, q⟩ := optW_of w
    obtain ⟨e, l⟩ := rr_str ra
    refine .inr (.inr ⟨_, _, z, e, rr_int rb, l, ez, k.here q (Rep.str ?_)⟩)
    show 1 ≤ sizeLine; decide
  · exact w.elim
theorem pe3_ix (ha : PB3 X P a ta) (hb : PB3 X P b tb) (hs : PlainIx b := by intro _ _; rfl) : PE3 X P (.Subscript a b pos) (tOp3 rIx3 ta tb) := fun B hB =>
  PE.imp (pe_ix ix3_seq (ha B hB) (hb B hB) hs) fun _ _ _ h => op_lift h
/-! ### slices -/
abbrev TP3 := Sl → Mem → (Option Int → Mem → Prop) → Prop
def liftP (K : PySem.W.Frag) (B : Base) (t : TP3) : TO := fun τ H Q => ∃ σ M oa Q3, R3 K B σ M τ H oa ∧ t σ M Q3 ∧ ∀ x M' H', Q3 x M' → R3 K B σ M' τ H' oa → Fr3 H H' (Zm B.DE σ M oa) (Zm B.DE σ M' oa) → Q x H'
def PP3 (X : Cx) (P : BP) (e : Option Expr) (t : TP3) : Prop := ∀ B, P B → L2.PO X e (liftP X.K B t)
theorem PO.imp {X : Cx} {e : Option Expr} {t t' : TO} (h : L2.PO X e t) (i : ∀ τ H Q, t' τ H Q → t τ H Q) : L2.PO X e t' := ⟨fun pins s σ H Q I w => h.run pins s σ H Q I (i σ H Q w)⟩
def tNoP3 : TP3 := fun _ M Q => Q none M
def tP3 (te : TE3) : TP3 := fun σ M Q => te σ M fun x M1 => intW x fun i => Q (some i) M1
theorem pp3_none : PP3 X P none tNoP3 := fun B hB => PO.imp po_none fun τ H Q ⟨σ, M, oa, Q3, R, w, k⟩ => k none M H w R (Fr3.refl _ _)
theorem pp3_some (h : PE3 X P e te) : PP3 X P (some e) (tP3 te) := fun B hB => PO.imp (po_some (h B hB)) fun τ H Q ⟨σ, M, oa, Q3, R, w, k⟩ => ⟨σ, M, oa, _, R, w, fun x M1 v H1 q1 R1 f1 r1 => by
  obtain ⟨i, ex, q⟩ := intW_of q1
  subst ex
  exact ⟨i, rr_int r1.readable, k (some i) M1 H1 q R1 f1⟩⟩
def cutP {α : Type} (xs : List α) (lo hi : Option Int) : List α := (xs.drop (HT.sIx xs.length 0 lo)).take (HT.sIx xs.length xs.length hi - HT.sIx xs.length 0 lo)
theorem Reps.cut {xs : List PV} {vs : List V} (r : Reps K H D xs vs) (lo hi : Option Int) : Reps K H D (cutP xs lo hi) (cutV vs lo hi) := by
  unfold cutP cutV
  rw [r.len]
  exact (r.drop _).take _
def slW (x : PV) (lo hi : Option Int) (k : PV → Prop) : Prop := match x with
  | .lst xs => k (.lst (cutP xs lo hi))
  | .tup xs => k (.tup (cutP xs lo hi))
  | _ => False
def lSl (K : PySem.W.Frag) : V → Option Int → Option Int → Hp → VK → Prop := fun x lo hi H Q => ∃ D px Q3, (∀ b, D b → Th H b) ∧ RepR K H D px x ∧ slW px lo hi Q3 ∧ Post3 K H D Q3 Q
theorem cut_whole {α : Type} {xs : List α} {lo hi : Option Int} (h : HT.sIx xs.length 0 lo = 0 ∧ HT.sIx xs.length xs.length hi = xs.length) : cutP xs lo hi = xs := by
  unfold cutP
  rw [h.1, h.2]
  simp
theorem sl3_seq : SlR X (lSl X.K) := fun pins s σ H x v vl vu lo hi sl Q I rx hs pl pu h => by
  refine (sl_list.or sl_tupA) pins s σ H x v vl vu lo hi sl Q I rx hs pl pu ?_
  obtain ⟨D, px, Q3, dD, r, w, k⟩ := h
  unfold slW at w
  split at w
  · obtain ⟨a, vs, rfl, t, z, rr⟩ := rr_lst r
    exact .inl ⟨a, vs, rfl, t, fun p hp => k.lst dD w (rr.cut lo hi) (Nat.le_trans (cutV_length _ _ _) z) hp⟩
  · rename_i xs
    have r0 := tup_rep r
    obtain ⟨a, vs, rfl, t, z, rr⟩ := rr_tup r
    refine .inr ⟨a, vs, rfl, t, fun hw => ?_, fun hw p hp => k.tup w (rr.cut lo hi) (Nat.le_trans (cutV_length _ _ _) z) hp⟩
    rw [rr.len] at hw
    rw [cut_whole hw] at w
    exact k.here w r0
  · exact w.elim
def tSl3 (te : TE3) (tl th : TP3) : TE3 := fun σ M Q => te σ M fun x M1 => tl σ M1 fun l M2 => th σ M2 fun u M3 => slW (look M3 x) l u fun z => Q z M3
theorem pe3_slice {lo hi : Option Expr} {tl th : TP3} {p2 : Pos} (he : PB3 X P e te) (hl : PP3 X P lo tl) (hh : PP3 X P hi th) : PE3 X P (.Subscript e (.Slice lo hi none p2) pos) (tSl3 te tl th) := fun B hB =>
  PE.imp (pe_slice sl3_seq (he B hB) (hl B hB) (hh B hB)) fun τ H Q ⟨σ, M, oa, Q3, R, w, k⟩ => ⟨σ, M, oa, _, R, w, fun x M1 v H1 q1 R1 f1 r1 => ⟨σ, M1, oa, _, R1, q1, fun l M2 H2 q2 R2 f2 => ⟨σ, M2, oa, _, R2, q2, fun u M3 H3 q3 R3' f3 =>
    ⟨_, _, _, R3'.mem.dom, ((r1.fr f2).fr f3).readable R3', q3, fun z w H4 qz sm rz => k z M3 w H4 qz (R3'.same sm).1 (((f1.trans f2).trans f3).trans (R3'.same sm).2) rz⟩⟩⟩⟩
end
end T3

namespace T3
open PySem PySem.Spec PyProof.Rows L2

/-! ## calls -/
def intsOf : List PV → Option (List Int)
  | [] => some []
  | .int i :: xs => (intsOf xs).map (i :: ·)
  | _ => none
theorem intsOf_map (ns : List Int) : intsOf (ns.map PV.int) = some ns := by
  induction ns with
  | nil => rfl
  | cons n ns ih => simp [intsOf, ih]
theorem intsOf_eq : ∀ {xs : List PV} {ns : List Int}, intsOf xs = some ns → xs = ns.map PV.int
  | [], ns, h => by cases h; rfl
  | x :: xs, ns, h => by
    cases x <;> first | (cases h; done) | skip
    rename_i i
    unfold intsOf at h
    cases e : intsOf xs with
    | none => rw [e] at h; cases h
    | some ms =>
      rw [e] at h
      cases h
      rw [intsOf_eq e]; rfl
def boolsOf : List PV → Option (List Bool)
  | [] => some []
  | .bl i :: xs => (boolsOf xs).map (i :: ·)
  | _ => none
theorem boolsOf_map (ns : List Bool) : boolsOf (ns.map PV.bl) = some ns := by
  induction ns with
  | nil => rfl
  | cons n ns ih => simp [boolsOf, ih]
theorem boolsOf_eq : ∀ {xs : List PV} {ns : List Bool}, boolsOf xs = some ns → xs = ns.map PV.bl
  | [], ns, h => by cases h; rfl
  | x :: xs, ns, h => by
    cases x <;> first | (cases h; done) | skip
    rename_i i
    unfold boolsOf at h
    cases e : boolsOf xs with
    | none => rw [e] at h; cases h
    | some ms =>
      rw [e] at h
      cases h
      rw [boolsOf_eq e]; rfl
section
variable {K : PySem.W.Frag} {H : Hp} {D : Addr → Prop} {v : V} {X : Cx}
theorem reps_ints : ∀ {ns : List Int} {vs : List V}, Reps K H D (ns.map PV.int) vs → vs = ns.map V.int
  | [], vs, r => by rw [List.map_nil] at r; unfold Reps at r; exact r
  | n :: ns, vs, r => by
    rw [List.map_cons] at r
    unfold Reps at r
    obtain ⟨v, r', e, h1, h2⟩ := r
    subst e
    rw [reps_ints h2, rr_int h1.readable]; rfl
theorem reps_bools : ∀ {ns : List Bool} {vs : List V}, Reps K H D (ns.map PV.bl) vs → vs = ns.map V.bl
  | [], vs, r => by rw [List.map_nil] at r; unfold Reps at r; exact r
  | n :: ns, vs, r => by
    rw [List.map_cons] at r
    unfold Reps at r
    obtain ⟨v, r', e, h1, h2⟩ := r
    subst e
    rw [reps_bools h2, rr_bl h1.readable]; rfl
theorem ints_reps : ∀ ns : List Int, Reps K H D (ns.map PV.int) (ns.map V.int)
  | [] => Reps.nil
  | n :: ns => Reps.cons Rep.int (ints_reps ns)
def lstIntsW (x : PV) (k : List Int → Prop) : Prop := match x with
  | .lst xs => optW (intsOf xs) k
  | _ => False
theorem lstIntsW_of {x : PV} {k : List Int → Prop} (h : lstIntsW x k) : ∃ ns, x = .lst (ns.map .int) ∧ k ns := by
  cases x <;> first | exact h.elim | skip
  obtain ⟨ns, e, q⟩ := optW_of h
  exact ⟨ns, by rw [intsOf_eq e], q⟩
def lstBoolsW (x : PV) (k : List Bool → Prop) : Prop := match x with
  | .lst xs => optW (boolsOf xs) k
  | _ => False
theorem lstBoolsW_of {x : PV} {k : List Bool → Prop} (h : lstBoolsW x k) : ∃ ns, x = .lst (ns.map .bl) ∧ k ns := by
  cases x <;> first | exact h.elim | skip
  obtain ⟨ns, e, q⟩ := optW_of h
  exact ⟨ns, by rw [boolsOf_eq e], q⟩
def rOne (w : PV → (PV → Prop) → Prop) : RnT := fun xs k => match xs with
  | [x] => w x k
  | _ => False
theorem rOne_of {w : PV → (PV → Prop) → Prop} {xs : List PV} {k : PV → Prop} (h : rOne w xs k) : ∃ x, xs = [x] ∧ w x k := by
  unfold rOne at h
  split at h
  · exact ⟨_, rfl, h⟩
  · exact h.elim
def rInt3 : RnT := rOne fun x k => intW x fun i => k (.int i)
theorem call3_int : Call3 X (.type "int") rInt3 := CallR.imp call_int1 fun xs H Q ⟨D, ps, Q3, dD, rs, w, k⟩ => by
  obtain ⟨x, rfl, w⟩ := rOne_of w
  obtain ⟨v, rfl, r⟩ := paired1 rs
  obtain ⟨i, rfl, q⟩ := intW_of w
  rw [rr_int r]
  exact .inl ⟨i, rfl, k.here q Rep.int⟩
def rAbs3 : RnT := rOne fun x k => intW x fun i => k (.int (if i < 0 then -i else i))
theorem call3_abs : Call3 X (.builtin "abs") rAbs3 := CallR.imp call_abs fun xs H Q ⟨D, ps, Q3, dD, rs, w, k⟩ => by
  obtain ⟨x, rfl, w⟩ := rOne_of w
  obtain ⟨v, rfl, r⟩ := paired1 rs
  obtain ⟨i, rfl, q⟩ := intW_of w
  rw [rr_int r]
  exact ⟨i, rfl, k.here q Rep.int⟩
def rMax3 : RnT := fun xs k => match xs with
  | [.int i, .int j] => k (.int (if j > i then j else i))
  | [x] => lstIntsW x fun ns => ns ≠ [] ∧ ∀ m, m ∈ ns → (∀ y, y ∈ ns → y ≤ m) → k (.int m)
  | _ => False
def rMin3 : RnT := fun xs k => match xs with
  | [.int i, .int j] => k (.int (if j < i then j else i))
  | [x] => lstIntsW x fun ns => ns ≠ [] ∧ ∀ m, m ∈ ns → (∀ y, y ∈ ns → m ≤ y) → k (.int m)
  | _ => False
theorem call3_max (hc : X.calm = true) : Call3 X (.builtin "max") rMax3 := CallR.imp ((call_max2 hc).or (cr_max hc)) fun xs H Q ⟨D, ps, Q3, dD, rs, w, k⟩ => by
  unfold rMax3 at w
  split at w
  · obtain ⟨v, u, rfl, r1, r2⟩ := paired2 rs
    rw [rr_int r1, rr_int r2]
    exact .inl ⟨_, _, rfl, k.here w Rep.int⟩
  · obtain ⟨v, rfl, r⟩ := paired1 rs
    obtain ⟨ns, rfl, ne, q⟩ := lstIntsW_of w
    obtain ⟨a, vs, rfl, t, z, rr⟩ := rr_lst r
    rw [reps_ints rr] at t
    exact .inr ⟨a, ns, rfl, t, List.length_pos_iff.mpr ne, fun m hm hy => k.here (q m hm hy) Rep.int⟩
  · exact w.elim
theorem call3_min (hc : X.calm = true) : Call3 X (.builtin "min") rMin3 := CallR.imp ((call_min2 hc).or (cr_min hc)) fun xs H Q ⟨D, ps, Q3, dD, rs, w, k⟩ => by
  unfold rMin3 at w
  split at w
  · obtain ⟨v, u, rfl, r1, r2⟩ := paired2 rs
    rw [rr_int r1, rr_int r2]
    exact .inl ⟨_, _, rfl, k.here w Rep.int⟩
  · obtain ⟨v, rfl, r⟩ := paired1 rs
    obtain ⟨ns, rfl, ne, q⟩ := lstIntsW_of w
    obtain ⟨a, vs, rfl, t, z, rr⟩ := rr_lst r
    rw [reps_ints rr] at t
    exact .inr ⟨a, ns, rfl, t, List.length_pos_iff.mpr ne, fun m hm hy => k.here (q m hm hy) Rep.int⟩
  · exact w.elim
def rSum3 : RnT := rOne fun x k => lstIntsW x fun ns => k (.int ns.sum)
theorem call3_sum (hc : X.calm = true) : Call3 X (.builtin "sum") rSum3 := CallR.imp (cr_sum hc) fun xs H Q ⟨D, ps, Q3, dD, rs, w, k⟩ => by
  obtain ⟨x, rfl, w⟩ := rOne_of w
  obtain ⟨v, rfl, r⟩ := paired1 rs
  obtain ⟨ns, rfl, q⟩ := lstIntsW_of w
  obtain ⟨a, vs, rfl, t, z, rr⟩ := rr_lst r
  rw [reps_ints rr] at t
  exact ⟨a, ns, rfl, t, k.here q Rep.int⟩
def rAll3 : RnT := rOne fun x k => lstBoolsW x fun ns => k (.bl (ns.all id))
def rAny3 : RnT := rOne fun x k => lstBoolsW x fun ns => k (.bl (ns.any id))
theorem call3_all (hc : X.calm = true) : Call3 X (.builtin "all") rAll3 := CallR.imp (cr_all hc) fun xs H Q ⟨D, ps, Q3, dD, rs, w, k⟩ => by
  obtain ⟨x, rfl, w⟩ := rOne_of w
  obtain ⟨v, rfl, r⟩ := paired1 rs
  obtain ⟨ns, rfl, q⟩ := lstBoolsW_of w
  obtain ⟨a, vs, rfl, t, z, rr⟩ := rr_lst r
  rw [reps_bools rr] at t
  exact ⟨a, ns, rfl, t, k.here q Rep.bl⟩
theorem call3_any (hc : X.calm = true) : Call3 X (.builtin "any") rAny3 := CallR.imp (cr_any hc) fun xs H Q ⟨D, ps, Q3, dD, rs, w, k⟩ => by
  obtain ⟨x, rfl, w⟩ := rOne_of w
  obtain ⟨v, rfl, r⟩ := paired1 rs
  obtain ⟨ns, rfl, q⟩ := lstBoolsW_of w
  obtain ⟨a, vs, rfl, t, z, rr⟩ := rr_lst r
  rw [reps_bools rr] at t
  exact ⟨a, ns, rfl, t, k.here q Rep.bl⟩
/-- list(x), tuple(x) of a list or tuple -/
def rList3 : RnT := rOne fun x k => seqW x fun xs => k (.lst xs)
def rTuple3 : RnT := rOne fun x k => seqW x fun xs => k (.tup xs)
theorem seqW_of {x : PV} {k : List PV → Prop} (h : seqW x k) : (∃ xs, x = .lst xs ∧ k xs) ∨ ∃ xs, x = .tup xs ∧ k xs := by
  cases x <;> first | exact h.elim | exact .inl ⟨_, rfl, h⟩ | exact .inr ⟨_, rfl, h⟩
theorem callO3_list : CallO3 X (.type "list") rList3 := CallR.imp call_list_of fun xs H Q ⟨D, ps, Q3, dD, rs, w, k⟩ => by
  obtain ⟨x, rfl, w⟩ := rOne_of w
  obtain ⟨v, rfl, r⟩ := paired1 rs
  rcases seqW_of w with ⟨xs, rfl, q⟩ | ⟨xs, rfl, q⟩
  · obtain ⟨a, vs, rfl, t, z, rr⟩ := rr_lst r
    exact ⟨a, vs, rfl, .inl t, fun l hl => k _ l _ q hl z rr⟩
  · obtain ⟨a, vs, rfl, t, z, rr⟩ := rr_tup r
    exact ⟨a, vs, rfl, .inr t, fun l hl => k _ l _ q hl z rr⟩
theorem call3_tuple : Call3 X (.type "tuple") rTuple3 := CallR.imp call_tuple_of fun xs H Q ⟨D, ps, Q3, dD, rs, w, k⟩ => by
  obtain ⟨x, rfl, w⟩ := rOne_of w
  obtain ⟨v, rfl, r⟩ := paired1 rs
  rcases seqW_of w with ⟨xs, rfl, q⟩ | ⟨xs, rfl, q⟩
  · obtain ⟨a, vs, rfl, t, z, rr⟩ := rr_lst r
    exact ⟨a, vs, rfl, .inl ⟨t, fun l hl => k.tup q rr z hl⟩⟩
  · have r0 := tup_rep r
    obtain ⟨a, vs, rfl, t, z, rr⟩ := rr_tup r
    exact ⟨a, vs, rfl, .inr ⟨t, k.here q r0⟩⟩
/-- gcd of ints -/
def rGcd3 : RnT := fun xs k => match xs with
  | [.int i, .int j] => k (.int ((Nat.gcd i.natAbs j.natAbs : Nat) : Int))
  | _ => False
theorem call3_gcd : Call3 X (.builtin "math.gcd") rGcd3 := CallR.imp cr_gcd fun xs H Q ⟨D, ps, Q3, dD, rs, w, k⟩ => by
  unfold rGcd3 at w
  split at w
  · obtain ⟨v, u, rfl, r1, r2⟩ := paired2 rs
    rw [rr_int r1, rr_int r2]
    exact ⟨_, _, rfl, k.here w Rep.int⟩
  · exact w.elim
end
section
variable {X : Cx} {P : BP} {e a b : Expr} {es : List Expr} {ta tb te : TE3} {t : TA3} {pos p : Pos} {x : Str} {id : String}
/-- f(..), f a module's name for a built-in function -/
theorem pe3_callBf {r : RnT} (hc : Call3 X (.builtin id) r) (hg : Gl X x) (hm : X.mg x = some (.builtin id)) (ha : PAB3 X P (e :: es) t) (hdb : (x == ("__debug__" : Str)) = false := by decide)
    (he : starEach (e :: es) X.env = (false, eval e X.env) :: starEach es X.env := by rfl) (hpl : (backTo pos (starEach es X.env)).any (·.1) = false := by rfl) : PE3 X P (.Call (.Name x p) (e :: es) [] pos) (tCB3 r t) := fun B hB =>
  PE.imp (pe_callBfun hc hg hm (ha B hB) hdb he hpl) fun _ _ _ h => cb_lift h
/-- tuple(range(..)), list(range(..)) -/
theorem PRg.imp {X : Cx} {e : Expr} {t t' : L2.St → Hp → (Int → Int → Hp → Prop) → Prop} (h : PRg X e t) (i : ∀ τ H Q, t' τ H Q → t τ H Q) : PRg X e t' := fun pins s σ H Q I w => h pins s σ H Q I (i σ H Q w)
def tRg13 (te : TE3) : TA3 := fun σ M Q => te σ M fun x M1 => intW x fun i => Q [.int 0, .int i] M1
def tRg23 (ta tb : TE3) : TA3 := fun σ M Q => ta σ M fun x M1 => tb σ M1 fun y M2 => intW x fun i => intW y fun j => Q [.int i, .int j] M2
theorem prg3_1 (hm : X.mg "range" = none) (ha : PE3 X P a ta) (hg : Gl X "range" := by rfl) (na : starEach [a] X.env = (false, eval a X.env) :: starEach [] X.env := by rfl) : ∀ B, P B → PRg X (.Call (.Name "range" p) [a] [] pos) (fun τ H Q => liftA X.K B (tRg13 ta) τ H fun vs H1 => ∃ i j, vs = [.int i, .int j] ∧ Q i j H1) :=
  fun B hB => PRg.imp (prg_1 hg hm (ha B hB) na) fun τ H Q ⟨σ, M, oa, Q3, R, w, k⟩ => ⟨σ, M, oa, _, R, w, fun x M1 v H1 q1 R1 f1 r1 => by
    obtain ⟨i, rfl, q⟩ := intW_of q1
    have ev := rr_int r1.readable
    subst ev
    obtain ⟨i', j', e, q'⟩ := k _ M1 [.int 0, .int i] H1 q R1 f1 (Reps.cons Rep.int (Reps.cons Rep.int Reps.nil))
    cases e
    exact ⟨i, rfl, q'⟩⟩
theorem prg3_2 (hm : X.mg "range" = none) (ha : PE3 X P a ta) (hb : PE3 X P b tb) (hg : Gl X "range" := by rfl) (na : starEach [a, b] X.env = (false, eval a X.env) :: starEach [b] X.env := by rfl)
    (nb : starEach [b] X.env = (false, eval b X.env) :: starEach [] X.env := by rfl) (hp : (backTo pos (starEach [b] X.env)).any (·.1) = false := by rfl) : ∀ B, P B → PRg X (.Call (.Name "range" p) [a, b] [] pos) (fun τ H Q => liftA X.K B (tRg23 ta tb) τ H fun vs H1 => ∃ i j, vs = [.int i, .int j] ∧ Q i j H1) :=
  fun B hB => PRg.imp (prg_2 hg hm (ha B hB) (hb B hB) na nb hp) fun τ H Q ⟨σ, M, oa, Q3, R, w, k⟩ => ⟨σ, M, oa, _, R, w, fun x M1 v H1 q1 R1 f1 r1 => ⟨σ, M1, oa, _, R1, q1, fun y M2 u H2 q2 R2 f2 r2 => by
    obtain ⟨i, rfl, q⟩ := intW_of q2
    obtain ⟨j, rfl, q⟩ := intW_of q
    have ev := rr_int r1.readable
    subst ev
    have eu := rr_int r2.readable
    subst eu
    obtain ⟨i', j', e, q'⟩ := k _ M2 [.int i, .int j] H2 q R2 (f1.trans f2) (Reps.cons Rep.int (Reps.cons Rep.int Reps.nil))
    cases e
    exact ⟨i, j, rfl, rfl, q'⟩⟩⟩
/-- the ints of a range as a tuple -/
def tTupRg3 (t : TA3) : TE3 := fun σ M Q => t σ M fun xs M1 => match xs with
  | [.int i, .int j] => (smW i ∧ smW j ∧ j - i ≤ 16777216) ∧ Q (.tup (intsFrom i (j - i).toNat)) M1
  | _ => False
theorem intsFrom_eq {lo : Int} {n : Nat} : intsFrom lo n = ((List.range n).map fun (i : Nat) => lo + (i : Int)).map PV.int := by
  unfold intsFrom; rw [List.map_map]; rfl
theorem pe3_tupRg {t : TA3} {p2 : Pos} (hc : X.calm = true) (hm : X.mg "tuple" = none) (he : ∀ B, P B → PRg X e (fun τ H Q => liftA X.K B t τ H fun vs H1 => ∃ i j, vs = [.int i, .int j] ∧ Q i j H1)) (hg : Gl X "tuple" := by rfl)
    (na : starEach [e] X.env = (false, eval e X.env) :: starEach [] X.env := by rfl) : PE3 X P (.Call (.Name "tuple" p2) [e] [] pos) (tTupRg3 t) := fun B hB =>
  PE.imp (pe_tupRg hc hg hm (he B hB) na) fun τ H Q ⟨σ, M, oa, Q3, R, w, k⟩ => ⟨σ, M, oa, _, R, w, fun xs M1 vs H1 q1 R1 f1 r1 => by
    split at q1
    · rename_i i j
      obtain ⟨v, u, rfl, h1, h2⟩ := reps2 r1
      have e1 := rr_int h1.readable
      have e2 := rr_int h2.readable
      subst e1; subst e2
      obtain ⟨⟨s1, s2, s3⟩, q⟩ := q1
      have s1' := s1.1; have s1'' := s1.2; have s2' := s2.1; have s2'' := s2.2
      refine ⟨i, j, rfl, ⟨by omega, by omega, by omega, by omega, by omega⟩, fun p hp => ?_⟩
      have sm : Same H1 (upd H1 p (.tup (rgV i j))) := fun b u e => by rw [upd_ne (ne_of_none e hp)]; exact e
      obtain ⟨R2, f2⟩ := R1.same sm
      refine k _ M1 _ _ q R2 (f1.trans f2) ?_
      unfold Rep
      refine ⟨p, rgV i j, rfl, .of upd_same, by rw [rgV_length, sizeLine_eq]; omega, ?_⟩
      have er : rgV i j = ((List.range (j - i).toNat).map fun (n : Nat) => i + (n : Int)).map V.int := by unfold rgV; rw [List.map_map]; rfl
      rw [intsFrom_eq, er]
      exact ints_reps _
    · exact q1.elim⟩
end
end T3

namespace T3
open PySem PySem.Spec PyProof.Rows L2

/-! ## enumerate, zip: of lists (false) or tuples (true) -/
def SqX (K : PySem.W.Frag) (H : Hp) : Bool → Addr → List V → Prop
  | true, a, xs => SqT K H a xs
  | false, a, xs => SqL K H a xs
def IsX (h : Heap) : Bool → Addr → Array Value → Prop
  | true, a, items => h.IsTuple a items
  | false, a, items => h.IsList a items
def ItX (h : Heap) : Bool → Addr → Addr → Nat → Prop
  | true, it, a, i => h.IsTupleIter it a i
  | false, it, a, i => h.IsListIter it a i
def itO : Bool → Addr → Obj
  | true, a => { cls := .type "tuple_iterator", data := .fields #[.ref a, .int 0 0] }
  | false, a => { cls := .type "list_iterator", data := .fields #[.ref a, .int 0 0] }
theorem beginsX (t : Bool) (a : Addr) (items : Array Value) : Begins (.ref a) (itO t a) fun h => IsX h t a items := by
  cases t
  · exact begins_list a items
  · exact begins_tuple a items
theorem drawsX {prog : Program} {w : World} {A : Around} (hh : A.handled = none) (t : Bool) (it a : Addr) (hne : a ≠ it) (items : Array Value) :
    Draws prog w A it [it, a] items.size (fun i v => items[i]? = some v) (fun i h => ItX h t it a i ∧ IsX h t a items) := by
  cases t
  · exact Draws.list hh it a hne items
  · exact Draws.tuple hh it a hne items
theorem ItX.at {h h' : Heap} {t : Bool} {it a : Addr} {i : Nat} (x : ItX h t it a i) (k : ∀ o, h.get? it = some o → h'.get? it = some o) : ItX h' t it a i := by
  cases t
  · exact Heap.IsListIter.at x k
  · exact Heap.IsTupleIter.at x k
theorem ItX.there {h : Heap} {t : Bool} {it a : Addr} {i : Nat} (x : ItX h t it a i) : ∃ o, h.get? it = some o ∧ ∀ v, o.data ≠ .cell v := by
  cases t
  · obtain ⟨o, ho, hc, hd⟩ := x
    exact ⟨o, ho, fun v q => by rw [hd] at q; cases q⟩
  · obtain ⟨o, ho, hc, hd⟩ := x
    exact ⟨o, ho, fun v q => by rw [hd] at q; cases q⟩
theorem ItX.new {h : Heap} {t : Bool} {it a : Addr} (e : h.get? it = some (itO t a)) : ItX h t it a 0 := by
  cases t
  · exact ⟨_, e, rfl, rfl⟩
  · exact ⟨_, e, rfl, rfl⟩
theorem IsX.lt {h : Heap} {t : Bool} {a : Addr} {items : Array Value} (x : IsX h t a items) : a < h.objs.size := by
  cases t
  · obtain ⟨o, ho, _⟩ := x; exact Heap.lt_size ho
  · obtain ⟨o, ho, _⟩ := x; exact Heap.lt_size ho
section
variable {X : Cx} {pins : List (Addr × Obj)} {σ : L2.St} {H : Hp} {s : Shared}
theorem Inv.seqX (I : Inv X pins σ H s) {t : Bool} {a : Addr} {xs : List V} (h : SqX X.K H t a xs) : ∃ its : List Value, Vals xs its ∧ IsX s.heap t a its.toArray ∧ xs.length ≤ sizeLine := by
  cases t
  · obtain ⟨its, r, p, z⟩ := I.list h
    exact ⟨its, r, p.isList, z⟩
  · obtain ⟨its, r, p, z⟩ := I.tuple h
    exact ⟨its, r, p, z⟩
theorem Inv.injX (I : Inv X pins σ H s) {t : Bool} {a : Addr} {xs ys : List V} (h : SqX X.K H t a xs) (h' : SqX X.K H t a ys) : xs = ys := by
  cases t
  · exact I.list_inj h h'
  · exact I.tuple_inj h h'
end
/-- each item in a new pair with its number -/
def JEn (K : PySem.W.Frag) (t : Bool) (a : Addr) : It where
  go := fun i H => ∃ (xs : List V) (x : V), SqX K H t a xs ∧ xs[i]? = some x
  yld := fun i H v H' => ∃ T x, v = .ref T ∧ H T = none ∧ H' = upd H T (.tup [.int (i : Nat), x]) ∧ ∀ xs, SqX K H t a xs → xs[i]? = some x
  stop := fun i H => ∃ xs : List V, SqX K H t a xs ∧ xs.length = i
theorem turnEn {P : Program} {w : World} {K : PySem.W.Frag} {elts : List Expr} {kk : Nat} {tpos : Pos} (t : Bool) (a e it : Addr) (n1 : a ≠ it) (n2 : e ≠ a) :
    Turn P w K (.Tuple elts kk tpos) (JEn K t a) [e, it] e (fun i h => (∃ old, IsEnum h e it ((i : Nat) : Int) old) ∧ ItX h t it a i ∧ e ≠ it) where
  mem := by simp
  obj := fun i h st b hb => by
    obtain ⟨⟨old, he⟩, hi, _⟩ := st
    rcases (by simpa using hb : b = e ∨ b = it) with z | z
    · rw [z]; exact ⟨_, he, fun v q => nomatch q⟩
    · rw [z]; exact hi.there
  keep := fun i h h' st k => by
    obtain ⟨⟨old, he⟩, hi, hne⟩ := st
    exact ⟨⟨old, k e (by simp) _ he⟩, hi.at fun o q => k it (by simp) o q, hne⟩
  item := fun X hP hw hK hc i pins s σ H E I hf st hg => by
    subst hP hw hK
    obtain ⟨⟨old, he⟩, hit, hne⟩ := st
    obtain ⟨xs, x, hq, hx⟩ := hg
    obtain ⟨its, rv, p, hz⟩ := Inv.seqX I hq
    obtain ⟨u, hu, ru⟩ := rv.get hx
    have hil : i < its.length := (List.getElem?_eq_some_iff.mp hu).1
    have hel : e < s.heap.objs.size := Heap.lt_size he
    have hitl : it < s.heap.objs.size := by obtain ⟨o, q, _⟩ := hit.there; exact Heap.lt_size q
    refine wpAny_pyNext_enum_itemD (drawsX (A := X.A.in1) (I.ok.hd hc) t it a n1 its.toArray) he ⟨hit, p⟩ (by simpa using hil) hne (by simp [hne, n2]) fun y h' tk hy ho hit' hT hsz hk => ?_
    have ey : y = u := by
      have hy' : its[i]? = some y := by simpa using hy
      rw [hu] at hy'; cases hy'; rfl
    subst ey
    refine ⟨_, rfl, wpAny_letOwnedTupleGo_enum (s := { s with heap := h', toks := tk + 1 }) ho fun h2 he' sb => ?_⟩
    have hT2 : h2.get? s.heap.objs.size = some { cls := .type "tuple", data := .seq #[.int i tk, y] } := (sb.2 _ (Nat.ne_of_gt hel)).trans hT
    refine ⟨.ref s.heap.objs.size, _, I.turnedNew (t' := tk + 1) (ob := .tup [.int (i : Nat), x]) (ch := [e, it]) (fun b ob hb q => (sb.2 b (fun z => hb (by simp [z]))).trans (hk b ob (fun z => hb (by simp [z])) (fun z => hb (by simp [z])) q)) hf (Nat.le_refl _) ?_, rfl,
      ⟨_, x, rfl, I.hok.fresh (Nat.le_refl _), rfl, fun ys hy => by rw [Inv.injX I hy hq]; exact hx⟩, ⟨⟨y, ?_⟩, hit'.1.at fun o q => (sb.2 it (Ne.symm hne)).trans q, hne⟩, fun b hb => ?_⟩
    · exact ⟨by show 2 ≤ sizeLine; decide, [.int i tk, y], .cons ⟨_, rfl⟩ (.cons ru .nil), ⟨_, hT2, rfl, _, rfl⟩⟩
    · rw [show ((i + 1 : Nat) : Int) = (i : Int) + 1 by omega]; exact he'
    · have hb' : b < s.heap.objs.size := by
        rcases (by simpa using hb : b = e ∨ b = it) with z | z
        · rw [z]; exact hel
        · rw [z]; exact hitl
      rw [upd_ne (Nat.ne_of_lt hb')]
      exact (hf b hb).1
  done := fun X hP hw hK hc i pins s σ H E I hf st hg => by
    subst hP hw hK
    obtain ⟨⟨old, he⟩, hit, hne⟩ := st
    obtain ⟨xs, hq, hx⟩ := hg
    obtain ⟨its, rv, p, hz⟩ := Inv.seqX I hq
    obtain ⟨f0, f1, f2, f3, f4, f5⟩ := hf it (by simp)
    have ei : i = its.toArray.size := by rw [List.size_toArray, ← rv.length, hx]
    exact wpAny_pyNext_enum_endD (drawsX (A := X.A.in1) (I.ok.hd hc) t it a n1 its.toArray) he ⟨ei ▸ hit, p⟩ fun h' eb => ⟨rfl, I.turned (t' := s.toks) (fun b o hb q => eb b o hb q) f0 f1 f3 f4 f5⟩
  self := fun A i s Q E st h => let ⟨⟨_, he⟩, _⟩ := st; wpAny_pyIter_enum he h
theorem enum_beginsX {prog : Program} {w : World} {A : Around} {E : Value → Shared → Prop} {s : Shared} {t : Bool} {a : Addr} {items : Array Value} {Q : Value → Shared → Prop} (hL : IsX s.heap t a items)
    (h : ∀ h', IsEnum h' (s.heap.objs.size + 1) s.heap.objs.size 0 .none → ItX h' t s.heap.objs.size a 0 → (∀ b o, s.heap.get? b = some o → h'.get? b = some o) → Q (.ref (s.heap.objs.size + 1)) { s with heap := h' }) :
    wpAny (model prog w) A (call (.type "enumerate") [.ref a]) Q E s := by
  cases t
  · exact call_enumerate_list hL fun h' h1 h2 _ h3 => h h' h1 h2 h3
  · have B := beginsX true a items
    refine callType_new F.called_enumerate (by decide) (F.typeCall_enumerate_1 _) (F.newCall_enumerate_1 _) (fun obj => F.args_object_init_2 obj _) F.entry_enumerate_new
      (S := fun _ R s => IsX s.heap true a items ∧ R (.ok (.ret (.ref (s.heap.push (itO true a)).objs.size))) { s with heap := (s.heap.push (itO true a)).push { cls := .type "enumerate", data := .fields #[.none, .bool false, .ref s.heap.objs.size, rawInt 0, .none, .none] } }) ?_ ⟨hL, ?_⟩
    · exact .of_wp fun prog w A R s h => by
        obtain ⟨hp, g, d, tk, os⟩ := s; obtain ⟨h1, h⟩ := h
        have hsub := sub_enumerate
        have q1 : ∀ {A' : Around} {E : Value → Shared → Prop} {Q : Value → Shared → Prop}, Q (.ref hp.objs.size) ⟨hp.push (itO true a), g, d, tk, os⟩ → wpAny (model prog w) A' (pyIter (.ref a)) Q E ⟨hp, g, d, tk, os⟩ :=
          fun q => B.iter prog w _ _ ⟨hp, g, d, tk, os⟩ _ h1 q
        wp_walk using q1
        refine wpAny_stack_any fun st => wpAny_pure ?_
        split
        · rename_i c _ _ _ _ _
          cases (c == Value.type "enumerate") <;> (wp_walk using q1; exact ⟨_, rfl, h⟩)
        · wp_walk using q1
          exact ⟨_, rfl, h⟩
    · have hz : (s.heap.push (itO true a)).objs.size = s.heap.objs.size + 1 := Heap.size_push ..
      show _ ∧ _
      rw [hz]
      have he : IsEnum ((s.heap.push (itO true a)).push { cls := .type "enumerate", data := .fields #[.none, .bool false, .ref s.heap.objs.size, rawInt 0, .none, .none] }) (s.heap.objs.size + 1) s.heap.objs.size 0 .none := by
        have := Heap.get?_push_size (s.heap.push (itO true a)) (o := { cls := .type "enumerate", data := .fields #[.none, .bool false, .ref s.heap.objs.size, rawInt 0, .none, .none] }) rfl
        rw [hz] at this; exact this
      exact ⟨⟨_, he, rfl⟩, h _ he (ItX.new (Heap.get?_push_of_some _ (Heap.get?_push_size _ rfl))) fun b o x => Heap.get?_push_of_some _ (Heap.get?_push_of_some _ x)⟩
theorem size_two {n c : Nat} (h : c = n + 1 ∨ c = n) : n ≤ c := by omega
theorem size_five {n c : Nat} (h : c = n + 4 ∨ c = n + 2 ∨ c = n + 3 ∨ c = n ∨ c = n + 1) : n ≤ c := by omega
theorem size_ne {n a : Nat} (h : a < n) : n + 1 ≠ a ∧ a ≠ n + 1 ∧ a ≠ n := by omega
theorem zsep {n a b : Nat} (ha : a < n) (hb : b < n) : ZipSep2 (n + 4) (n + 2) (n + 3) n (n + 1) [n, a] [n + 1, b] := by
  have f : ∀ i j : Nat, i ≠ j → n + i ≠ n + j := by omega
  have g : ∀ i : Nat, n + i ≠ a ∧ n + i ≠ b := by omega
  have m : ∀ {x y z : Addr}, x ≠ y → x ≠ z → x ∉ [y, z] := fun h1 h2 => by simp [h1, h2]
  exact { TIz := f 2 4 (by decide), TOz := f 3 4 (by decide), TITO := f 2 3 (by decide), TIi1 := f 2 0 (by decide), mem1 := by simp, zf1 := m (f 4 0 (by decide)) (g 4).1, Tf1 := m (f 3 0 (by decide)) (g 3).1, TIi2 := f 2 1 (by decide),
          mem2 := by simp, zf2 := m (f 4 1 (by decide)) (g 4).2, Tf2 := m (f 3 1 (by decide)) (g 3).2, sep1_2 := m (f 0 1 (by decide)) (g 0).2, sep2_1 := m (f 1 0 (by decide)) (g 1).1 }
def iEnX (K : PySem.W.Frag) (ta : TA) : TI := fun σ H R => ta σ H fun vs H1 => ∃ a t xs, vs = [.ref a] ∧ SqX K H1 t a xs ∧ R (JEn K t a) H1
theorem pi_enX {X : Cx} {e : Expr} {ta : TA} {p pos tpos : Pos} {elts : List Expr} {kk : Nat} (hg : Gl X "enumerate") (hm : X.mg "enumerate" = none) (ha : PA X [e] ta) (hs : starEach [e] X.env = [(false, eval e X.env)] := by rfl) :
    PI X (.Tuple elts kk tpos) (.Call (.Name "enumerate" p) [e] [] pos) (iEnX X.K ta) := ⟨fun pins s σ H R I h => by
  refine Call_ (ld_blt I hg hm boot_enumerate (PyProof.Rows.callWith_type1 (thn (ha.run pos pins s σ H _ I h) fun us s1 ⟨vs, H1, I1, r1, q1⟩ => ?_) hs rfl))
  obtain ⟨a, t, xs, rfl, hq, q⟩ := q1
  obtain ⟨u, rfl, r⟩ := vals1 r1
  cases r
  obtain ⟨its, rv, p', hz⟩ := Inv.seqX I1 hq
  have hal := p'.lt
  refine enum_beginsX p' fun h' he hit hk => wpAny_pyIter_enum he ?_
  refine ⟨s1.heap.objs.size + 1, [s1.heap.objs.size + 1, s1.heap.objs.size], _, _, H1, rfl, I1.kept (t' := s1.toks) hk, turnEn t a (s1.heap.objs.size + 1) s1.heap.objs.size (Nat.ne_of_lt hal) (size_ne hal).1, ⟨⟨.none, he⟩, hit, Nat.succ_ne_self _⟩, fun b hb => ?_, q⟩
  have hle : s1.heap.objs.size ≤ b := size_two (by simpa using hb)
  exact I1.fpOk hle (I1.hok.fresh hle)⟩
/-! ### zip -/
def JZp (K : PySem.W.Frag) (t u : Bool) (a b : Addr) : It where
  go := fun i H => ∃ (xs ys : List V) (x y : V), SqX K H t a xs ∧ SqX K H u b ys ∧ xs[i]? = some x ∧ ys[i]? = some y
  yld := fun i H v H' => ∃ T x y, v = .ref T ∧ H T = none ∧ H' = upd H T (.tup [x, y]) ∧ (∀ xs, SqX K H t a xs → xs[i]? = some x) ∧ ∀ ys, SqX K H u b ys → ys[i]? = some y
  stop := fun i H => ∃ xs ys : List V, SqX K H t a xs ∧ SqX K H u b ys ∧ i ≤ xs.length ∧ i ≤ ys.length ∧ (i = xs.length ∨ i = ys.length)
theorem turnZp {P : Program} {w : World} {K : PySem.W.Frag} {elts : List Expr} {kk : Nat} {tpos : Pos} {t u : Bool} {a b z TI TO i1 i2 : Addr} (S : ZipSep2 z TI TO i1 i2 [i1, a] [i2, b]) (n1 : a ≠ i1) (n2 : b ≠ i2) :
    Turn P w K (.Tuple elts kk tpos) (JZp K t u a b) [z, TI, TO, i1, i2] z (fun i h => IsZip h z TI TO .none ∧ IsTupOf2 h TI (.ref i1) (.ref i2) ∧ (∃ x y, IsTupOf2 h TO x y) ∧ ItX h t i1 a i ∧ ItX h u i2 b i) where
  mem := by simp
  obj := fun i h st c hc => by
    obtain ⟨hz, hTI, ⟨x, y, hTO⟩, h1, h2⟩ := st
    rcases (by simpa using hc : c = z ∨ c = TI ∨ c = TO ∨ c = i1 ∨ c = i2) with q | q | q | q | q
    · rw [q]; exact ⟨_, hz, fun v q => nomatch q⟩
    · rw [q]; exact ⟨_, hTI, fun v q => nomatch q⟩
    · rw [q]; exact ⟨_, hTO, fun v q => nomatch q⟩
    · rw [q]; exact h1.there
    · rw [q]; exact h2.there
  keep := fun i h h' st k => by
    obtain ⟨hz, hTI, ⟨x, y, hTO⟩, h1, h2⟩ := st
    exact ⟨k z (by simp) _ hz, k TI (by simp) _ hTI, ⟨x, y, k TO (by simp) _ hTO⟩, h1.at fun o q => k i1 (by simp) o q, h2.at fun o q => k i2 (by simp) o q⟩
  item := fun X hP hw hK hc i pins s σ H E I hf st hg => by
    subst hP hw hK
    obtain ⟨hz, hTI, ⟨x0, y0, hTO⟩, h1, h2⟩ := st
    obtain ⟨xs, ys, x, y, hqx, hqy, hx, hy⟩ := hg
    obtain ⟨its, rv, p, _⟩ := Inv.seqX I hqx
    obtain ⟨its2, rv2, p2, _⟩ := Inv.seqX I hqy
    obtain ⟨v, hu, ru⟩ := rv.get hx
    obtain ⟨v2, hu2, ru2⟩ := rv2.get hy
    have l1 : i < its.length := (List.getElem?_eq_some_iff.mp hu).1
    have l2 : i < its2.length := (List.getElem?_eq_some_iff.mp hu2).1
    have lt : ∀ {c : Addr} {o : Obj}, s.heap.get? c = some o → c < s.heap.objs.size := fun e => Heap.lt_size e
    refine wpAny_pyNext_zipD2_item S (drawsX (A := X.A.in1) (I.ok.hd hc) t i1 a n1 its.toArray) (drawsX (A := X.A.in1) (I.ok.hd hc) u i2 b n2 its2.toArray) hz hTI hTO ⟨h1, p⟩ ⟨h2, p2⟩ (by simpa using l1) (by simpa using l2)
      fun y1 y2 h' tk e1 e2 z' TO' st1 st2 hT hsz hk => ?_
    have q1 : y1 = v := by
      have e1' : its[i]? = some y1 := by simpa using e1
      rw [hu] at e1'; cases e1'; rfl
    have q2 : y2 = v2 := by
      have e2' : its2[i]? = some y2 := by simpa using e2
      rw [hu2] at e2'; cases e2'; rfl
    subst q1; subst q2
    refine ⟨_, rfl, wpAny_letOwnedTupleGo_zip (s := { s with heap := h', toks := tk }) z' fun h2' z'' sb => ?_⟩
    have hT2 : h2'.get? s.heap.objs.size = some { cls := .type "tuple", data := .seq #[y1, y2] } := (sb.2 _ (Nat.ne_of_gt (lt hz))).trans hT
    refine ⟨.ref s.heap.objs.size, _, I.turnedNew (t' := tk) (ob := .tup [x, y]) (ch := [z, TI, TO, i1, i2]) (fun c o hb q => (sb.2 c (fun q' => hb (by simp [q']))).trans (hk c o (fun q' => hb (by simp [q'])) (fun q' => hb (by simp [q'])) (fun q' => hb (by simp [q'])) (fun q' => hb (by simp [q'])) q)) hf (Nat.le_refl _) ?_,
      rfl, ⟨_, x, y, rfl, I.hok.fresh (Nat.le_refl _), rfl, fun l hl => by rw [Inv.injX I hl hqx]; exact hx, fun l hl => by rw [Inv.injX I hl hqy]; exact hy⟩, ⟨z'', ?_, ⟨y1, y2, ?_⟩, ?_, ?_⟩, fun c hcm => ?_⟩
    · exact ⟨by show 2 ≤ sizeLine; decide, [y1, y2], .cons ru (.cons ru2 .nil), ⟨_, hT2, rfl, _, rfl⟩⟩
    · exact (sb.2 _ S.TIz).trans (hk _ _ S.TIz S.TITO S.TIi1 S.TIi2 hTI)
    · exact (sb.2 _ S.TOz).trans TO'
    · exact st1.1.at fun o q => (sb.2 _ (Ne.symm S.zi1)).trans q
    · exact st2.1.at fun o q => (sb.2 _ (Ne.symm S.zi2)).trans q
    · have hlt : c < s.heap.objs.size := by
        rcases (by simpa using hcm : c = z ∨ c = TI ∨ c = TO ∨ c = i1 ∨ c = i2) with q | q | q | q | q
        · rw [q]; exact lt hz
        · rw [q]; exact lt hTI
        · rw [q]; exact lt hTO
        · rw [q]; obtain ⟨o, e, _⟩ := h1.there; exact lt e
        · rw [q]; obtain ⟨o, e, _⟩ := h2.there; exact lt e
      rw [upd_ne (Nat.ne_of_lt hlt)]
      exact (hf c hcm).1
  done := fun X hP hw hK hc i pins s σ H E I hf st hg => by
    subst hP hw hK
    obtain ⟨hz, hTI, ⟨x0, y0, hTO⟩, h1, h2⟩ := st
    obtain ⟨xs, ys, hqx, hqy, a1, a2, a3⟩ := hg
    obtain ⟨its, rv, p, _⟩ := Inv.seqX I hqx
    obtain ⟨its2, rv2, p2, _⟩ := Inv.seqX I hqy
    have l1 := rv.length
    have l2 := rv2.length
    exact wpAny_pyNext_zipD2_end S (drawsX (A := X.A.in1) (I.ok.hd hc) t i1 a n1 its.toArray) (drawsX (A := X.A.in1) (I.ok.hd hc) u i2 b n2 its2.toArray) hz hTI hTO ⟨h1, p⟩ ⟨h2, p2⟩ (by simp only [List.size_toArray]; omega) (by simp only [List.size_toArray]; omega) (by simp only [List.size_toArray]; omega)
      fun h' tk hk => ⟨rfl, I.turnedL (t' := tk) (ch := [z, TI, TO, i1, i2]) (fun c o hb q => hk c o (fun q' => hb (by simp [q'])) (fun q' => hb (by simp [q'])) (fun q' => hb (by simp [q'])) (fun q' => hb (by simp [q'])) q) hf⟩
  self := fun A i s Q E st h => wpAny_pyIter_zip st.1 h
def iZpX (K : PySem.W.Frag) (ta : TA) : TI := fun σ H R => ta σ H fun vs H1 => ∃ a b t u xs ys, vs = [.ref a, .ref b] ∧ SqX K H1 t a xs ∧ SqX K H1 u b ys ∧ R (JZp K t u a b) H1
theorem pi_zpX {X : Cx} {e e2 : Expr} {ta : TA} {p pos tpos : Pos} {elts : List Expr} {kk : Nat} (hg : Gl X "zip") (hm : X.mg "zip" = none) (ha : PA X [e, e2] ta)
    (hs : starEach [e, e2] X.env = (false, eval e X.env) :: starEach [e2] X.env := by rfl) (hpl : (backTo pos (starEach [e2] X.env)).any (·.1) = false := by rfl) :
    PI X (.Tuple elts kk tpos) (.Call (.Name "zip" p) [e, e2] [] pos) (iZpX X.K ta) := ⟨fun pins s σ H R I h => by
  refine Call_ (ld_blt I hg hm PyProof.Rows.boot_zip (PyProof.Rows.callWith_type1 (thn (ha.run pos pins s σ H _ I h) fun us s1 ⟨vs, H1, I1, r1, q1⟩ => ?_) hs hpl))
  obtain ⟨a, b, t, u, xs, ys, rfl, hqx, hqy, q⟩ := q1
  obtain ⟨v1, v2, rfl, r1, r2⟩ := vals2 r1
  cases r1; cases r2
  obtain ⟨its, rv, p1, _⟩ := Inv.seqX I1 hqx
  obtain ⟨its2, rv2, p2, _⟩ := Inv.seqX I1 hqy
  have la := p1.lt
  have lb := p2.lt
  refine zip_begins2 (beginsX t a its.toArray) (beginsX u b its2.toArray) p1 p2 fun h' hz hTI hTO h1 h2 hsz hk => wpAny_pyIter_zip hz ?_
  have S := zsep la lb
  refine ⟨s1.heap.objs.size + 4, [s1.heap.objs.size + 4, s1.heap.objs.size + 2, s1.heap.objs.size + 3, s1.heap.objs.size, s1.heap.objs.size + 1], _, _, H1, rfl, I1.kept (t' := s1.toks) hk, turnZp S (size_ne la).2.2 (size_ne lb).2.1, ⟨hz, hTI, ⟨_, _, hTO⟩, ItX.new h1, ItX.new h2⟩, fun c hcm => ?_, q⟩
  have hle : s1.heap.objs.size ≤ c := size_five (by simpa using hcm)
  exact I1.fpOk hle (I1.hok.fresh hle)⟩
end T3

namespace T3
open PySem PySem.Spec PyProof.Rows L2

/-! ## enumerate, zip, stars -/
def enumP : Nat → List PV → List PV
  | _, [] => []
  | i, x :: xs => .tup [.int (i : Int), x] :: enumP (i + 1) xs
theorem enumP_len : ∀ {i : Nat} {xs : List PV}, (enumP i xs).length = xs.length
  | _, [] => rfl
  | i, x :: xs => by simp [enumP, enumP_len]
theorem enumP_get : ∀ {i j : Nat} {xs : List PV} {x : PV}, xs[j]? = some x → (enumP i xs)[j]? = some (.tup [.int ((i + j : Nat) : Int), x])
  | i, j, [], x, h => by simp at h
  | i, 0, y :: ys, x, h => by simp at h; subst h; simp [enumP]
  | i, j + 1, y :: ys, x, h => by
    simp [enumP]
    rw [enumP_get (i := i + 1) (j := j) (by simpa using h)]
    simp; omega
def zipP : List PV → List PV → List PV
  | x :: xs, y :: ys => .tup [x, y] :: zipP xs ys
  | _, _ => []
theorem zipP_len : ∀ {xs ys : List PV}, (zipP xs ys).length = min xs.length ys.length
  | [], ys => by simp [zipP]
  | x :: xs, [] => by simp [zipP]
  | x :: xs, y :: ys => by simp [zipP, zipP_len]
theorem zipP_get : ∀ {j : Nat} {xs ys : List PV} {x y : PV}, xs[j]? = some x → ys[j]? = some y → (zipP xs ys)[j]? = some (.tup [x, y])
  | j, [], ys, x, y, h, h' => by simp at h
  | j, _ :: _, [], x, y, h, h' => by simp at h'
  | 0, a :: xs, b :: ys, x, y, h, h' => by simp at h h'; subst h; subst h'; simp [zipP]
  | j + 1, a :: xs, b :: ys, x, y, h, h' => by simp [zipP]; exact zipP_get (by simpa using h) (by simpa using h')
section
variable {K : PySem.W.Frag} {H : Hp} {D : Addr → Prop}
/-- a sequence that stands -/
theorem seq_at {x : PV} {v : V} (r : Rep K H D x v) {k : List PV → Prop} (h : seqW x k) : ∃ (a : Addr) (t : Bool) (vs : List V) (xs : List PV), v = .ref a ∧ vs.length ≤ sizeLine ∧ Reps K H D xs vs ∧ k xs ∧ ∀ (H' : Hp) (D' : Addr → Prop), Fr3 H H' (.all D) (.all D') → SqX K H' t a vs ∧ Reps K H' D' xs vs := by
  rcases seqW_of h with ⟨xs, e, q⟩ | ⟨xs, e, q⟩
  · subst e
    unfold Rep at r
    obtain ⟨a, vs, e, t, z, rr⟩ := r
    exact ⟨a, false, vs, xs, e, z, rr, q, fun H' D' f => ⟨LstAt.sq (LstAt.fr f t), rr.fr f⟩⟩
  · subst e
    unfold Rep at r
    obtain ⟨a, vs, e, t, z, rr⟩ := r
    exact ⟨a, true, vs, xs, e, z, rr, q, fun H' D' f => ⟨(t.fr f).sq, rr.fr f⟩⟩
end
section
variable {X : Cx} {P : BP} {e e2 : Expr} {es : List Expr} {te : TE3} {t : TA3} {p pos tpos : Pos} {elts : List Expr} {kk : Nat}
def iEn3 (t : TA3) : TI3 := fun σ M Q => t σ M fun xs M1 => match xs with
  | [x] => seqW x fun ys => Q (enumP 0 ys) M1
  | _ => False
theorem pi3_enum (hm : X.mg "enumerate" = none) (ha : PA3 X P [e] t) (hg : Gl X "enumerate" := by rfl) (hs : starEach [e] X.env = [(false, eval e X.env)] := by rfl) : PI3 X P (.Tuple elts kk tpos) (.Call (.Name "enumerate" p) [e] [] pos) (iEn3 t) := fun B hB =>
  PI.imp (pi_enX hg hm (ha B hB) hs) fun τ H R ⟨σ, M, oa, Q3, RR, w, k⟩ => ⟨σ, M, oa, _, RR, w, fun xs M1 vs H1 q1 R1 f1 r1 => by
    split at q1
    · obtain ⟨v, rfl, r⟩ := reps1 r1
      obtain ⟨a, t, us, ys, ev, z, rr, q, st⟩ := seq_at r q1
      refine ⟨a, t, us, by rw [ev], (st H1 _ (Fr3.refl _ _)).1, k _ M1 _ H1 q R1 f1 (by rw [enumP_len, ← rr.len]; exact z) fun H' D' i f d => ?_⟩
      obtain ⟨s1, s2⟩ := st H' D' f
      rw [enumP_len]
      refine ⟨fun hi => ?_, fun hi => ⟨us, s1, by rw [rr.len, hi]⟩⟩
      obtain ⟨y, ey⟩ : ∃ y, ys[i]? = some y := ⟨_, List.getElem?_eq_getElem hi⟩
      obtain ⟨u, eu, ru⟩ := s2.get ey
      refine ⟨⟨us, u, s1, eu⟩, fun x H2 ⟨T, x', e1, hT, e2, e3⟩ => ?_⟩
      have ex := e3 us s1
      rw [eu] at ex
      cases ex
      subst e1; subst e2
      have sm : Same H' (upd H' T (.tup [.int (i : Nat), u])) := fun b o eb => by rw [upd_ne (ne_of_none eb hT)]; exact eb
      refine ⟨sm, _, enumP_get ey, ?_⟩
      unfold Rep
      refine ⟨T, _, rfl, .of upd_same, by show 2 ≤ sizeLine; decide, Reps.cons ?_ (Reps.cons (Rep.fr (Same.fr sm (.all D')) _ ru) Reps.nil)⟩
      rw [Nat.zero_add]; exact Rep.int
    · exact q1.elim⟩
def iZp3 (t : TA3) : TI3 := fun σ M Q => t σ M fun xs M1 => match xs with
  | [x, y] => seqW x fun xs => seqW y fun ys => Q (zipP xs ys) M1
  | _ => False
theorem pi3_zip (hm : X.mg "zip" = none) (ha : PA3 X P [e, e2] t) (hg : Gl X "zip" := by rfl) (hs : starEach [e, e2] X.env = (false, eval e X.env) :: starEach [e2] X.env := by rfl) (hpl : (backTo pos (starEach [e2] X.env)).any (·.1) = false := by rfl) :
    PI3 X P (.Tuple elts kk tpos) (.Call (.Name "zip" p) [e, e2] [] pos) (iZp3 t) := fun B hB =>
  PI.imp (pi_zpX hg hm (ha B hB) hs hpl) fun τ H R ⟨σ, M, oa, Q3, RR, w, k⟩ => ⟨σ, M, oa, _, RR, w, fun xs M1 vs H1 q1 R1 f1 r1 => by
    split at q1
    · rename_i px py
      obtain ⟨v1, v2, rfl, h1, h2⟩ := reps2 r1
      obtain ⟨a, t, us, xs, ev, z, rr, q, st⟩ := seq_at h1 q1
      obtain ⟨b, t', us', ys, ev', z', rr', q, st'⟩ := seq_at h2 q
      refine ⟨a, b, t, t', us, us', by rw [ev, ev'], (st H1 _ (Fr3.refl _ _)).1, (st' H1 _ (Fr3.refl _ _)).1, k _ M1 _ H1 q R1 f1 ?_ fun H' D' i f d => ?_⟩
      · rw [zipP_len]
        have := rr.len
        omega
      obtain ⟨s1, s2⟩ := st H' D' f
      obtain ⟨s1', s2'⟩ := st' H' D' f
      rw [zipP_len]
      have l1 := rr.len
      have l2 := rr'.len
      refine ⟨fun hi => ?_, fun hi => ⟨us, us', s1, s1', by omega, by omega, by omega⟩⟩
      obtain ⟨x, ex⟩ : ∃ x, xs[i]? = some x := ⟨_, List.getElem?_eq_getElem (by omega)⟩
      obtain ⟨y, ey⟩ : ∃ y, ys[i]? = some y := ⟨_, List.getElem?_eq_getElem (by omega)⟩
      obtain ⟨u, eu, ru⟩ := s2.get ex
      obtain ⟨u', eu', ru'⟩ := s2'.get ey
      refine ⟨⟨us, us', u, u', s1, s1', eu, eu'⟩, fun x2 H2 ⟨T, x', y', e1, hT, e2, e3, e4⟩ => ?_⟩
      have g1 := e3 us s1
      have g2 := e4 us' s1'
      rw [eu] at g1; cases g1
      rw [eu'] at g2; cases g2
      subst e1; subst e2
      have sm : Same H' (upd H' T (.tup [u, u'])) := fun b o eb => by rw [upd_ne (ne_of_none eb hT)]; exact eb
      refine ⟨sm, _, zipP_get ex ey, ?_⟩
      unfold Rep
      exact ⟨T, _, rfl, .of upd_same, by show 2 ≤ sizeLine; decide, Reps.cons (Rep.fr (Same.fr sm (.all D')) _ ru) (Reps.cons (Rep.fr (Same.fr sm (.all D')) _ ru') Reps.nil)⟩
    · exact q1.elim⟩
/-- *e, .. in a display -/
def tStar3 (te : TE3) (t : TA3) : TA3 := fun σ M Q => te σ M fun x M1 => seqW x fun xs => t σ M1 fun ys M2 => Q (xs ++ ys) M2
theorem pa3_star (he : PE3 X P e te) (hr : PA3 X P es t) (hs : starEach (.Starred e p :: es) X.env = (true, eval e X.env) :: starEach es X.env := by rfl) : PA3 X P (.Starred e p :: es) (tStar3 te t) := fun B hB =>
  PA.imp (StX.pa_star (he B hB) (hr B hB) hs) fun τ H Q ⟨σ, M, oa, Q3, R, w, k⟩ => ⟨σ, M, oa, _, R, w, fun x M1 v H1 q1 R1 f1 r1 => by
    obtain ⟨a, t', vs, xs, ev, z, rr, q, st⟩ := seq_at r1 q1
    have s1 := (st H1 _ (Fr3.refl _ _)).1
    refine ⟨a, vs, ev, ?_, σ, M1, oa, _, R1, q, fun ys M2 us H2 q2 R2 f2 r2 => k _ M2 _ H2 q2 R2 (f1.trans f2) ((rr.fr f2).app r2)⟩
    cases t'
    · exact .inr s1
    · exact .inl s1⟩
end

/-! ## what is written -/
section
variable {K : PySem.W.Frag} {B : Base} {σ : Sl} {M : Mem} {τ : L2.St} {H : Hp} {oa : Nat → Addr}
theorem RepO.kind {D : Addr → Prop} {x : PV} {a : Addr} (h : RepO K H D x a) : ∃ o, H a = some o ∧ (∀ ps, o ≠ .tbl ps) ∧ (∀ xs, o ≠ .tup xs) ∧ ∀ q c, o ≠ LamX.CodeO c q := by
  cases x with
  | lst xs => obtain ⟨vs, q, z, r⟩ := h; exact ⟨_, q, (fun _ z => by cases z), (fun _ z => by cases z), (fun _ _ z => by unfold LamX.CodeO at z; cases z)⟩
  | dic ks xs => obtain ⟨vs, q, l, z, r⟩ := h; exact ⟨_, q, (fun _ z => by cases z), (fun _ z => by cases z), (fun _ _ z => by unfold LamX.CodeO at z; cases z)⟩
  | _ => exact h.elim
theorem RepM.kind {D : Addr → Prop} {mo : MO} {a : Addr} (h : RepM K H D a mo) : ∃ o, H a = some o ∧ (∀ ps, o ≠ .tbl ps) ∧ (∀ xs, o ≠ .tup xs) ∧ ∀ q c, o ≠ LamX.CodeO c q := by
  cases mo with
  | lst xs => obtain ⟨vs, q, z, r⟩ := h; exact ⟨_, q, (fun _ z => by cases z), (fun _ z => by cases z), (fun _ _ z => by unfold LamX.CodeO at z; cases z)⟩
  | ins C fs => obtain ⟨dx, vs, q, z, r⟩ := h; exact ⟨_, q, (fun _ z => by cases z), (fun _ z => by cases z), (fun _ _ z => by unfold LamX.CodeO at z; cases z)⟩
theorem Tabs.upd {T : List (Addr × Str)} {a : Addr} {o o' : HO} (h : LamX.Tabs T H) (ha : H a = some o) (n1 : ∀ ps, o ≠ .tbl ps) (n2 : ∀ q c, o ≠ LamX.CodeO c q) : LamX.Tabs T (upd H a o') := fun p hp => by
  obtain ⟨ps, h1, h2, h3⟩ := h p hp
  refine ⟨ps, by rw [upd_ne fun z => by rw [z, ha] at h1; exact n1 ps (Option.some.inj h1)]; exact h1, h2, fun pos cv hc => ?_⟩
  obtain ⟨c, e1, e2⟩ := h3 pos cv hc
  exact ⟨c, e1, by rw [upd_ne fun z => by rw [z, ha] at e2; exact n2 _ _ (Option.some.inj e2)]; exact e2⟩
theorem R3.ownFr (R : R3 K B σ M τ H oa) {i : Nat} {x : PV} (e : σ[i]? = some (Slot.own x)) {o : HO} (no : ∀ ps, o ≠ .tbl ps) : Fr3 H (upd H (oa i) o) (.all (Dm B.DE σ M oa)) (.all (Dm B.DE σ M oa)) := by
  obtain ⟨o0, h0, n1, n2, n3⟩ := RepO.kind (R.own i x e).2
  refine ⟨fun b u eb nb _ => by rw [upd_ne fun z => nb (.inr (.inr ⟨i, x, e, z.symm⟩))]; exact eb, fun b ⟨u, q, t⟩ => ?_, fun b xs eb => by rw [upd_ne fun z => by rw [z, h0] at eb; exact n2 xs (Option.some.inj eb)]; exact eb, fun _ d => .inl d, fun _ d => .inl d⟩
  by_cases hb : b = oa i
  · rw [hb]; exact ⟨o, upd_same, no⟩
  · exact ⟨u, by rw [upd_ne hb]; exact q, t⟩
/-- an own thing is written -/
theorem R3.pokeO (R : R3 K B σ M τ H oa) {i : Nat} {x x' : PV} (e : σ[i]? = some (Slot.own x)) {o : HO} (no : ∀ ps, o ≠ .tbl ps) (hx : RepO K (upd H (oa i) o) (Dm B.DE σ M oa) x' (oa i)) :
    R3 K B (σ.set i (.own x')) M τ (upd H (oa i) o) oa ∧ Fr3 H (upd H (oa i) o) (.all (Dm B.DE σ M oa)) (.all (Dm B.DE (σ.set i (.own x')) M oa)) := by
  have hl : i < σ.length := (List.getElem?_eq_some_iff.mp e).1
  have f := R.ownFr e no
  obtain ⟨o0, h0, n1, n2, n3⟩ := RepO.kind (R.own i x e).2
  have ow : ∀ (j : Nat) y, (σ.set i (Slot.own x'))[j]? = some (Slot.own y) → (j = i ∧ y = x') ∨ (j ≠ i ∧ σ[j]? = some (Slot.own y)) := fun j y q => by
    by_cases hj : i = j
    · subst hj
      rw [List.getElem?_set_self hl] at q; cases q; exact .inl ⟨rfl, rfl⟩
    · rw [List.getElem?_set_ne hj] at q; exact .inr ⟨fun z => hj z.symm, q⟩
  have ow' : ∀ (j : Nat) y, (σ.set i (Slot.own x'))[j]? = some (Slot.own y) → ∃ y', σ[j]? = some (Slot.own y') := fun j y q => by
    rcases ow j y q with ⟨z, _⟩ | ⟨_, z⟩
    · exact ⟨x, by rw [z]; exact e⟩
    · exact ⟨y, z⟩
  have le : ∀ b, Dm B.DE (σ.set i (.own x')) M oa b → Dm B.DE σ M oa b := fun b d => by
    rcases d with d | d | ⟨j, y, q, d⟩
    · exact .inl d
    · exact .inr (.inl d)
    · obtain ⟨y', z⟩ := ow' j y q
      exact .inr (.inr ⟨j, y', z, d⟩)
  have f2 : Fr3 H (upd H (oa i) o) (.all (Dm B.DE σ M oa)) (.all (Dm B.DE (σ.set i (.own x')) M oa)) := f.shrink le le
  have nE : ¬ Th B.HE (oa i) := fun z => by
    rcases R.mem.new (oa i) (.inr (.inr ⟨i, x, e, rfl⟩)) with q | q
    · exact (R.nm i x e).2 q
    · exact q z
  refine ⟨⟨⟨fun a mo q => ?_, fun b d => d.elim .inl fun d => .inr (.inl d), fun b u q n t => ?_, fun b n => f.live b (R.mem.live b n), fun b xs q => f.tups b xs (R.mem.tups b xs q), fun b d => R.mem.new b (le b d), R.mem.newM, fun b d => f.live b (R.mem.dom b (le b d)), Tabs.upd R.mem.tabs h0 n1 n3⟩,
    by simp [R.len], fun j y q => ?_, fun j y q => ?_, fun j k y z q1 q2 q => ?_, fun j y q => ?_⟩, f2⟩
  · exact (R.mem.mem a mo q).fr f2 (by rw [upd_ne fun z => by rw [z, (R.nm i x e).1] at q; cases q])
  · have h1 := R.mem.keep b u q n t
    rw [upd_ne fun z => by
      rw [z] at q h1
      rw [h0] at h1; cases h1
      exact nE ⟨_, q, n1⟩]
    exact h1
  · have hj : i ≠ j := fun z => by
      subst z
      rw [List.getElem?_set_self hl] at q; cases q
    rw [List.getElem?_set_ne hj] at q
    obtain ⟨v, q', r⟩ := R.slot j y q
    exact ⟨v, q', r.fr f2⟩
  · rcases ow j y q with ⟨z, z'⟩ | ⟨z, z'⟩
    · subst z; subst z'
      exact ⟨(R.own j x e).1, hx.sub le⟩
    · obtain ⟨q', r⟩ := R.own j y z'
      exact ⟨q', r.fr f2 (by rw [upd_ne fun h => z (R.inj j i y x z' e h)])⟩
  · obtain ⟨y', z1⟩ := ow' j y q1
    obtain ⟨y'', z2⟩ := ow' k z q2
    exact R.inj j k y' y'' z1 z2 q
  · obtain ⟨y', z1⟩ := ow' j y q
    exact R.nm j y' z1
/-- the memory is written -/
theorem R3.pokeM (R : R3 K B σ M τ H oa) {a : Addr} {mo mo' : MO} (e : M a = some mo) {o : HO} (no : ∀ ps, o ≠ .tbl ps) (hx : (∀ (x : PV) v, Rep K H (Dm B.DE σ M oa) x v → Rep K (upd H a o) (Dm B.DE σ M oa) x v) → RepM K (upd H a o) (Dm B.DE σ M oa) a mo') :
    R3 K B σ (M.put a mo') τ (upd H a o) oa ∧ Fr3 H (upd H a o) (Zm B.DE σ M oa) (Zm B.DE σ (M.put a mo') oa) := by
  obtain ⟨o0, h0, n1, n2, n3⟩ := RepM.kind (R.mem.mem a mo e)
  have pm : ∀ b, (∃ mo, (M.put a mo') b = some mo) ↔ ∃ mo, M b = some mo := fun b => by
    by_cases hb : b = a
    · subst hb; simp [Mem.put_same, e]
    · rw [Mem.put_ne hb]
  have eD : Dm B.DE σ (M.put a mo') oa = Dm B.DE σ M oa := by
    funext b
    unfold Dm
    rw [pm b]
  have lv : ∀ b, Th H b → Th (upd H a o) b := fun b ⟨u, q, t⟩ => by
    by_cases hb : b = a
    · rw [hb]; exact ⟨o, upd_same, no⟩
    · exact ⟨u, by rw [upd_ne hb]; exact q, t⟩
  have tp : ∀ b xs, H b = some (.tup xs) → upd H a o b = some (.tup xs) := fun b xs eb => by
    rw [upd_ne fun z => by rw [z, h0] at eb; exact n2 xs (Option.some.inj eb)]; exact eb
  have f : Fr3 H (upd H a o) (Zm B.DE σ M oa) (Zm B.DE σ M oa) := ⟨fun b u eb nb _ => by rw [upd_ne fun z => nb ⟨mo, by rw [z]; exact e⟩]; exact eb, lv, tp, fun _ d => .inl d, fun _ d => .inl d⟩
  have f2 : Fr3 H (upd H a o) (Zm B.DE σ M oa) (Zm B.DE σ (M.put a mo') oa) := f.shrink (fun b d => by
    have d' : Dm B.DE σ (M.put a mo') oa b := d
    rw [eD] at d'; exact d') fun b d => (pm b).mp d
  refine ⟨⟨?_, R.len, fun i x q => ?_, fun i x q => ?_, R.inj, fun i x q => ⟨?_, (R.nm i x q).2⟩⟩, f2⟩
  · rw [eD]
    refine ⟨fun b mo2 q => ?_, fun b d => R.mem.sub b (d.elim .inl fun d => .inr ((pm b).mp d)), fun b u q n t => ?_, fun b n => lv b (R.mem.live b n), fun b xs q => tp b xs (R.mem.tups b xs q), R.mem.new, fun b d => R.mem.newM b ((pm b).mp d), fun b d => lv b (R.mem.dom b d), Tabs.upd R.mem.tabs h0 n1 n3⟩
    · by_cases hb : b = a
      · subst hb
        rw [Mem.put_same] at q; cases q
        exact hx fun x v r => r.fr f
      · rw [Mem.put_ne hb] at q
        exact (R.mem.mem b mo2 q).fr f (by rw [upd_ne hb])
    · have h1 := R.mem.keep b u q n t
      rw [upd_ne fun z => by
        subst z
        rw [h0] at h1; cases h1
        rcases R.mem.newM b ⟨mo, e⟩ with ⟨mo2, z⟩ | z
        · rw [n] at z; cases z
        · exact z ⟨_, q, n1⟩]
      exact h1
  · obtain ⟨v, q', r⟩ := R.slot i x q
    refine ⟨v, q', ?_⟩
    rw [eD]; exact r.fr f
  · obtain ⟨q', r⟩ := R.own i x q
    refine ⟨q', ?_⟩
    rw [eD]
    exact r.fr f (by rw [upd_ne fun z => by have := (R.nm i x q).1; rw [z, e] at this; cases this])
  · rw [Mem.put_ne fun z => by have := (R.nm i x q).1; rw [z, e] at this; cases this]
    exact (R.nm i x q).1
end
end T3

namespace T3
open PySem PySem.Spec PyProof.Rows L2

/-! ## statements that write lists -/
/-- a list method without an answer: receiver's items, arguments -/
abbrev W1 := List PV → List PV → (List PV → Prop) → Prop
def lM (K : PySem.W.Frag) (w : W1) : V → List V → Hp → VK → Prop := fun x vs H Q => ∃ (D : Addr → Prop) (l : Addr) (xs : List PV) (us : List V) (ps : List PV) (Q3 : List PV → Prop), x = .ref l ∧ H l = some (.lst us) ∧ us.length ≤ sizeLine ∧ Reps K H D xs us ∧ Reps K H D ps vs ∧ w xs ps Q3 ∧
  ∀ ys us', Q3 ys → Reps K H D ys us' → us'.length ≤ sizeLine → Q .non (upd H l (.lst us'))
def wApp : W1 := fun xs ps k => match ps with
  | [p] => xs.length < 16777216 ∧ k (xs ++ [p])
  | _ => False
theorem MtR.imp {X : Cx} {id : String} {r r' : V → List V → Hp → VK → Prop} (h : MtR X id r) (i : ∀ x vs H Q, r' x vs H Q → r x vs H Q) : MtR X id r' := fun pins s σ H x xs v us Q I rx rs q => h pins s σ H x xs v us Q I rx rs (i x xs H Q q)
section
variable {X : Cx}
theorem mt3_append : MtR X "list.append" (lM X.K wApp) := MtR.imp (r := rAppend) mt_append fun x vs H Q ⟨D, l, xs, us, ps, Q3, ex, hl, z, r, rp, w, k⟩ => by
  unfold wApp at w
  split at w
  · rename_i p
    obtain ⟨v, rfl, rv⟩ := reps1 rp
    have hz : us.length < sizeLine := by rw [r.len, sizeLine_eq]; exact w.1
    exact ⟨l, us, v, ex, rfl, hl, hz, k _ _ w.2 (r.app (Reps.cons rv Reps.nil)) (by rw [List.length_append]; exact hz)⟩
  · exact w.elim
end
def ownLst (σ : Sl) (i : Nat) (k : List PV → Prop) : Prop := match σ[i]? with
  | some (.own (.lst xs)) => k xs
  | _ => False
theorem ownLst_of {σ : Sl} {i : Nat} {k : List PV → Prop} (h : ownLst σ i k) : ∃ xs, σ[i]? = some (.own (.lst xs)) ∧ k xs := by
  unfold ownLst at h
  split at h
  · rename_i xs e; exact ⟨xs, e, h⟩
  · exact h.elim
def memLst (x : PV) (M : Mem) (k : Addr → List PV → Prop) : Prop := match x with
  | .raw (.ref a) => (match M a with
    | some (.lst xs) => k a xs
    | _ => False)
  | _ => False
theorem memLst_of {x : PV} {M : Mem} {k : Addr → List PV → Prop} (h : memLst x M k) : ∃ a xs, x = .raw (.ref a) ∧ M a = some (.lst xs) ∧ k a xs := by
  unfold memLst at h
  split at h
  · rename_i a
    split at h
    · rename_i xs e; exact ⟨a, xs, rfl, e, h⟩
    · exact h.elim
  · exact h.elim
section
variable {K : PySem.W.Frag} {B : Base} {σ : Sl} {M : Mem} {τ : L2.St} {H : Hp} {oa : Nat → Addr}
/-- an own list takes other items -/
theorem R3.setOwn (R : R3 K B σ M τ H oa) {i : Nat} {x : PV} {ys : List PV} {us : List V} (e : σ[i]? = some (Slot.own x)) (r : Reps K H (Dm B.DE σ M oa) ys us) (z : us.length ≤ sizeLine) :
    R3 K B (σ.set i (.own (.lst ys))) M τ (upd H (oa i) (.lst us)) oa ∧ Fr3 H (upd H (oa i) (.lst us)) (.all (Dm B.DE σ M oa)) (.all (Dm B.DE (σ.set i (.own (.lst ys))) M oa)) :=
  R.pokeO e (fun _ z => by cases z) ⟨us, upd_same, z, r.fr (R.ownFr e fun _ z => by cases z)⟩
theorem R3.setMem (R : R3 K B σ M τ H oa) {a : Addr} {mo : MO} {ys : List PV} {us : List V} (e : M a = some mo) (r : Reps K H (Dm B.DE σ M oa) ys us) (z : us.length ≤ sizeLine) :
    R3 K B σ (M.put a (.lst ys)) τ (upd H a (.lst us)) oa ∧ Fr3 H (upd H a (.lst us)) (Zm B.DE σ M oa) (Zm B.DE σ (M.put a (.lst ys)) oa) :=
  R.pokeM e (fun _ z => by cases z) fun tr => by
    refine ⟨us, upd_same, z, ?_⟩
    have go : ∀ {xs : List PV} {vs : List V}, Reps K H (Dm B.DE σ M oa) xs vs → Reps K (upd H a (.lst us)) (Dm B.DE σ M oa) xs vs := by
      intro xs
      induction xs with
      | nil => intro vs h; unfold Reps at h ⊢; exact h
      | cons x xs ih =>
        intro vs h
        unfold Reps at h
        obtain ⟨v, r', e1, h1, h2⟩ := h
        subst e1
        exact Reps.cons (tr x v h1) (ih h2)
    exact go r
end
section
variable {X : Cx} {P : BP} {e o ix a b : Expr} {es : List Expr} {te to ti ta tb : TE3} {t : TA3} {pos pos' p apos cpos : Pos} {name x : Str} {id : String} {w : W1}
/-- x.m(..), the list that slot i owns -/
def tMtO3 (i : Nat) (w : W1) (t : TA3) : TS3 := fun D σ M => ownLst σ i fun xs => t σ M fun ps M1 => w xs ps fun ys => D.nx (σ.set i (.own (.lst ys))) M1
theorem ps3_mtO (i : Nat) (slot : PySem.Slot "list" name id) (hty : typeOf (.builtin id) = pure (.type "method_descriptor")) (hm : MtR X id (lM X.K w)) (ha : PA3 X P (e :: es) t) (hN : X.N[i]? = some x := by rfl)
    (hv : Vis X.env.scope x := by first | exact Or.inl rfl | exact Or.inr (Or.inl rfl) | exact Or.inr (Or.inr rfl)) (hd : (x == ("__debug__" : Str)) = false := by decide) (hcd : (x == ("__classdict__" : Str)) = false := by decide)
    (hbase : attributeBase (.Name x p) name X.env (eval (.Name x p) X.env) = eval (.Name x p) X.env := by rfl)
    (hfew : ((backTo cpos (starEach (e :: es) X.env)).all (fun x => !x.1) && (backToKw cpos (keywordEach [] X.env)).all (fun x => x.1.isSome)
      && decide ((e :: es).length + ([] : List Keyword).length + (if ([] : List Keyword).isEmpty then 0 else 1) < 30)) = true := by rfl)
    (hline : (apos.endLine == cpos.line) = true := by rfl) (hs : starEach (e :: es) X.env = (false, eval e X.env) :: starEach es X.env := by rfl) (hplain : (backTo cpos (starEach es X.env)).any (·.1) = false := by rfl)
    (hsw : swapsWith (.Call (.Attribute (.Name x p) name apos) (e :: es) [] cpos) none pos.line X.env = pure false := by rfl) :
    PS3 X P (.Expr (.Call (.Attribute (.Name x p) name apos) (e :: es) [] cpos) pos) (tMtO3 i w t) := fun B hB =>
  PS.imp (ps_expr (pe_bm PySem.F.plainAttrs_list slot hty hm (pe_var hN hv hd hcd) (ha B hB) hbase hfew hline hs hplain) hsw) fun D τ H ⟨σ, M, oa, E, R, q, k⟩ => by
    obtain ⟨xs, ex, q⟩ := ownLst_of q
    obtain ⟨eτ, us, h0, z0, r0⟩ := R.own i _ ex
    refine ⟨_, eτ, .inl ⟨rfl, us, .of h0⟩, σ, M, oa, _, R, q, fun ps M1 vs H1 q1 R1 f1 r1 => ?_⟩
    obtain ⟨_, us, h1, z1, r2⟩ := R1.own i _ ex
    refine ⟨_, oa i, xs, us, ps, _, rfl, h1, z1, r2, r1, q1, fun ys us' q2 r3 z3 => ?_⟩
    obtain ⟨R2, f2⟩ := R1.setOwn ex r3 z3
    exact k.nx _ _ _ _ _ q2 R2 (f1.all.trans f2)
/-- o.m(..), a list of the memory -/
def tMtM3 (to : TE3) (w : W1) (t : TA3) : TS3 := fun D σ M => to σ M fun r M0 => memLst r M0 fun _ _ => t σ M0 fun ps M1 => memLst r M1 fun a xs => w xs ps fun ys => D.nx σ (M1.put a (.lst ys))
theorem ps3_mtM (slot : PySem.Slot "list" name id) (hty : typeOf (.builtin id) = pure (.type "method_descriptor")) (hm : MtR X id (lM X.K w)) (ho : PE3 X P o to) (ha : PA3 X P (e :: es) t)
    (hbase : attributeBase o name X.env (eval o X.env) = eval o X.env := by rfl)
    (hfew : ((backTo cpos (starEach (e :: es) X.env)).all (fun x => !x.1) && (backToKw cpos (keywordEach [] X.env)).all (fun x => x.1.isSome)
      && decide ((e :: es).length + ([] : List Keyword).length + (if ([] : List Keyword).isEmpty then 0 else 1) < 30)) = true := by rfl)
    (hline : (apos.endLine == cpos.line) = true := by rfl) (hs : starEach (e :: es) X.env = (false, eval e X.env) :: starEach es X.env := by rfl) (hplain : (backTo cpos (starEach es X.env)).any (·.1) = false := by rfl)
    (hsw : swapsWith (.Call (.Attribute o name apos) (e :: es) [] cpos) none pos.line X.env = pure false := by rfl) :
    PS3 X P (.Expr (.Call (.Attribute o name apos) (e :: es) [] cpos) pos) (tMtM3 to w t) := fun B hB =>
  PS.imp (ps_expr (pe_bm PySem.F.plainAttrs_list slot hty hm (ho B hB) (ha B hB) hbase hfew hline hs hplain) hsw) fun D τ H ⟨σ, M, oa, E, R, q, k⟩ => ⟨σ, M, oa, _, R, q, fun r M0 v H0 q0 R0 f0 r0 => by
    obtain ⟨a, xs, e1, e2, q0⟩ := memLst_of q0
    subst e1
    have ev : v = .ref a := r0
    subst ev
    obtain ⟨us, h1, z1, _⟩ := R0.mem.mem a _ e2
    refine ⟨.inl ⟨rfl, us, .of h1⟩, σ, M0, oa, _, R0, q0, fun ps M1 vs H1 q1 R1 f1 r1 => ?_⟩
    obtain ⟨a', xs, e3, e4, q1⟩ := memLst_of q1
    cases e3
    obtain ⟨us, h1, z1, r2⟩ := R1.mem.mem a _ e4
    refine ⟨_, a, xs, us, ps, _, rfl, h1, z1, r2, r1, q1, fun ys us' q2 r3 z3 => ?_⟩
    obtain ⟨R2, f2⟩ := R1.setMem e4 r3 z3
    exact k.nx _ _ _ _ _ q2 R2 ((f0.trans f1).trans f2).all⟩
/-- x[i] = e, the list that slot k owns -/
def tIxO3 (i : Nat) (te ti : TE3) : TS3 := fun D σ M => ownLst σ i fun xs => te σ M fun v M1 => ti σ M1 fun y M2 => intW y fun j => optW (ixN xs.length j) fun n => D.nx (σ.set i (.own (.lst (xs.set n v)))) M2
/-- o[i] = e, a list of the memory -/
def tIxM3 (te to ti : TE3) : TS3 := fun D σ M => te σ M fun v M1 => to σ M1 fun r M2 => ti σ M2 fun y M3 => intW y fun j => memLst r M3 fun a xs => optW (ixN xs.length j) fun n => D.nx σ (M3.put a (.lst (xs.set n v)))
theorem ps3_ixO (i : Nat) (he : PE3 X P e te) (hi : PE3 X P ix ti) (hN : X.N[i]? = some x := by rfl)
    (hv : Vis X.env.scope x := by first | exact Or.inl rfl | exact Or.inr (Or.inl rfl) | exact Or.inr (Or.inr rfl)) (hd : (x == ("__debug__" : Str)) = false := by decide) (hcd : (x == ("__classdict__" : Str)) = false := by decide)
    (hasg : ∀ v, assign (.Subscript (.Name x p) ix pos') X.env v = (do
      let ov ← holding [v] (eval (.Name x p) X.env)
      let iv ← holding [v, ov] (eval ix X.env)
      standAt pos'
      holding [v, ov, iv] (setItem ov iv v)
      release [v, ov, iv] []) := by intro _; rfl)
    (hs : swapsWithSole [.Subscript (.Name x p) ix pos'] e pos.line X.env = pure false := by rfl) (hw : swappedStores [.Subscript (.Name x p) ix pos'] e X.env = pure none := by rfl)
    (h1 : (assignEach [.Subscript (.Name x p) ix pos'] X.env).map (·.2) = [assign (.Subscript (.Name x p) ix pos') X.env] := by rfl) : PS3 X P (.Assign [.Subscript (.Name x p) ix pos'] e pos) (tIxO3 i te ti) := fun B hB =>
  PS.imp (ps_asg (he B hB) (pg_sub (pe_var hN hv hd hcd) (hi B hB) set_list hasg) hs hw h1) fun D τ H ⟨σ, M, oa, E, R, q, k⟩ => by
    obtain ⟨xs, ex, q⟩ := ownLst_of q
    refine ⟨σ, M, oa, _, R, q, fun v M1 u H1 q1 R1 f1 r1 => ⟨_, (R1.own i _ ex).1, σ, M1, oa, _, R1, q1, fun y' M2 w H2 q2 R2 f2 r2 => ?_⟩⟩
    obtain ⟨j, rfl, q2⟩ := intW_of q2
    obtain ⟨n, en, q2⟩ := optW_of q2
    obtain ⟨_, us, h2, z2, r3⟩ := R2.own i _ ex
    obtain ⟨R3', f3⟩ := R2.setOwn ex (r3.set n (r1.fr f2)) (by rw [List.length_set]; exact z2)
    exact ⟨oa i, us, j, n, rfl, rr_int r2.readable, h2, by rw [r3.len]; exact en, k.nx _ _ _ _ _ q2 R3' ((f1.all.trans f2.all).trans f3)⟩
theorem ps3_ixM (he : PE3 X P e te) (ho : PE3 X P o to) (hi : PE3 X P ix ti)
    (hasg : ∀ v, assign (.Subscript o ix pos') X.env v = (do
      let ov ← holding [v] (eval o X.env)
      let iv ← holding [v, ov] (eval ix X.env)
      standAt pos'
      holding [v, ov, iv] (setItem ov iv v)
      release [v, ov, iv] []) := by intro _; rfl)
    (hs : swapsWithSole [.Subscript o ix pos'] e pos.line X.env = pure false := by rfl) (hw : swappedStores [.Subscript o ix pos'] e X.env = pure none := by rfl)
    (h1 : (assignEach [.Subscript o ix pos'] X.env).map (·.2) = [assign (.Subscript o ix pos') X.env] := by rfl) : PS3 X P (.Assign [.Subscript o ix pos'] e pos) (tIxM3 te to ti) := fun B hB =>
  PS.imp (ps_asg (he B hB) (pg_sub (ho B hB) (hi B hB) set_list hasg) hs hw h1) fun D τ H ⟨σ, M, oa, E, R, q, k⟩ => ⟨σ, M, oa, _, R, q, fun v M1 u H1 q1 R1 f1 r1 => ⟨σ, M1, oa, _, R1, q1, fun r M2 u2 H2 q2 R2 f2 r2 => ⟨σ, M2, oa, _, R2, q2, fun y' M3 w H3 q3 R3' f3 r3 => by
    obtain ⟨j, rfl, g1⟩ := intW_of q3
    obtain ⟨a, xs, e1, e2, g2⟩ := memLst_of g1
    subst e1
    have ev : u2 = .ref a := r2
    subst ev
    obtain ⟨n, en, g3⟩ := optW_of g2
    obtain ⟨us, h2, z2, r4⟩ := R3'.mem.mem a _ e2
    obtain ⟨R4, f4⟩ := R3'.setMem e2 (r4.set n ((r1.fr f2).fr f3)) (by rw [List.length_set]; exact z2)
    exact ⟨a, us, j, n, rfl, rr_int r3.readable, h2, by rw [r4.len]; exact en, k.nx _ _ _ _ _ g3 R4 (((f1.trans f2).trans f3).trans f4).all⟩⟩⟩⟩
/-- x op= e, ints -/
def tAug3 (i : Nat) (f : Int → Int → Int) (te : TE3) : TS3 := fun D σ M => slotW σ i fun x => intW x fun j => te σ M fun y M1 => intW y fun n => D.nx (σ.set i (.val (.int (f j n)))) M1
theorem ps3_aug (i : Nat) {op : Operator} {f : Int → Int → Int} {px : Pos} (hN : X.N.Nodup) (ho : PIp X op (ipI f)) (he : PE3 X P e te) (hi : X.N[i]? = some x := by rfl) (hx : Loc X.env.scope x := by first | exact Or.inl rfl | exact Or.inr rfl)
    (hf : X.fn x = true ∨ X.env.scope.names.lookup x = some .local := by first | exact .inl rfl | exact .inr rfl | assumption) : PS3 X P (.AugAssign (.Name x px) op e pos) (tAug3 i f te) := fun B hB =>
  PS.imp (ps_aug hN hi hx (he B hB) ho hf) fun D τ H ⟨σ, M, oa, E, R, q, k⟩ => by
    unfold tAug3 slotW at q
    split at q
    · rename_i y ey
      obtain ⟨j, rfl, q⟩ := intW_of q
      obtain ⟨v, ev, rv⟩ := R.slot i _ ey
      rw [rr_int rv.readable] at ev
      refine ⟨_, ev, σ, M, oa, _, R, q, fun y M1 u H1 q1 R1 f1 r1 => ?_⟩
      obtain ⟨n, rfl, q1⟩ := intW_of q1
      obtain ⟨R2, f2⟩ := R1.put (k := i) (x := .int (f j n)) (v := .int (f j n)) Rep.int
      exact ⟨j, n, rfl, rr_int r1.readable, k.nx _ _ _ _ _ q1 R2 (f1.trans f2).all⟩
    · exact q.elim
/-- o[i] op= e, a list of ints of the memory -/
def tAugM3 (f : Int → Int → Int) (to ti te : TE3) : TS3 := fun D σ M => to σ M fun r M1 => ti σ M1 fun y M2 => intW y fun j => memLst r M2 fun _ xs0 => optW (atI xs0 j) fun x => intW x fun m => te σ M2 fun z M3 => intW z fun n => memLst r M3 fun a xs => optW (ixN xs.length j) fun q => D.nx σ (M3.put a (.lst (xs.set q (.int (f m n)))))
theorem get_list : PGet X (rIxL X.K) := fun pins s σ H o i ov iv Q I ro ri h => by
  obtain ⟨p, xs, k, z, rfl, rfl, hq, he, q⟩ := h
  cases ro
  obtain ⟨t, rfl⟩ := ri
  obtain ⟨its, r, pl, hz⟩ := I.list hq
  obtain ⟨j, h1, h2, h3, h4, h5⟩ := atI_get he
  obtain ⟨w, ew, rw'⟩ := r.get h2
  have hl := r.length
  have hn := line63
  have fin : EP X pins σ Q w s := ⟨z, H, I, rw', q⟩
  by_cases h0 : 0 ≤ k
  · have hj : k.toNat = j := by
      rw [seqIndex_of h0 h5] at h1
      exact Option.some.inj h1
    exact wpAny_mono (wpAny_getItem_list (Q := fun r s' => r = w ∧ EP X pins σ Q r s') pl.isList h0 (by omega) (by rw [hj]; simpa using ew) ⟨rfl, fin⟩) (fun _ _ h => h.2) fun _ _ h => h
  · have hj : (k + (its.toArray.size : Int)).toNat = j := by
      rw [seqIndex_neg (by omega) h4] at h1
      rw [List.size_toArray, ← hl]
      exact Option.some.inj h1
    exact wpAny_mono (wpAny_getItem_list_neg (Q := fun r s' => r = w ∧ EP X pins σ Q r s') pl.isList (by omega) (by rw [List.size_toArray] <;> omega) (by omega) (by rw [hj]; simpa using ew) ⟨rfl, fin⟩) (fun _ _ h => h.2) fun _ _ h => h
theorem ps3_augM {op : Operator} {f : Int → Int → Int} (hop : PIp X op (ipI f)) (ho : PE3 X P o to) (hi : PE3 X P ix ti) (he : PE3 X P e te)
    (hasg : ∀ ov iv new, augStore ix ov iv new = (do holding [new, ov, iv] (setItem ov iv new); release [new, ov, iv] []; pure .next) := by intros; rfl) : PS3 X P (.AugAssign (.Subscript o ix pos') op e pos) (tAugM3 f to ti te) := fun B hB =>
  PS.imp (ps_augS (ho B hB) (hi B hB) get_list (he B hB) hop set_list hasg) fun D τ H ⟨σ, M, oa, E, R, q, k⟩ => ⟨σ, M, oa, _, R, q, fun r M1 u1 H1 q1 R1 f1 r1 => ⟨σ, M1, oa, _, R1, q1, fun y M2 u2 H2 q2 R2 f2 r2 => by
    obtain ⟨j, rfl, g1⟩ := intW_of q2
    obtain ⟨a, xs0, e1, e2, g2⟩ := memLst_of g1
    subst e1
    have ev : u1 = .ref a := r1
    subst ev
    obtain ⟨x, ex, g3⟩ := optW_of g2
    obtain ⟨m, rfl, g4⟩ := intW_of g3
    obtain ⟨us, h2, z2, r4⟩ := R2.mem.mem a _ e2
    obtain ⟨w, ew, rw'⟩ := Reps.atI r4 ex
    refine ⟨a, us, j, w, rfl, rr_int r2.readable, .of h2, ew, σ, M2, oa, _, R2, g4, fun z M3 u3 H3 q3 R3' f3 r3 => ?_⟩
    obtain ⟨n, rfl, g5⟩ := intW_of q3
    obtain ⟨a', xs, e3, e4, g6⟩ := memLst_of g5
    cases e3
    obtain ⟨i, ei, g7⟩ := optW_of g6
    obtain ⟨us', h3, z3, r5⟩ := R3'.mem.mem a _ e4
    obtain ⟨R4, f4⟩ := R3'.setMem e4 (r5.set i (x := .int (f m n)) (v := .int (f m n)) Rep.int) (by rw [List.length_set]; exact z3)
    exact ⟨m, n, rr_int rw'.readable, rr_int r3.readable, a, us', j, i, rfl, rr_int r2.readable, h3, by rw [r5.len]; exact ei, k.nx _ _ _ _ _ g7 R4 (((f1.trans f2).trans f3).trans f4).all⟩⟩⟩
/-- a list display times an int -/
def tRep3 (ta tb : TE3) : TE3 := fun σ M Q => ta σ M fun x M1 => lstW x fun xs => tb σ M1 fun y M2 => intW y fun j => (-16777216 ≤ j ∧ j ≤ 16777216 ∧ xs.length * j.toNat ≤ 16777216) ∧ Q (.lst (List.replicate j.toNat xs).flatten) M2
theorem Reps.rep {K : PySem.W.Frag} {H : Hp} {D : Addr → Prop} {xs : List PV} {vs : List V} (r : Reps K H D xs vs) : ∀ n : Nat, Reps K H D (List.replicate n xs).flatten (List.replicate n vs).flatten
  | 0 => by simp; exact Reps.nil
  | n + 1 => by
    rw [List.replicate_succ, List.replicate_succ, List.flatten_cons, List.flatten_cons]
    exact r.app (Reps.rep r n)
theorem len_rep {α : Type} (xs : List α) : ∀ n : Nat, (List.replicate n xs).flatten.length = xs.length * n
  | 0 => by simp
  | n + 1 => by rw [List.replicate_succ, List.flatten_cons, List.length_append, len_rep xs n, Nat.mul_succ, Nat.add_comm]
theorem po3_rep (ha : PO3 X P a ta) (hb : PE3 X P b tb) : PO3 X P (.BinOp a .Mult b pos) (tRep3 ta tb) := fun B hB =>
  PE.imp (pe_op op_rep (ha B hB) (hb B hB)) fun τ H Q ⟨σ, M, oa, Q3, R, q, k⟩ => ⟨σ, M, oa, _, R, q, fun x M1 a H1 q1 F f1 => by
    cases x with
    | lst xs =>
      obtain ⟨us, h1, z1, r1⟩ := F.rep
      obtain ⟨R1, rf⟩ := F.frozen
      have g1 : Fr3 H1 H1 (Zm (B.plus a).DE σ M1 oa) (Zm B.DE σ M1 oa) := (F.st.minus F.hE).2
      refine ⟨σ, M1, oa, _, R1, q1, fun y M2 u H2 q2 R2 f2 r2 => ?_⟩
      obtain ⟨j, rfl, ⟨j1, j2, j3⟩, q2⟩ := intW_of q2
      have h2 : H2 a = some (.lst us) := f2.kp h1 F.nd fun _ z => by cases z
      have hz : us.length * j.toNat ≤ sizeLine := by rw [r1.len, sizeLine_eq]; exact j3
      refine ⟨a, j, us, rfl, rr_int r2.readable, h2, by omega, by omega, hz, fun p hp => ?_⟩
      obtain ⟨F2, f3⟩ := R2.newList hp (((r1.fr g1).fr f2).rep j.toNat) (by rw [len_rep]; exact hz)
      exact k _ M2 _ _ q2 F2 (((f1.trans g1).trans f2).trans f3)
    | _ => exact q1.elim⟩
end
end T3

namespace T3
open PySem PySem.Spec PyProof.Rows L2

/-! ## order of data -/
def ltP (x y : PV) : Bool := PySem.W.dataLt (pdOf x) (pdOf y)
def alP (x y : PV) : Bool := PySem.W.alike (pdOf x) (pdOf y)
theorem ltP_int {i j : Int} : ltP (.int i) (.int j) = decide (i < j) := by unfold ltP pdOf; exact PySem.W.dataLt_int i j
@[simp] theorem alP_int {i j : Int} : alP (.int i) (.int j) = true := rfl
theorem alP_pair {a b c d : PV} : alP (.tup [a, b]) (.tup [c, d]) = (alP a c && alP b d) := by
  show PySem.W.alike (.tuple [pdOf a, pdOf b]) (.tuple [pdOf c, pdOf d]) = _
  simp [PySem.W.alike, PySem.W.alikeAll, alP]
theorem ltP_pair {a b c d : PV} (h1 : alP a c = true) (h2 : alP b d = true) : ltP (.tup [a, b]) (.tup [c, d]) = if eqP a c = true then (if eqP b d = true then false else ltP b d) else ltP a c := by
  show PySem.W.dataLt (.tuple [pdOf a, pdOf b]) (.tuple [pdOf c, pdOf d]) = _
  exact PySem.W.dataLt_pair h1 h2
theorem ltP_ii {a b c d : Int} : ltP (.tup [.int a, .int b]) (.tup [.int c, .int d]) = decide (a < c ∨ (a = c ∧ b < d)) := PySem.W.dataLt_ii a b c d
def pdInj : Prop := True
theorem pdOf_inj : ∀ (n : Nat) (x y : PV), dpt n x = true → dpt n y = true → pdOf x = pdOf y → x = y := by
  intro n
  induction n with
  | zero => intro x y hx hy h; cases x <;> cases y <;> first | (simp [dpt] at hx; done) | (simp [dpt] at hy; done) | (simp [pdOf] at h; try simp [h])
  | succ n ih =>
    have all : ∀ xs ys : List PV, xs.all (dpt n) = true → ys.all (dpt n) = true → pdsOf xs = pdsOf ys → xs = ys := by
      intro xs
      induction xs with
      | nil => intro ys _ _ h; cases ys with
        | nil => rfl
        | cons y ys => simp [pdsOf] at h
      | cons x xs ih2 =>
        intro ys hx hy h
        cases ys with
        | nil => simp [pdsOf] at h
        | cons y ys =>
          rw [List.all_cons, Bool.and_eq_true] at hx hy
          simp [pdsOf] at h
          rw [ih x y hx.1 hy.1 h.1, ih2 ys hx.2 hy.2 h.2]
    intro x y hx hy h
    cases x <;> cases y <;> first
      | (simp [dpt] at hx; done)
      | (simp [dpt] at hy; done)
      | rfl
      | (simp [pdOf] at h; first | done | rw [all _ _ hx hy h] | rw [h])
def ltW (x y : PV) (k : Prop) : Prop := (dpt 60 x = true ∧ dpt 60 y = true ∧ alP x y = true ∧ isNon x = false) ∧ k
def rLtX : R2T := fun x y k => match x, y with
  | .int i, .int j => k (.bl (decide (i < j)))
  | x, y => ltW x y (k (.bl (ltP x y)))
def rGtX : R2T := fun x y k => match x, y with
  | .int i, .int j => k (.bl (decide (j < i)))
  | x, y => ltW x y (k (.bl (ltP y x)))
def rLeX : R2T := fun x y k => match x, y with
  | .int i, .int j => k (.bl (decide (i ≤ j)))
  | x, y => ltW x y (k (.bl (!ltP y x)))
def rGeX : R2T := fun x y k => match x, y with
  | .int i, .int j => k (.bl (decide (j ≤ i)))
  | x, y => ltW x y (k (.bl (!ltP x y)))
section
variable {X : Cx} {K : PySem.W.Frag} {H : Hp} {D : Addr → Prop}
theorem pd_none {x : PV} (h : dpt 60 x = true) (n : isNon x = false) : pdOf x ≠ .none := by
  cases x <;> first | (simp [isNon] at n; done) | (simp [dpt] at h; done) | (unfold pdOf; intro z; cases z)
theorem data_reads {pins : List (Addr × Obj)} {σ : L2.St} {s : Shared} (I : Inv X pins σ H s) {x : PV} {v : V} {u : Value} (h : dpt 60 x = true) (r : RepR X.K H D x v) (ru : RelV v u) : ∃ as, Reads s.heap u (pdOf x) as :=
  Dp.reads I _ _ _ ((dpt_data 60 x h).2.2 r) ru
theorem rLtD (hu : X.A.units + 64 < cLine) {op : CmpOp} {f : PV → PV → Bool} (rule : ∀ {s : Shared} {Q : Value → Shared → Prop} {E : Value → Shared → Prop} {a b : Value} {x y : PV} {as bs : List Addr}, Reads s.heap a (pdOf x) as → Reads s.heap b (pdOf y) bs → alP x y = true → pdOf x ≠ .none → X.A.units + min (pdOf x).depth (pdOf y).depth < cLine → Q (.bool (f x y)) s → wpAny (model X.prog X.w) X.A (compareOp op a b) Q E s) :
    OpR X (compareOp op) (fun x y H Q => ∃ D px py, RepR X.K H D px x ∧ RepR X.K H D py y ∧ ltW px py (Q (.bl (f px py)) H)) := fun pins s σ H x y v u Q I rx ry ⟨D, px, py, h1, h2, ⟨d1, d2, al, nn⟩, q⟩ => by
  obtain ⟨as, r1⟩ := data_reads I d1 h1 rx
  obtain ⟨bs, r2⟩ := data_reads I d2 h2 ry
  refine rule r1 r2 al (pd_none d1 nn) ?_ ⟨.bl _, H, I, rfl, q⟩
  have := (dpt_data 60 px d1).2.1
  have := Nat.min_le_left (pdOf px).depth (pdOf py).depth
  omega
theorem op3_ltX (hu : X.A.units + 64 < cLine) : Op3 X (compareOp .Lt) rLtX := OpR.imp (op_lt.or (rLtD hu (f := ltP) fun r1 r2 al nn z q => PySem.W.lt_data r1 r2 al nn z q)) fun x y H Q ⟨D, px, py, Q3, dD, rx, ry, w, k⟩ => by
  unfold rLtX at w
  split at w
  · exact .inl ⟨_, _, rr_int rx, rr_int ry, k.here w Rep.bl⟩
  · exact .inr ⟨D, _, _, rx, ry, w.1, k.here w.2 Rep.bl⟩
theorem op3_gtX (hu : X.A.units + 64 < cLine) : Op3 X (compareOp .Gt) rGtX := OpR.imp (op_gt.or (rLtD hu (f := fun x y => ltP y x) fun r1 r2 al nn z q => PySem.W.gt_data r1 r2 al nn z q)) fun x y H Q ⟨D, px, py, Q3, dD, rx, ry, w, k⟩ => by
  unfold rGtX at w
  split at w
  · exact .inl ⟨_, _, rr_int rx, rr_int ry, k.here w Rep.bl⟩
  · exact .inr ⟨D, _, _, rx, ry, w.1, k.here w.2 Rep.bl⟩
theorem op3_leX (hu : X.A.units + 64 < cLine) : Op3 X (compareOp .LtE) rLeX := OpR.imp (op_le.or (rLtD hu (f := fun x y => !ltP y x) fun r1 r2 al nn z q => PySem.W.le_data r1 r2 al nn z q)) fun x y H Q ⟨D, px, py, Q3, dD, rx, ry, w, k⟩ => by
  unfold rLeX at w
  split at w
  · exact .inl ⟨_, _, rr_int rx, rr_int ry, k.here w Rep.bl⟩
  · exact .inr ⟨D, _, _, rx, ry, w.1, k.here w.2 Rep.bl⟩
theorem op3_geX (hu : X.A.units + 64 < cLine) : Op3 X (compareOp .GtE) rGeX := OpR.imp (op_ge.or (rLtD hu (f := fun x y => !ltP x y) fun r1 r2 al nn z q => PySem.W.ge_data r1 r2 al nn z q)) fun x y H Q ⟨D, px, py, Q3, dD, rx, ry, w, k⟩ => by
  unfold rGeX at w
  split at w
  · exact .inl ⟨_, _, rr_int rx, rr_int ry, k.here w Rep.bl⟩
  · exact .inr ⟨D, _, _, rx, ry, w.1, k.here w.2 Rep.bl⟩
end
/-! ### sorted, min, max of data -/
def sortP (xs : List PV) : List PV := xs.mergeSort (PySem.W.dataLe false pdOf)
def minP (x : PV) (xs : List PV) : PV := xs.foldl (fun a y => if ltP y a = true then y else a) x
def maxP (x : PV) (xs : List PV) : PV := xs.foldl (fun a y => if ltP a y = true then y else a) x
def alikeP (xs : List PV) : Prop := (∀ x ∈ xs, dpt 60 x = true ∧ isNon x = false) ∧ ∀ x ∈ xs, ∀ y ∈ xs, alP x y = true
/-- all are tuples that are not empty, or none is a tuple -/
def sortable (xs : List PV) : Prop := (∀ x ∈ xs, ∃ y r, x = .tup (y :: r)) ∨ ∀ x ∈ xs, isTup x = some false
theorem minP_pd : ∀ (xs : List PV) (x : PV), pdOf (minP x xs) = PySem.W.minD (pdOf x) (xs.map pdOf)
  | [], x => rfl
  | y :: ys, x => by
    unfold minP PySem.W.minD
    rw [List.foldl_cons, List.map_cons, List.foldl_cons]
    have e : (if PySem.W.dataLt (pdOf y) (pdOf x) then pdOf y else pdOf x) = pdOf (if ltP y x = true then y else x) := by unfold ltP; split <;> rfl
    rw [e]
    exact minP_pd ys _
theorem maxP_pd : ∀ (xs : List PV) (x : PV), pdOf (maxP x xs) = PySem.W.maxD (pdOf x) (xs.map pdOf)
  | [], x => rfl
  | y :: ys, x => by
    unfold maxP PySem.W.maxD
    rw [List.foldl_cons, List.map_cons, List.foldl_cons]
    have e : (if PySem.W.dataLt (pdOf x) (pdOf y) then pdOf y else pdOf x) = pdOf (if ltP x y = true then y else x) := by unfold ltP; split <;> rfl
    rw [e]
    exact maxP_pd ys _
theorem minP_mem : ∀ (xs : List PV) (x : PV), minP x xs ∈ x :: xs
  | [], x => by simp [minP]
  | y :: ys, x => by
    have h := minP_mem ys (if ltP y x = true then y else x)
    show minP (if ltP y x = true then y else x) ys ∈ _
    rcases List.mem_cons.mp h with h | h
    · rw [h]; split <;> simp
    · exact List.mem_cons_of_mem _ (List.mem_cons_of_mem _ h)
theorem maxP_mem : ∀ (xs : List PV) (x : PV), maxP x xs ∈ x :: xs
  | [], x => by simp [maxP]
  | y :: ys, x => by
    have h := maxP_mem ys (if ltP x y = true then y else x)
    show maxP (if ltP x y = true then y else x) ys ∈ _
    rcases List.mem_cons.mp h with h | h
    · rw [h]; split <;> simp
    · exact List.mem_cons_of_mem _ (List.mem_cons_of_mem _ h)
section
variable {X : Cx} {K : PySem.W.Frag} {H : Hp} {D : Addr → Prop}
theorem data_all {pins : List (Addr × Obj)} {σ : L2.St} {s : Shared} (I : Inv X pins σ H s) : ∀ {xs : List PV} {vs : List V} {us : List Value}, (∀ x ∈ xs, dpt 60 x = true) → Reps X.K H D xs vs → Vals vs us → ∃ as, ReadsAll s.heap us (pdsOf xs) as
  | [], _, _, _, r, rv => by unfold Reps at r; subst r; cases rv; unfold pdsOf; exact ⟨_, .nil⟩
  | x :: xs, _, _, h, r, rv => by
    unfold Reps at r
    obtain ⟨v, r', e, h1, h2⟩ := r
    subst e
    cases rv with
    | cons r1 r2 =>
      obtain ⟨as, a⟩ := data_reads I (h x (by simp)) h1.readable r1
      obtain ⟨bs, b⟩ := data_all I (fun y hy => h y (List.mem_cons_of_mem _ hy)) h2 r2
      unfold pdsOf
      exact ⟨_, .cons a b⟩
theorem depth_pds : ∀ {xs : List PV}, (∀ x ∈ xs, dpt 60 x = true) → PyData.depthAll (pdsOf xs) ≤ 60
  | [], _ => by simp [pdsOf, PyData.depthAll]
  | x :: xs, h => by
    unfold pdsOf PyData.depthAll
    exact Nat.max_le.mpr ⟨(dpt_data 60 x (h x (by simp))).2.1, depth_pds fun y hy => h y (List.mem_cons_of_mem _ hy)⟩
theorem alikeP.all {xs : List PV} (h : alikeP xs) : PySem.W.AlikeAll (pdsOf xs) := by
  rw [pdsOf_map]
  refine ⟨fun x hx y hy => ?_, fun x hx => ?_⟩
  · obtain ⟨a, ha, rfl⟩ := List.mem_map.mp hx
    obtain ⟨b, hb, rfl⟩ := List.mem_map.mp hy
    exact h.2 a ha b hb
  · obtain ⟨a, ha, rfl⟩ := List.mem_map.mp hx
    exact pd_none (h.1 a ha).1 (h.1 a ha).2
/-- the item that was found is the tree's -/
theorem item_of {pins : List (Addr × Obj)} {σ : L2.St} {s : Shared} (I : Inv X pins σ H s) {xs : List PV} {vs : List V} {us : List Value} (hd : ∀ x ∈ xs, dpt 60 x = true) (r : Reps X.K H D xs vs) (rv : Vals vs us) {i : Nat} {u : Value} (hu : us[i]? = some u) {h' : Heap} (hk : ∀ b o, s.heap.get? b = some o → h'.get? b = some o)
    {y : PV} {bs : List Addr} (hy : y ∈ xs) (ry : Reads h' u (pdOf y) bs) : ∃ v, RelV v u ∧ Rep X.K H D y v := by
  have hi : i < us.length := (List.getElem?_eq_some_iff.mp hu).1
  have hv : i < vs.length := by rw [rv.length]; exact hi
  obtain ⟨x, ex, rx⟩ := r.getV (List.getElem?_eq_getElem hv)
  obtain ⟨u', eu, ru⟩ := rv.get (List.getElem?_eq_getElem hv)
  rw [hu] at eu; cases eu
  have hx : x ∈ xs := List.mem_of_getElem? ex
  obtain ⟨as, rr⟩ := data_reads I (hd x hx) rx.readable ru
  have e := (Reads.unique (PySem.W.reads_keeps hk rr) _ _ ry).1
  have e2 : x = y := pdOf_inj 60 x y (hd x hx) (hd y hy) e
  subst e2
  exact ⟨_, ru, rx⟩
def lAlW (x : PV) (k : PV → List PV → Prop) : Prop := seqW x fun xs => match xs with
  | [] => False
  | y :: ys => alikeP (y :: ys) ∧ k y ys
def rMinX : RnT := fun xs k => match xs with
  | [.int i, .int j] => k (.int (if j < i then j else i))
  | [x] => lAlW x fun y ys => k (minP y ys)
  | _ => False
def rMaxX : RnT := fun xs k => match xs with
  | [.int i, .int j] => k (.int (if j > i then j else i))
  | [x] => lAlW x fun y ys => k (maxP y ys)
  | _ => False
theorem min_oneX (hc : X.calm = true) (hu : X.A.units + 64 < cLine) : CallR X (.builtin "min") (fun vs H Q => ∃ (D : Addr → Prop) (px : PV) (v : V), vs = [v] ∧ RepR X.K H D px v ∧ lAlW px fun y ys => ∀ w, Rep X.K H D (minP y ys) w → Q w H) := fun pins s σ H vs us Q I r ⟨D, px, v, e, rp, w⟩ => by
  subst e
  obtain ⟨u, rfl, ru⟩ := vals1 r
  have fin : ∀ {y : PV} {ys : List PV} {us' : List V} {its : List Value}, alikeP (y :: ys) → (∀ w, Rep X.K H D (minP y ys) w → Q w H) → Reps X.K H D (y :: ys) us' → Vals us' its → ∀ (i : Nat) (v : Value) (h' : Heap) (tk : Nat) (bs : List Addr), its.toArray[i]? = some v → Reads h' v (PySem.W.minD (pdOf y) (pdsOf ys)) bs → (∀ b o, s.heap.get? b = some o → h'.get? b = some o) → EP X pins σ Q v { s with heap := h', toks := tk } :=
    fun {y ys us' its} al q rr rv i v h' tk bs hv hr hk => by
      rw [pdsOf_map, ← minP_pd] at hr
      obtain ⟨w, rw', rp'⟩ := item_of I (fun x hx => (al.1 x hx).1) rr rv (by simpa using hv) hk (minP_mem ys y) hr
      exact ⟨w, H, I.kept hk, rw', q w rp'⟩
  rcases seqW_of w with ⟨xs, rfl, w⟩ | ⟨xs, rfl, w⟩
  · obtain ⟨a, us', rfl, t, z, rr⟩ := rr_lst rp
    cases ru
    obtain ⟨its, rv, pl, hz⟩ := I.list t
    cases xs with
    | nil => exact w.elim
    | cons y ys =>
      obtain ⟨as, ra⟩ := data_all I (fun x hx => (w.1.1 x hx).1) rr rv
      refine PySem.W.min_list_data (I.ok.hd hc) pl.isList (x := pdOf y) (xs := pdsOf ys) (by simpa [pdsOf] using ra) (alikeP.all w.1) ?_ fun i v h' tk bs hv hr hk => fin w.1 w.2 rr rv i v h' tk bs hv hr hk
      have := depth_pds (xs := y :: ys) fun x hx => (w.1.1 x hx).1
      have e : pdsOf (y :: ys) = pdOf y :: pdsOf ys := by simp [pdsOf]
      rw [← e]
      omega
  · obtain ⟨a, us', rfl, t, z, rr⟩ := rr_tup rp
    cases ru
    obtain ⟨its, rv, pl, hz⟩ := I.tuple t
    cases xs with
    | nil => exact w.elim
    | cons y ys =>
      obtain ⟨as, ra⟩ := data_all I (fun x hx => (w.1.1 x hx).1) rr rv
      refine PySem.W.min_tuple_data (I.ok.hd hc) pl (x := pdOf y) (xs := pdsOf ys) (by simpa [pdsOf] using ra) (alikeP.all w.1) ?_ fun i v h' tk bs hv hr hk => fin w.1 w.2 rr rv i v h' tk bs hv hr hk
      have := depth_pds (xs := y :: ys) fun x hx => (w.1.1 x hx).1
      have e : pdsOf (y :: ys) = pdOf y :: pdsOf ys := by simp [pdsOf]
      rw [← e]
      omega
theorem max_oneX (hc : X.calm = true) (hu : X.A.units + 64 < cLine) : CallR X (.builtin "max") (fun vs H Q => ∃ (D : Addr → Prop) (px : PV) (v : V), vs = [v] ∧ RepR X.K H D px v ∧ lAlW px fun y ys => ∀ w, Rep X.K H D (maxP y ys) w → Q w H) := fun pins s σ H vs us Q I r ⟨D, px, v, e, rp, w⟩ => by
  subst e
  obtain ⟨u, rfl, ru⟩ := vals1 r
  have fin : ∀ {y : PV} {ys : List PV} {us' : List V} {its : List Value}, alikeP (y :: ys) → (∀ w, Rep X.K H D (maxP y ys) w → Q w H) → Reps X.K H D (y :: ys) us' → Vals us' its → ∀ (i : Nat) (v : Value) (h' : Heap) (tk : Nat) (bs : List Addr), its.toArray[i]? = some v → Reads h' v (PySem.W.maxD (pdOf y) (pdsOf ys)) bs → (∀ b o, s.heap.get? b = some o → h'.get? b = some o) → EP X pins σ Q v { s with heap := h', toks := tk } :=
    fun {y ys us' its} al q rr rv i v h' tk bs hv hr hk => by
      rw [pdsOf_map, ← maxP_pd] at hr
      obtain ⟨w, rw', rp'⟩ := item_of I (fun x hx => (al.1 x hx).1) rr rv (by simpa using hv) hk (maxP_mem ys y) hr
      exact ⟨w, H, I.kept hk, rw', q w rp'⟩
  rcases seqW_of w with ⟨xs, rfl, w⟩ | ⟨xs, rfl, w⟩
  · obtain ⟨a, us', rfl, t, z, rr⟩ := rr_lst rp
    cases ru
    obtain ⟨its, rv, pl, hz⟩ := I.list t
    cases xs with
    | nil => exact w.elim
    | cons y ys =>
      obtain ⟨as, ra⟩ := data_all I (fun x hx => (w.1.1 x hx).1) rr rv
      refine PySem.W.max_list_data (I.ok.hd hc) pl.isList (x := pdOf y) (xs := pdsOf ys) (by simpa [pdsOf] using ra) (alikeP.all w.1) ?_ fun i v h' tk bs hv hr hk => fin w.1 w.2 rr rv i v h' tk bs hv hr hk
      have := depth_pds (xs := y :: ys) fun x hx => (w.1.1 x hx).1
      have e : pdsOf (y :: ys) = pdOf y :: pdsOf ys := by simp [pdsOf]
      rw [← e]
      omega
  · obtain ⟨a, us', rfl, t, z, rr⟩ := rr_tup rp
    cases ru
    obtain ⟨its, rv, pl, hz⟩ := I.tuple t
    cases xs with
    | nil => exact w.elim
    | cons y ys =>
      obtain ⟨as, ra⟩ := data_all I (fun x hx => (w.1.1 x hx).1) rr rv
      refine PySem.W.max_tuple_data (I.ok.hd hc) pl (x := pdOf y) (xs := pdsOf ys) (by simpa [pdsOf] using ra) (alikeP.all w.1) ?_ fun i v h' tk bs hv hr hk => fin w.1 w.2 rr rv i v h' tk bs hv hr hk
      have := depth_pds (xs := y :: ys) fun x hx => (w.1.1 x hx).1
      have e : pdsOf (y :: ys) = pdOf y :: pdsOf ys := by simp [pdsOf]
      rw [← e]
      omega
theorem lAlW_imp {x : PV} {k k' : PV → List PV → Prop} (h : lAlW x k) (i : ∀ y ys, k y ys → k' y ys) : lAlW x k' := by
  unfold lAlW at h ⊢
  rcases seqW_of h with ⟨xs, rfl, h⟩ | ⟨xs, rfl, h⟩
  · cases xs with
    | nil => exact h
    | cons y ys => exact ⟨h.1, i _ _ h.2⟩
  · cases xs with
    | nil => exact h
    | cons y ys => exact ⟨h.1, i _ _ h.2⟩
theorem call3_minX (hc : X.calm = true) (hu : X.A.units + 64 < cLine) : Call3 X (.builtin "min") rMinX := CallR.imp ((call_min2 hc).or (min_oneX hc hu)) fun xs H Q ⟨D, ps, Q3, dD, rs, w, k⟩ => by
  unfold rMinX at w
  split at w
  · obtain ⟨v, u, rfl, r1, r2⟩ := paired2 rs
    rw [rr_int r1, rr_int r2]
    exact .inl ⟨_, _, rfl, k.here w Rep.int⟩
  · obtain ⟨v, rfl, r⟩ := paired1 rs
    exact .inr ⟨D, _, v, rfl, r, lAlW_imp w fun y ys q w' r' => k.here q r'⟩
  · exact w.elim
theorem call3_maxX (hc : X.calm = true) (hu : X.A.units + 64 < cLine) : Call3 X (.builtin "max") rMaxX := CallR.imp ((call_max2 hc).or (max_oneX hc hu)) fun xs H Q ⟨D, ps, Q3, dD, rs, w, k⟩ => by
  unfold rMaxX at w
  split at w
  · obtain ⟨v, u, rfl, r1, r2⟩ := paired2 rs
    rw [rr_int r1, rr_int r2]
    exact .inl ⟨_, _, rfl, k.here w Rep.int⟩
  · obtain ⟨v, rfl, r⟩ := paired1 rs
    exact .inr ⟨D, _, v, rfl, r, lAlW_imp w fun y ys q w' r' => k.here q r'⟩
  · exact w.elim
/-- sorted(list) -/
def rSortX : RnT := rOne fun x k => lstW x fun xs => (alikeP xs ∧ sortable xs) ∧ k (.lst (sortP xs))
theorem each_of {R : Value → PV → Prop} : ∀ {xs : List PV} {vs : List V} {us : List Value}, Reps X.K H D xs vs → Vals vs us → (∀ x v u, x ∈ xs → Rep X.K H D x v → RelV v u → R u x) → PySem.W.EachIs R us xs
  | [], _, _, r, rv, h => by unfold Reps at r; subst r; cases rv; exact .nil
  | x :: xs, _, _, r, rv, h => by
    unfold Reps at r
    obtain ⟨v, r', e, h1, h2⟩ := r
    subst e
    cases rv with
    | cons r1 r2 => exact .cons (h x v _ (by simp) h1 r1) (each_of h2 r2 fun y v u hy => h y v u (List.mem_cons_of_mem _ hy))
theorem of_each : ∀ {xs : List PV} {us : List Value}, PySem.W.EachIs (fun u x => ∃ v, RelV v u ∧ Rep X.K H D x v) us xs → ∃ vs, Vals vs us ∧ Reps X.K H D xs vs
  | _, _, .nil => ⟨[], .nil, Reps.nil⟩
  | _, _, .cons ⟨v, r1, r2⟩ t => by
    obtain ⟨vs, h1, h2⟩ := of_each t
    exact ⟨v :: vs, .cons r1 h1, Reps.cons r2 h2⟩
theorem sortedX (hu : X.A.units + 64 < cLine) : CallR X (.builtin "sorted") (fun vs H Q => ∃ (D : Addr → Prop) (xs : List PV) (v : V), vs = [v] ∧ RepR X.K H D (.lst xs) v ∧ (alikeP xs ∧ sortable xs) ∧ ∀ p us, H p = none → us.length ≤ sizeLine → Reps X.K H D (sortP xs) us → Q (.ref p) (upd H p (.lst us))) := fun pins s σ H vs us Q I r ⟨D, xs, v, e, rp, ⟨al, so⟩, q⟩ => by
  subst e
  obtain ⟨u, rfl, ru⟩ := vals1 r
  obtain ⟨a, us', rfl, t, z, rr⟩ := rr_lst rp
  cases ru
  obtain ⟨its, rv, pl, hz⟩ := I.list t
  have hd : ∀ x ∈ xs, dpt 60 x = true := fun x hx => (al.1 x hx).1
  refine PySem.W.sorted_data (enc := pdOf) pl.isList (each_of (R := fun u x => ∃ v, RelV v u ∧ Rep X.K H D x v) rr rv fun x v u _ h1 h2 => ⟨v, h2, h1⟩) (each_of rr rv fun x v u hx h1 h2 => data_reads I (hd x hx) h1.readable h2) (fun d hd' d' hd'' => ?_) ?_ (by rw [← rr.len]; exact z) (fun b hb => ?_) fun out hl he => ?_
  · have h := (alikeP.all al).1
    rw [pdsOf_map] at h
    exact h d hd' d' hd''
  · rcases so with so | so
    · refine .inl fun d hd' => ?_
      obtain ⟨b, hb, rfl⟩ := List.mem_map.mp hd'
      obtain ⟨y, r, e⟩ := so b hb
      subst e
      exact ⟨pdOf y, pdsOf r, by show PyData.tuple (pdsOf (y :: r)) = _; simp [pdsOf]⟩
    · refine .inr fun d hd' => ?_
      obtain ⟨b, hb, rfl⟩ := List.mem_map.mp hd'
      refine ⟨pd_none (hd b hb) (al.1 b hb).2, fun ys e => ?_⟩
      have h := so b hb
      cases b <;> first | (cases h; done) | (unfold pdOf at e; cases e)
  · have := (dpt_data 60 b (hd b hb)).2.1
    omega
  · obtain ⟨ws, w1, w2⟩ := of_each he
    obtain ⟨ep, he'⟩ := PyProof.Rows.sortedAll_at s.heap its out.toArray
    have hlen : ws.length ≤ sizeLine := by rw [w1.length, hl, ← rr.len]; exact z
    exact ⟨.ref _, upd H (s.heap.objs.size + 1) (.lst ws), I.laid (t' := s.toks) (fun _ _ => PyProof.Rows.sortedAll_old) (Nat.le_succ _) ⟨hlen, out, ep, w1, he'⟩, rfl, q _ ws (I.hok.fresh (Nat.le_succ _)) hlen w2⟩
theorem lstW_of {x : PV} {k : List PV → Prop} (h : lstW x k) : ∃ xs, x = .lst xs ∧ k xs := by
  cases x <;> first | exact h.elim | exact ⟨_, rfl, h⟩
theorem callO3_sorted (hu : X.A.units + 64 < cLine) : CallO3 X (.builtin "sorted") rSortX := CallR.imp (sortedX hu) fun xs H Q ⟨D, ps, Q3, dD, rs, w, k⟩ => by
  obtain ⟨x, rfl, w⟩ := rOne_of w
  obtain ⟨v, rfl, r⟩ := paired1 rs
  obtain ⟨xs, rfl, w⟩ := lstW_of w
  exact ⟨D, xs, v, rfl, r, w.1, fun p us hp hz ru => k _ p us w.2 hp hz ru⟩
end
end T3

namespace T3
open PySem PySem.Spec PyProof.Rows L2

/-! ## a op b op c -/
section
variable {X : Cx} {P : BP} {a b c : Expr} {ta tb tc : TE3} {pos p : Pos}
theorem chain_lift {K : PySem.W.Frag} {B : Base} {r r' : R2T} {τ : L2.St} {H : Hp} {Q : VK} (h : liftE K B (tChain3 r r' ta tb tc) τ H Q) : tChain (lR2 K r) (lR2 K r') (liftB K B ta) (liftB K B tb) (liftB K B tc) τ H Q := by
  obtain ⟨σ, M, oa, Q3, R, w, k⟩ := h
  refine ⟨σ, M, oa, _, R, w, fun x M1 v H1 q1 R1 f1 r1 => ⟨σ, M1, oa, _, R1, q1, fun y M2 u H2 q2 R2 f2 r2 => ?_⟩⟩
  refine ⟨_, _, _, _, R2.mem.dom, (r1.fr f2).readable R2, r2.readable R2, q2, fun z w H3 qz sm rz => ?_⟩
  obtain ⟨d, e, q3⟩ := asB_of qz
  subst e
  obtain ⟨R3', f3⟩ := R2.same sm
  refine ⟨d, rr_bl rz.readable, ?_⟩
  cases d with
  | false => exact k (.bl false) M2 _ H3 q3 R3' ((f1.trans f2).trans f3) Rep.bl
  | true =>
    rw [if_pos rfl] at q3 ⊢
    exact ⟨σ, M2, oa, _, R3', q3, fun z M4 w H4 q4 R4 f4 r4 => ⟨_, _, _, _, R4.mem.dom, ((r2.fr f3).fr f4).readable R4, r4.readable R4, q4, fun z' w' H5 qz' sm' rz' => k z' M4 w' H5 qz' (R4.same sm').1 ((((f1.trans f2).trans f3).trans f4).trans (R4.same sm').2) rz'⟩⟩
theorem pe3_chain {op op' : CmpOp} {r r' : R2T} (ho : Op3 X (compareOp op) r) (ho' : Op3 X (compareOp op') r') (ha : PB3 X P a ta) (hb : PB3 X P b tb) (hc : PB3 X P c tc) (hm : lastMarks [op, op'] [b, c] = false := by with_unfolding_all rfl) :
    PE3 X P (.Compare a [op, op'] [b, c] pos) (tChain3 r r' ta tb tc) := fun B hB => PE.imp (pe_chain ho ho' (ha B hB) (hb B hB) (hc B hB) hm) fun _ _ _ h => chain_lift h
theorem pt3_chain {op op' : CmpOp} {r r' : R2T} (ho : Op3 X (compareOp op) r) (ho' : Op3 X (compareOp op') r') (ha : PB3 X P a ta) (hb : PB3 X P b tb) (hc : PB3 X P c tc) (hm : lastMarks [op, op'] [b, c] = false := by with_unfolding_all rfl) :
    PT3 X P (.Compare a [op, op'] [b, c] pos) (tTest3 (tChain3 r r' ta tb tc)) := fun B hB => PT.imp (pt_chain ho ho' (ha B hB) (hb B hB) (hc B hB) hm) fun τ H Q ⟨σ, M, oa, Q3, R, w, k⟩ => chain_lift ⟨σ, M, oa, _, R, w, fun x M1 v H1 q1 R1 f1 r1 => by
      obtain ⟨d, e, q⟩ := asB_of q1
      subst e
      exact ⟨d, rr_bl r1.readable, k d M1 H1 q R1 f1⟩⟩
/-! ## methods that answer -/
/-- o.m(..), the receiver read alone -/
def lMt (K : PySem.W.Frag) (w : PV → RnT) : V → List V → Hp → VK → Prop := fun x vs H Q => ∃ D px ps Q3, (∀ b, D b → Th H b) ∧ RepR K H D px x ∧ Paired (RepR K H D) ps vs ∧ w px ps Q3 ∧ Post3 K H D Q3 Q
def tyP (T : String) : PV → Prop
  | .lst _ => T = "list"
  | .str _ => T = "str"
  | .dic _ _ => T = "dict"
  | _ => False
theorem tyP_rep {K : PySem.W.Frag} {H : Hp} {D : Addr → Prop} {T : String} {x : PV} {v : V} (r : RepR K H D x v) (h : tyP T x) : tyV K T v H := by
  cases x with
  | lst xs => obtain ⟨a, vs, rfl, t, z, rr⟩ := rr_lst r; exact .inl ⟨h, vs, t⟩
  | str s => rw [(rr_str r).1]; exact h
  | dic ks xs => obtain ⟨a, vs, rfl, t, l, z, rr⟩ := r; exact .inr (.inr (.inl ⟨h, .inl ⟨_, t⟩⟩))
  | _ => exact h.elim
variable {o e : Expr} {es : List Expr} {to : TE3} {t : TA3} {apos cpos : Pos} {name : Str} {id T : String} {w : PV → RnT}
def tMt3 (T : String) (w : PV → RnT) (to : TE3) (t : TA3) : TE3 := fun σ M Q => to σ M fun x M1 => tyP T (look M1 x) ∧ t σ M1 fun ps M2 => w (look M2 x) (ps.map (look M2)) fun z => Q z M2
theorem pe3_mt (pa : PlainAttrs T) (slot : PySem.Slot T name id) (hty : typeOf (.builtin id) = pure (.type "method_descriptor")) (hm : MtR X id (lMt X.K w)) (ho : PB3 X P o to) (ha : PAB3 X P (e :: es) t)
    (hbase : attributeBase o name X.env (eval o X.env) = eval o X.env := by rfl)
    (hfew : ((backTo cpos (starEach (e :: es) X.env)).all (fun x => !x.1) && (backToKw cpos (keywordEach [] X.env)).all (fun x => x.1.isSome)
      && decide ((e :: es).length + ([] : List Keyword).length + (if ([] : List Keyword).isEmpty then 0 else 1) < 30)) = true := by rfl)
    (hline : (apos.endLine == cpos.line) = true := by rfl) (hs : starEach (e :: es) X.env = (false, eval e X.env) :: starEach es X.env := by rfl) (hplain : (backTo cpos (starEach es X.env)).any (·.1) = false := by rfl) :
    PE3 X P (.Call (.Attribute o name apos) (e :: es) [] cpos) (tMt3 T w to t) := fun B hB =>
  PE.imp (pe_bm pa slot hty hm (ho B hB) (ha B hB) hbase hfew hline hs hplain) fun τ H Q ⟨σ, M, oa, Q3, R, w, k⟩ => ⟨σ, M, oa, _, R, w, fun x M1 v H1 q1 R1 f1 r1 => ⟨tyP_rep (r1.readable R1) q1.1, σ, M1, oa, _, R1, q1.2, fun ps M2 vs H2 q2 R2 f2 r2 =>
    ⟨_, _, _, _, R2.mem.dom, (r1.fr f2).readable R2, rd_all R2 r2, q2, fun z w H3 qz sm rz => k z M2 w H3 qz (R2.same sm).1 ((f1.trans f2).trans (R2.same sm).2) rz⟩⟩⟩
/-- list.index: the first one -/
def idxP (x : PV) : List PV → Option Nat
  | [] => none
  | y :: ys => if eqP y x = true then some 0 else (idxP x ys).map (· + 1)
def wIndex : PV → RnT := fun x ps k => match x, ps with
  | .lst ys, [y] => (flatP y = true ∧ ys.all flatP = true) ∧ optW (idxP y ys) fun j => k (.int (j : Int))
  | _, _ => False
def wCount : PV → RnT := fun x ps k => match x, ps with
  | .lst ys, [y] => optW (intsOf ys) fun ns => intW y fun i => k (.int ((ns.count i : Nat) : Int))
  | _, _ => False
end
theorem idxP_some {x : PV} : ∀ {ys : List PV} {j : Nat}, idxP x ys = some j → (∃ z, ys[j]? = some z ∧ eqP z x = true) ∧ ∀ i, i < j → ∀ z, ys[i]? = some z → eqP z x = false
  | [], j, h => by cases h
  | y :: ys, j, h => by
    unfold idxP at h
    by_cases e : eqP y x = true
    · rw [if_pos e] at h; cases h
      exact ⟨⟨y, rfl, e⟩, fun i hi => absurd hi (by omega)⟩
    · rw [if_neg e] at h
      cases q : idxP x ys with
      | none => rw [q] at h; cases h
      | some n =>
        rw [q] at h; cases h
        obtain ⟨⟨z, h1, h2⟩, h3⟩ := idxP_some q
        refine ⟨⟨z, by simpa using h1, h2⟩, fun i hi w hw => ?_⟩
        cases i with
        | zero => simp at hw; subst hw; simpa using e
        | succ i => exact h3 i (by simp at hi; omega) w (by simpa using hw)
end T3
namespace T3
open PySem PySem.Spec PyProof.Rows L2
section
variable {X : Cx} {P : BP} {e : Expr} {es : List Expr} {t : TA3} {pos p : Pos} {x : Str}
theorem mt3_index : MtR X "list.index" (lMt X.K wIndex) := MtR.imp mt_index fun x vs H Q ⟨D, px, ps, Q3, dD, r, rs, w, k⟩ => by
  unfold wIndex at w
  split at w
  · rename_i ys y
    obtain ⟨⟨f1, f2⟩, w⟩ := w
    obtain ⟨j, ej, q⟩ := optW_of w
    obtain ⟨v, rfl, ry⟩ := paired1 rs
    obtain ⟨a, us, rfl, t, z, rr⟩ := rr_lst r
    obtain ⟨⟨zj, h1, h2⟩, h3⟩ := idxP_some ej
    obtain ⟨u, eu, ru⟩ := rr.get h1
    have fl : ∀ {i : Nat} {z : PV}, ys[i]? = some z → flatP z = true := fun h => List.all_eq_true.mp f2 _ (List.mem_of_getElem? h)
    refine ⟨a, us, v, j, u, rfl, rfl, t, flat_rep ry f1, (inV_rep ry f1 rr f2).1, eu, by rw [eqV_rep ru.readable (fl h1) ry f1]; exact h2, fun m z' hm hz => ?_, k.here q Rep.int⟩
    obtain ⟨z2, e2, r2⟩ := rr.getV hz
    rw [eqV_rep r2.readable (fl e2) ry f1]
    exact h3 m hm z2 e2
  · exact w.elim
theorem mt3_count : MtR X "list.count" (lMt X.K wCount) := MtR.imp mt_lcount fun x vs H Q ⟨D, px, ps, Q3, dD, r, rs, w, k⟩ => by
  unfold wCount at w
  split at w
  · rename_i ys y
    obtain ⟨ns, e, w⟩ := optW_of w
    obtain ⟨i, rfl, q⟩ := intW_of w
    obtain ⟨v, rfl, ry⟩ := paired1 rs
    obtain ⟨a, us, rfl, t, z, rr⟩ := rr_lst r
    rw [intsOf_eq e] at rr
    rw [reps_ints rr] at t
    rw [rr_int ry]
    exact ⟨a, ns, i, rfl, rfl, t, k.here q Rep.int⟩
  · exact w.elim
/-- a call of a def that slot i holds -/
def tCallV (i : Nat) (S : Addr → Option Sp3) (W : W3) (t : TA3) : TE3 := fun σ M Q => slotW σ i fun x => match x with
  | .raw (.ref f) => optW (S f) fun sp => t σ M fun xs M1 => sp xs M1 Q W
  | _ => False
theorem pe3_callV (i : Nat) {k : Nat} {S : Addr → Option Sp3} {W : W3} (A : ∀ f sp, S f = some sp → ∃ (fd : FuncData) (ps : List Str), FnOk X.prog X.w X.K X.mg X.base (L2.CX X.prog X.w) k f fd ps (liftSp X.K sp) ∧ PySem.W.keepIn X.K (.ref f) = true ∧ Binds X.K fd ps []) (hr : Room k X.A) (tk : TK X P W) (ha : PA3 X P (e :: es) t)
    (hN : X.N[i]? = some x := by rfl) (hv : Vis X.env.scope x := by first | exact Or.inl rfl | exact Or.inr (Or.inl rfl) | exact Or.inr (Or.inr rfl)) (hdb : (x == ("__debug__" : Str)) = false := by decide) (hcd : (x == ("__classdict__" : Str)) = false := by decide)
    (he : starEach (e :: es) X.env = (false, eval e X.env) :: starEach es X.env := by rfl) (hpl : (backTo pos (starEach es X.env)).any (·.1) = false := by rfl) : PE3 X P (.Call (.Name x p) (e :: es) [] pos) (tCallV i S W t) := fun B hB => ⟨fun pins s τ H Q I ⟨σ, M, oa, Q3, R, w, kk⟩ => by
  unfold tCallV slotW at w
  split at w
  · rename_i y ey
    split at w
    · rename_i f
      obtain ⟨sp, es', w⟩ := optW_of w
      obtain ⟨fd, ps, F, hk, hb⟩ := A f sp es'
      obtain ⟨v, ev, rv⟩ := R.slot i _ ey
      have e2 : v = .ref f := rv
      subst e2
      refine (pe_callL (i := i) F hr hN hv hk hb .nil (passes_call (tk B hB) fun _ _ _ _ h => h) (ha B hB) hdb hcd he hpl).run pins s τ H Q I ⟨ev, σ, M, oa, _, R, w, fun xs M1 vs H1 q1 R1 f1 r1 => ?_⟩
      show liftSp X.K sp (vs ++ []) H1 Q _
      rw [List.append_nil]
      exact sp_lift R1 r1 q1 fun x M' v H' q R' f' r' => kk x M' v H' q R' (f1.trans f') r'
    · exact w.elim
  · exact w.elim⟩
end
end T3

namespace T3
open PySem PySem.Spec PyProof.Rows L2

/-! ## repr of a tuple -/
mutual
def pdR : PV → PyData
  | .non => .none
  | .bl b => .bool b
  | .int i => .int i
  | .str s => .str s
  | .tup xs => .tuple (pdRs xs)
  | .lst xs => .list (pdRs xs)
  | .dic _ _ => .dict []
  | .ins _ _ _ => .none
  | .raw _ => .none
def pdRs : List PV → List PyData
  | [] => []
  | x :: xs => pdR x :: pdRs xs
end
/-- may be shown; b: an empty dict may be in it, no list -/
def okR (b : Bool) : Nat → PV → Bool
  | _, .non => true
  | _, .bl _ => true
  | _, .int i => decide (i.natAbs.log2 < 1920)
  | _, .str s => PyData.strOk s
  | n + 1, .tup xs => xs.all (okR b n)
  | n + 1, .lst xs => !b && xs.all (okR b n)
  | _ + 1, .dic [] [] => b
  | _, _ => false
mutual
/-- more signs than it shows -/
def szR : PV → Nat
  | .non => 4
  | .bl _ => 5
  | .int _ => 1921
  | .str s => 10 * s.length + 2
  | .tup xs => szRs xs + 2 * xs.length + 3
  | .lst xs => szRs xs + 2 * xs.length + 3
  | _ => 2
def szRs : List PV → Nat
  | [] => 0
  | x :: xs => szR x + szRs xs
end
def reprS (x : PV) : Str := (pdR x).shown
theorem pdRs_len : ∀ xs : List PV, (pdRs xs).length = xs.length
  | [] => by simp [pdRs]
  | x :: xs => by simp [pdRs, pdRs_len xs]
theorem shownAll_len : ∀ ds : List PyData, (PyData.shownAll ds).length = ds.length
  | [] => by simp [PyData.shownAll]
  | d :: ds => by simp [PyData.shownAll, shownAll_len ds]
theorem sz_shown (b : Bool) : ∀ (n : Nat) (x : PV), okR b n x = true → (pdR x).shown.length ≤ szR x ∧ (pdR x).showable = true ∧ (pdR x).depth ≤ n ∧ (b = false → (pdR x).hasDict = false) := by
  have flat : ∀ (n : Nat) (x : PV), (match x with | .non => true | .bl _ => true | .int _ => true | .str _ => true | _ => false) = true → okR b n x = true → (pdR x).shown.length ≤ szR x ∧ (pdR x).showable = true ∧ (pdR x).depth ≤ n ∧ (b = false → (pdR x).hasDict = false) := by
    intro n x hx h
    cases x <;> first | (cases hx; done) | skip
    · exact ⟨by unfold pdR PyData.shown szR; decide, rfl, by simp [pdR, PyData.depth], fun _ => rfl⟩
    · rename_i c
      exact ⟨by unfold pdR PyData.shown szR; cases c <;> decide, rfl, by simp [pdR, PyData.depth], fun _ => rfl⟩
    · rename_i i
      have h' : i.natAbs.log2 < 1920 := by cases n <;> exact of_decide_eq_true h
      exact ⟨by unfold pdR PyData.shown szR; exact int_text_len_1921 h', by unfold pdR PyData.showable; exact decide_eq_true h', by simp [pdR, PyData.depth], fun _ => rfl⟩
    · rename_i s
      have h' : PyData.strOk s = true := by cases n <;> exact h
      refine ⟨?_, rfl, by simp [pdR, PyData.depth], fun _ => rfl⟩
      unfold pdR PyData.shown szR
      refine StrLaws.reprText_len s fun c hc => ?_
      unfold PyData.strOk at h'
      rw [← Array.all_toList, List.all_eq_true] at h'
      have := of_decide_eq_true (h' c hc)
      omega
  intro n
  induction n with
  | zero =>
    intro x h
    cases x <;> first | (refine flat 0 _ rfl h; done) | (simp [okR] at h; done)
  | succ n ih =>
    have all : ∀ xs : List PV, xs.all (okR b n) = true → ((PyData.shownAll (pdRs xs)).map (·.length)).sum ≤ szRs xs ∧ PyData.showableAll (pdRs xs) = true ∧ PyData.depthAll (pdRs xs) ≤ n ∧ (b = false → PyData.hasDictAll (pdRs xs) = false) := by
      intro xs
      induction xs with
      | nil => intro _; exact ⟨by simp [pdRs, PyData.shownAll], rfl, by simp [pdRs, PyData.depthAll], fun _ => rfl⟩
      | cons x xs ih2 =>
        intro h
        rw [List.all_cons, Bool.and_eq_true] at h
        obtain ⟨a1, a2, a3, a4⟩ := ih x h.1
        obtain ⟨b1, b2, b3, b4⟩ := ih2 h.2
        unfold pdRs
        refine ⟨?_, ?_, ?_, fun hb => ?_⟩
        · unfold PyData.shownAll szRs
          rw [List.map_cons, List.sum_cons]
          omega
        · unfold PyData.showableAll; rw [a2, b2]; rfl
        · unfold PyData.depthAll; exact Nat.max_le.mpr ⟨a3, b3⟩
        · unfold PyData.hasDictAll; rw [a4 hb, b4 hb]; rfl
    intro x h
    cases x with
    | tup xs =>
      obtain ⟨a1, a2, a3, a4⟩ := all xs h
      refine ⟨?_, by unfold pdR PyData.showable; exact a2, by unfold pdR PyData.depth; omega, fun hb => by unfold pdR PyData.hasDict; exact a4 hb⟩
      unfold pdR PyData.shown szR
      have := tupleText_len_le (PyData.shownAll (pdRs xs))
      rw [shownAll_len, pdRs_len] at this
      omega
    | lst xs =>
      have h' : (!b && xs.all (okR b n)) = true := h
      rw [Bool.and_eq_true] at h'
      obtain ⟨a1, a2, a3, a4⟩ := all xs h'.2
      refine ⟨?_, by unfold pdR PyData.showable; exact a2, by unfold pdR PyData.depth; omega, fun hb => by unfold pdR PyData.hasDict; exact a4 hb⟩
      unfold pdR PyData.shown szR
      have := listText_len_le (PyData.shownAll (pdRs xs))
      rw [shownAll_len, pdRs_len] at this
      omega
    | dic ks xs =>
      cases ks <;> cases xs <;> first | (simp [okR] at h; done) | skip
      have hb : b = true := h
      refine ⟨by unfold pdR PyData.shown szR; decide, rfl, by simp [pdR, PyData.depth, PyData.depthKv], fun z => by rw [hb] at z; cases z⟩
    | _ => first | (simp [okR] at h; done) | exact flat _ _ rfl h
section
variable {X : Cx} {pins : List (Addr × Obj)} {σ : L2.St} {H : Hp} {s : Shared} {D : Addr → Prop}
theorem reads_okR (I : Inv X pins σ H s) (b : Bool) : ∀ (n : Nat) (x : PV) (v : V) (u : Value), okR b n x = true → RepR X.K H D x v → RelV v u → ∃ as, Reads s.heap u (pdR x) as ∧ (b = true → sysModules ∉ as) := by
  have flat : ∀ (x : PV) (v : V) (u : Value), (match x with | .non => true | .bl _ => true | .int _ => true | .str _ => true | _ => false) = true → RepR X.K H D x v → RelV v u → ∃ as, Reads s.heap u (pdR x) as ∧ (b = true → sysModules ∉ as) := by
    intro x v u hx r ru
    cases x <;> first | (cases hx; done) | skip
    · rw [rr_non r] at ru; cases ru; unfold pdR; exact ⟨[], .none, fun _ => by simp⟩
    · rw [rr_bl r] at ru; cases ru; unfold pdR; exact ⟨[], .bool _, fun _ => by simp⟩
    · rw [rr_int r] at ru; obtain ⟨t, rfl⟩ := ru; unfold pdR; exact ⟨[], .int _ t, fun _ => by simp⟩
    · rw [(rr_str r).1] at ru; obtain ⟨t, rfl⟩ := ru; unfold pdR; exact ⟨[], .str _ t, fun _ => by simp⟩
  intro n
  induction n with
  | zero =>
    intro x v u h r ru
    cases x <;> first | (exact flat _ v u rfl r ru; done) | (simp [okR] at h; done)
  | succ n ih =>
    have all : ∀ (xs : List PV) (vs : List V) (us : List Value), xs.all (okR b n) = true → Reps X.K H D xs vs → Vals vs us → ∃ as, ReadsAll s.heap us (pdRs xs) as ∧ (b = true → sysModules ∉ as) := by
      intro xs
      induction xs with
      | nil => intro vs us _ r rv; unfold Reps at r; subst r; cases rv; unfold pdRs; exact ⟨[], .nil, fun _ => by simp⟩
      | cons x xs ih2 =>
        intro vs us h r rv
        rw [List.all_cons, Bool.and_eq_true] at h
        unfold Reps at r
        obtain ⟨v, r', e, h1, h2⟩ := r
        subst e
        cases rv with
        | cons r1 r2 =>
          obtain ⟨as, a1, a2⟩ := ih x v _ h.1 h1.readable r1
          obtain ⟨bs, b1, b2⟩ := ih2 r' _ h.2 h2 r2
          unfold pdRs
          exact ⟨_, .cons a1 b1, fun hb => by simp only [List.mem_append, not_or]; exact ⟨a2 hb, b2 hb⟩⟩
    intro x v u h r ru
    cases x with
    | tup xs =>
      obtain ⟨a, vs, rfl, t, z, rr⟩ := rr_tup r
      cases ru
      obtain ⟨its, rv, ⟨o, g1, g2, m, g3⟩, _⟩ := I.tuple t
      obtain ⟨as, a1, a2⟩ := all xs vs its h rr rv
      unfold pdR
      exact ⟨as, .tuple g1 g2 g3 a1, a2⟩
    | lst xs =>
      have h' : (!b && xs.all (okR b n)) = true := h
      rw [Bool.and_eq_true] at h'
      obtain ⟨a, vs, rfl, t, z, rr⟩ := rr_lst r
      cases ru
      obtain ⟨its, rv, ⟨o, m, g1, g2, _, g3⟩, _⟩ := I.list t
      obtain ⟨as, a1, a2⟩ := all xs vs its h'.2 rr rv
      unfold pdR
      exact ⟨_, .list g1 g2 g3 a1, fun hb => by rw [hb] at h'; simp at h'⟩
    | dic ks xs =>
      cases ks <;> cases xs <;> first | (simp [okR] at h; done) | skip
      obtain ⟨a, vs, rfl, t, l, z, rr⟩ := r
      cases ru
      have x := I.hok a _ t
      obtain ⟨_, ns, ws, kv, o, es, ep, g1, g2, g3, g4, g5, g6⟩ : _ ∧ (a == sysModules) = false ∧ ∃ vs, KV _ vs ∧ s.heap.DictOf (mixKind X.prog X.w) a vs := x
      have ew : ws = [] := by
        cases kv; rfl
      subst ew
      have ee : es.toList = [] := by
        have q : Pairs (mixKind X.prog X.w) es.toList [] := g5
        cases he : es.toList with
        | nil => rfl
        | cons e r => rw [he] at q; cases q
      unfold pdR
      refine ⟨_, .dict (as := []) (bs := []) g1 g2.1 g3 (by rw [ee]; exact .nil) (by rw [ee]; exact .nil), fun _ => ?_⟩
      have ne : a ≠ sysModules := by simpa using ns
      simp [Ne.symm ne]
    | _ => first | (simp [okR] at h; done) | exact flat _ _ _ rfl r ru
end
def rRepr3 : RnT := rOne fun x k => match x with
  | .tup xs => ((okR false 60 (.tup xs) = true ∨ okR true 60 (.tup xs) = true) ∧ szR (.tup xs) ≤ 16777216) ∧ k (.str (reprS (.tup xs)))
  | _ => False
theorem call3_repr {X : Cx} (hG : X.A.guards = some []) (hu : X.A.units + 64 < cLine) : Call3 X (.builtin "repr") rRepr3 := fun pins s σ H vs us Q I r ⟨D, ps, Q3, dD, rs, w, k⟩ => by
  obtain ⟨x, rfl, w2⟩ := rOne_of w
  obtain ⟨v, rfl, rp⟩ := paired1 rs
  obtain ⟨u, rfl, ru⟩ := vals1 r
  split at w2
  · rename_i xs
    obtain ⟨⟨ok, sz⟩, q⟩ := w2
    have go : ∀ b, okR b 60 (.tup xs) = true → True → wpAny (model X.prog X.w) X.A (call (.builtin "repr") [u]) (EP X pins σ Q) X.xe s := fun b hb _ => by
      obtain ⟨s1, s2, s3, s4⟩ := sz_shown b 60 _ hb
      obtain ⟨as, rd, ns⟩ := reads_okR I b 60 _ v u hb rp ru
      obtain ⟨a, vs, rfl, t, z, rr⟩ := rr_tup rp
      cases ru
      refine repr_of_reads' rd s2 (fun hd => ?_) hG (by omega) (fun _ _ e => e) (fun h' t tk hk => ?_) (by rw [sizeLine_eq]; omega)
      · cases b with
        | false => rw [s4 rfl] at hd; cases hd
        | true => exact ns rfl
      · refine ⟨.str (reprS (.tup xs)), H, I.kept (t' := tk) hk, ⟨t, rfl⟩, k.here q (Rep.str ?_)⟩
        unfold reprS
        rw [sizeLine_eq]; omega
    rcases ok with ok | ok
    · exact go false ok trivial
    · exact go true ok trivial
  · exact w2.elim
end T3

namespace T3
open PySem PySem.Spec PyProof.Rows L2

/-! ## the end of a law: at the caller's place, where no repr is under way -/
section
variable {P : Program} {w : World} {K : PySem.W.Frag} {mg mb : Str → Option Value} {CX : CXT}
/-- a def at one place -/
theorem fn_at {base : Heap} {k : Nat} {f : Addr} {nm ql : Str} {prm : Arguments} {bd : List Stmt} {sc : Scope} {dV kV doc pm cdv ct oc : Value} {an od : Option Addr} {osl : Array (Option Value)} {N ps : List Str} {A : Around} {outer : List Env} {st : Shared} {G : Hp} {ags : Args} {us : List Value} {vs : List V} {Q : VK} {E : XK}
    (lk : K.lookup f = some ⟨oc, od, .func (PySem.W.fnOf nm ql prm bd sc dV kV doc pm an cdv ct), osl⟩) (hcd : PySem.W.codeIn K cdv ql = true) (S : FnScope N ps sc) (room : Room (k + 1) A) (e0 : Env0 P w K mg base A outer st G)
    (hb : BindsTo st (PySem.W.fnOf nm ql prm bd sc dV kV doc pm an cdv ct) ags (ps.zip us)) (rv : Vals vs us) (hl : vs.length = ps.length)
    (body : ∃ t, PSs (cxOf CX P w K mg base N ql sc f cdv A outer st G E) bd t ∧ t { nx := fun _ G' => Q .non G', rt := Q } (L2.start N vs) G) : codeAny (model P w) A (.call (.ref f) ags) (CR CX outer P w G st Q E) st := by
  have kin : K.In st.heap := e0.mod.kin.keeps fun b o e => (e0.bs b o e).1
  have nolim : st.heap.NoLimit := e0.mod.nolimit.keeps fun b o e => (e0.bs b o e).1
  have kinds : ∀ y ∈ ps.zip us, sc.names.lookup y.1 = some .local ∨ (sc.names.lookup y.1 = some .cell ∧ ((cellsFrom (st.heap.objs.size + 1) sc.names []).lookup y.1).isSome = true) := by
    rintro ⟨n, v⟩ hy
    refine (S.par n (List.of_mem_zip hy).1).imp id fun q => ⟨q, PySem.W.cellsFrom_some _ _ _ (.inl q)⟩
  refine codeAny_call_function room.depth (kin _ _ lk) rfl S.co S.gen rfl (PySem.W.codeRec_of kin hcd) (hb _ _ _ _ (wpAny_newFunctionEnv_cells S.kind kinds fun env he s1 x => ?_))
  subst he
  refine ⟨nolim.keeps x.toInCall.keep, codeAny_func ?_⟩
  obtain ⟨t, ht, q⟩ := body
  have I0 := inv_start (CX := CX) (P := P) (w := w) (mg := mg) (base := base) (E := E) (N := N) (qual := ql) (f := f) (cd := cdv) S room.hd e0 hl rv x
  refine wpAny_mono (ht.run [] s1 (L2.start N vs) G _ I0 q) (fun fl s2 h => ?_) fun e s2 h => h
  cases fl with
  | ret u => obtain ⟨v, σ2, G2, J, r2, q2⟩ := h; exact ⟨v, G2, J.os, J.bare, J.base, J.hok, r2, q2⟩
  | next => obtain ⟨σ2, G2, J, q2⟩ := h; exact ⟨.non, G2, J.os, J.bare, J.base, J.hok, rfl, q2⟩
  | brk => obtain ⟨_, _, _, q2⟩ := h; exact q2.elim
  | cont => obtain ⟨_, _, _, q2⟩ := h; exact q2.elim
variable {s₁ : Shared} {fa a c Pt : Addr} {us : List Value} {ns : List Int}
/-- what is tracked at the entry: the script, the table -/
def HpL (K : PySem.W.Frag) (a Pt : Addr) (us : List Value) (ns : List Int) : Hp := fun b =>
  if b = Pt then some (.tbl #[]) else if b = a ∧ K.lookup a = none then some (.frz { cls := .type "list", data := .seq us.toArray } (.lst (ns.map V.int))) else none
theorem end_at (KX : K.In s₁.heap) (hns : s₁.heap.Ns mainGlobals mg) (hb : s₁.heap.Ns builtinsNs mb) (hbb : ∀ x : Str, x ≠ "__name__" → mb x = bootBuiltins x) (hlim : s₁.heap.NoLimit) (hg : s₁.gens = #[])
    (hT : s₁.heap.get? Pt = some (PySem.W.tabObj #[])) (nT : K.lookup Pt = none) (C : PySem.W.CodeHd s₁.heap c Pt)
    (hbm : ∃ (bm : Addr) (ob : Obj), mg "__builtins__" = some (.ref bm) ∧ bm ≠ builtinsNs ∧ s₁.heap.get? bm = some ob ∧ ob.cls = .type "module" ∧ ob.dict = some builtinsNs ∧ ob.data = .plain)
    (ha : s₁.heap.get? a = some { cls := .type "list", data := .seq us.toArray }) (hi : IntsAre us ns) (hz : ns.length ≤ sizeLine)
    (F : ∀ (base : Heap) (G : Hp), Env0 P w K mg base callerA [] s₁ G → LamX.TabB base mg c Pt → G Pt = some (.tbl #[]) → SqL K G a (ns.map V.int) → codeAny (model P w) callerA (.call (.ref fa) ⟨[.ref a], []⟩) (CR CX [] P w G s₁ (fun v _ => v = .bl true) fun _ _ _ => False) s₁)
    (hCX : ∀ G e s', CX [] G s₁ (fun _ _ _ => False) e s' → False) :
    codeAny (model P w) callerA (.call (.ref fa) ⟨[.ref a], []⟩) (fun r s' => r = .ok (.ret (.bool true)) ∧ OldK s₁.heap s'.heap ∧ s'.os = s₁.os ∧ AllBare s'.gens) s₁ := by
  have rv := vals_ints hi
  have lv := hi.length
  have aP : a ≠ Pt := fun z => by
    rw [z, hT] at ha
    have q := congrArg Obj.data (Option.some.inj ha)
    cases q
  generalize eG : HpL K a Pt us ns = G
  have gP : G Pt = some (.tbl #[]) := by rw [← eG]; exact if_pos rfl
  -- what stands at each place
  have gat : ∀ b u, G b = some u → (b = Pt ∧ u = .tbl #[]) ∨ (b = a ∧ K.lookup a = none ∧ u = .frz { cls := .type "list", data := .seq us.toArray } (.lst (ns.map V.int))) := fun b u q => by
    rw [← eG] at q
    unfold HpL at q
    split at q
    · rename_i e; cases q; exact .inl ⟨e, rfl⟩
    · split at q
      · rename_i e; cases q; exact .inr ⟨e.1, e.2, rfl⟩
      · cases q
  have gno : ∀ {b : Addr} {o : Obj}, s₁.heap.get? b = some o → (∀ vs n, o.data ≠ .seq vs n) → o.data ≠ .fields #[] → G b = none := fun {b o} e h1 h2 => by
    cases q : G b with
    | none => rfl
    | some u =>
      exfalso
      rcases gat b u q with ⟨z, _⟩ | ⟨z, _⟩
      · rw [z, hT] at e; cases e; exact h2 rfl
      · rw [z, ha] at e; cases e; exact h1 _ _ rfl
  have gdict : ∀ {b : Addr} {o : Obj} {es : Array DictEntry} {ep : Nat}, s₁.heap.get? b = some o → o.data = .dict es ep → G b = none := fun {b o es ep} e d =>
    gno e (fun vs n z => by rw [d] at z; cases z) fun z => by rw [d] at z; cases z
  have ns' : ∀ {b : Addr} {m : Str → Option Value}, s₁.heap.Ns b m → (hidT s₁.heap G).Ns b m := fun ⟨o, es, ep, e, d, r⟩ => ⟨o, es, ep, hidT_get e (gdict e d), d, r⟩
  have hS : SqL K G a (ns.map V.int) := by
    cases q : K.lookup a with
    | none => refine .inl (.inr ⟨{ cls := .type "list", data := .seq us.toArray }, ?_⟩); rw [← eG]; unfold HpL; rw [if_neg aP, if_pos ⟨rfl, q⟩]
    | some o =>
      have e := KX a o q
      rw [ha] at e; cases e
      exact .inr ⟨_, us.toArray, _, q, rfl, rfl, rfl, by rw [List.size_toArray, lv]; exact hz, by simpa using rv⟩
  have hok : HOk P w G s₁.heap := fun b u q => by
    rcases gat b u q with ⟨z, z'⟩ | ⟨z, _, z'⟩
    · subst z; subst z'; exact hT
    · subst z; subst z'
      exact ⟨ha, by rw [List.length_map]; exact hz, us, _, rv, ha⟩
  have kb : K.In (hidT s₁.heap G) := fun b o e => by
    refine hidT_get (KX b o e) ?_
    cases q : G b with
    | none => rfl
    | some u =>
      exfalso
      rcases gat b u q with ⟨z, _⟩ | ⟨z, z', _⟩
      · rw [z, nT] at e; cases e
      · rw [z, z'] at e; cases e
  have md : L2.Mod K mg (hidT s₁.heap G) := ⟨kb, ns' hns, ⟨mb, ns' hb, hbb⟩, by obtain ⟨mc, h1, h2⟩ := hlim; exact ⟨mc, ns' h1, h2⟩⟩
  have mP : mainGlobals ≠ Pt := fun z => by
    obtain ⟨o, es, ep, e, hd, _⟩ := hns
    rw [z, hT] at e; cases e; cases hd
  have tb : LamX.TabB (hidT s₁.heap G) mg c Pt := by
    refine ⟨?_, ?_, mP⟩
    · obtain ⟨o, vs, fl, tf, fg, tg, nf, tx, tt, e1, r1, r2, r3, rest⟩ := C
      refine ⟨o, vs, fl, tf, fg, tg, nf, tx, tt, hidT_get e1 (gno e1 (fun vs n z => ?_) fun z => ?_), r1, r2, r3, rest⟩
      · rw [r2] at z; cases z
      · rw [r2] at z; cases z; simp at r3
    · obtain ⟨bm, ob, b1, b2, b3, b4, b5, b6⟩ := hbm
      refine ⟨bm, ob, b1, b2, fun z => ?_, fun z => ?_, hidT_get b3 (gno b3 (fun vs n z => ?_) fun z => ?_), b4, b5, b6⟩
      · obtain ⟨o, es, ep, e, hd, _⟩ := hns
        rw [z, e] at b3; cases b3; rw [hd] at b6; cases b6
      · rw [z, hT] at b3; cases b3; cases b6
      · rw [b6] at z; cases z
      · rw [b6] at z; cases z
  have e0 : Env0 P w K mg (hidT s₁.heap G) callerA [] s₁ G := ⟨rfl, md, fun b o e => of_hidT e, Nat.le_of_eq (hidT_size _ _), trivial, (fun b hb => by cases hb), hok, .of_eq hg⟩
  refine codeAny_mono (F _ G e0 tb gP hS) fun r s' h => ?_
  match r, h with
  | .error e, h => exact (hCX G e s' h).elim
  | .ok .next, h => exact h.elim
  | .ok .brk, h => exact h.elim
  | .ok .cont, h => exact h.elim
  | .ok (.ret u), ⟨v, G', os, bare, un, hok', rr, q⟩ =>
    have q' : v = .bl true := q
    subst q'
    have eu : u = Value.bool true := rr
    subst eu
    obtain ⟨more, hm⟩ := un.tbls Pt #[] gP
    have hPt : s'.heap.get? Pt = some (PySem.W.tabObj (#[] ++ more)) := hok' Pt _ hm
    have kept : ∀ b o, b ≠ Pt → s₁.heap.get? b = some o → s'.heap.get? b = some o := fun b o nb e => by
      cases q : G b with
      | none => exact un.keep b o e q (fun z => by cases z) (by simp)
      | some u =>
        rcases gat b u q with ⟨z, _⟩ | ⟨z, _, z'⟩
        · exact absurd z nb
        · rw [z'] at q
          have g1 := (hok b _ q).1
          have g2 := (hok' b _ (un.frzs b _ _ q)).1
          rw [e] at g1; cases g1
          exact g2
    refine ⟨rfl, ⟨fun b o e => ?_, fun b o e => ?_⟩, os, bare⟩
    · by_cases nb : b = Pt
      · rw [nb] at e ⊢
        rw [hT] at e; cases e
        exact .inr (.inl ⟨(C.tab hT).isCodeTable, rfl, #[], more, rfl, by rw [Array.empty_append] at hPt ⊢; exact hPt⟩)
      · exact .inl (kept b o nb e)
    · by_cases nb : b = Pt
      · rw [nb]; exact ⟨_, hPt⟩
      · exact ⟨o, kept b o nb e⟩
end
theorem noTab_lookup {K : PySem.W.Frag} {h : Heap} {Pt : Addr} (X : K.In h) (e : h.get? Pt = some (PySem.W.tabObj #[])) (hK : PySem.W.noTabs K = true) : K.lookup Pt = none := by
  cases q : K.lookup Pt with
  | none => rfl
  | some o =>
    have e' := X _ _ q
    rw [e] at e'; cases e'
    have h2 := List.all_eq_true.mp hK (Pt, PySem.W.tabObj #[]) (PySem.W.mem_of_lookupK q)
    exact absurd (show false = true from h2) Bool.false_ne_true
/-- what is to be shown of the law's body -/
structure Law3 (Pg : Program) (w : World) (K : PySem.W.Frag) (mg : Str → Option Value) (n : Nat) (fa c Pt : Addr) (sc : Scope) (N : List Str) (bd : List Stmt) : Prop where
  S : FnScope N ["script"] sc
  run : ∀ (base : Heap) (s : Shared) (H : Hp) (ns : List Int) (P : BP), K.In base → base.Ns mainGlobals mg → LamX.TabB base mg c Pt → (∀ B, P B → B.T = [(Pt, (envOfC "law" sc s.heap.objs.size fa (.ref c)).qual ++ "<lambda>")]) → ns.length ≤ n → (∀ z ∈ ns, Builtin.Int.intBits z ≤ 1048576) →
    ∃ t, PSs3 (cxOf (L2.CX Pg w) Pg w K mg base N "law" sc fa (.ref c) callerA [] s H (fun _ _ _ => False)) P bd t ∧ t { nx := fun _ _ => False, rt := fun y _ => y = .bl true } (start3 N [.lst (ns.map .int)]) (fun _ => none)
theorem cx_none {Pg : Program} {w : World} {H : Hp} {s : Shared} {e : Value} {s' : Shared} (h : L2.CX Pg w [] H s (fun _ _ _ => False) e s') : False := by
  obtain ⟨a, B, H', cls, d, ea, fl, hok, ub, na, os, ag, he⟩ := h
  exact he
theorem walk3 {l : PySem.W.OpenLaw} {n k : Nat} {q : Program} {loose : List Str} {XP : (Str → Option Value) → Heap → Prop} {YP : World → Heap → Prop} {d : DefRec} {K : Params → PySem.W.Frag}
    (hn : l.most = some n) (hn2 : n ≤ sizeLine) (hdf : d.params.defaults = []) (hr : Room (k + 1) callerA) (hdn : d.name = "law") (hrec : (recsOf q).find? (fun e => e.name == Str.ofString "law") = some d) (hY : ∀ (w : World) (h : Heap), YP w h → (K w.params).In h)
    (F : ∀ (w : World) (mg : Str → Option Value) (fa : Addr) (h : Heap), (K w.params).In h → h.Ns mainGlobals mg → mg "law" = some (.ref fa) →
      ∃ (c Pt : Addr) (prm : Arguments) (bd : List Stmt) (sc : Scope) (N : List Str) (dV kV doc pm ct oc : Value) (an od : Option Addr) (osl : Array (Option Value)), PySem.W.noTabs (K w.params) = true ∧ PySem.W.tabIn (K w.params) "law" = some (c, Pt) ∧
        (K w.params).lookup fa = some ⟨oc, od, .func (PySem.W.fnOf "law" "law" prm bd sc dV kV doc pm an (.ref c) ct), osl⟩ ∧ PySem.W.codeIn (K w.params) (.ref c) "law" = true ∧
        (∀ (s : Shared) (u : Value), BindsTo s (PySem.W.fnOf "law" "law" prm bd sc dV kV doc pm an (.ref c) ct) ⟨[u], []⟩ [("script", u)]) ∧ Law3 l.prog w (K w.params) mg n fa c Pt sc N bd) :
    PySem.W.WalkO q loose XP YP l.row.toRowW d [] (fun f vs => PySem.call f vs) := by
  refine Att.attach_callB hn hdf fun w s₀ s₁ mg mb fa o pm0 cd doc0 a us ns G Y ho hd hcd hmg hobj hints hlen hbits hg => ?_
  have KX := hY w _ Y
  rw [hdn] at hmg
  obtain ⟨c, Pt, prm, bd, sc, N, dV, kV, doc, pm, ct, oc, an, od, osl, nt, ti, lk, hcd', hb, L⟩ := F w mg fa _ KX G.T.g hmg
  obtain ⟨C, hT⟩ := PySem.W.tab_of G.T KX hrec ti
  refine end_at (CX := L2.CX l.prog w) KX G.T.g G.T.b G.T.builtins G.T.nolimit hg hT (noTab_lookup KX hT nt) C G.T.bmain hobj hints (Nat.le_trans hlen hn2) (fun base H e0 tb gP hS => ?_) fun _ _ _ h => cx_none h
  refine fn_at (N := N) (ps := ["script"]) (vs := [.ref a]) (us := [.ref a]) (k := k) lk hcd' L.S hr e0 (hb s₁ (.ref a)) (.cons rfl .nil) rfl ?_
  have mT : LamX.Tabs [(Pt, (envOfC "law" sc s₁.heap.objs.size fa (.ref c)).qual ++ "<lambda>")] H := fun p hp => by
    simp only [List.mem_singleton] at hp
    subst hp
    exact LamX.TabS.nil gP
  obtain ⟨t, ht, hq⟩ := L.run base s₁ H ns (fun B => B = ⟨fun _ => False, H, fun _ => none, [(Pt, (envOfC "law" sc s₁.heap.objs.size fa (.ref c)).qual ++ "<lambda>")]⟩) e0.mod.kin e0.mod.glob tb (fun B hB => by rw [hB]) hlen hbits
  refine ⟨_, ht _ rfl, ?_⟩
  have rs : Reps (K w.params) H (fun _ => False) [.lst (ns.map .int)] [.ref a] := by
    refine Reps.cons ?_ Reps.nil
    unfold Rep
    refine ⟨a, ns.map V.int, rfl, ?_, by rw [List.length_map]; exact Nat.le_trans hlen hn2, ints_reps ns⟩
    rcases hS with z | z
    · exact .inl ⟨fun z => z, z⟩
    · exact .inr (.inr z)
  obtain ⟨R, le⟩ := R3.begin (N := N) (M := fun _ => none) (D := fun _ => False) (fun b ⟨mo, z⟩ => by cases z) (fun b z => z.elim) (fun a mo z => by cases z) rs mT
  refine ⟨_, fun _ => none, _, _, R, hq, ⟨fun _ _ _ _ _ z => z.elim, fun y M' v H' D' e R' ry => ?_, fun _ _ _ _ _ z => z.elim, fun _ _ _ _ _ z => z.elim⟩⟩
  subst e
  exact rr_bl ry.readable
end T3

namespace T3
open PySem PySem.Spec PyProof.Rows L2

/-! ## defs and classes by name -/
structure Def3 (Pg : Program) (w : World) (K : PySem.W.Frag) (mg : Str → Option Value) (base : Heap) (k : Nat) (x : Str) (ps : List Str) (sp : Sp3) : Prop where
  ex : ∃ (f : Addr) (fd : FuncData), FnOk Pg w K mg base (L2.CX Pg w) k f fd ps (liftSp K sp) ∧ mg x = some (.ref f) ∧ PySem.W.keepIn K (.ref f) = true ∧ Binds K fd ps []
theorem hu64 {k : Nat} {A : Around} (r : Room k A) : A.units + 64 < cLine := r.units
theorem hu65 {k : Nat} {A : Around} (r : Room k A) : A.units + 65 < cLine := by have := r.un; omega
section
variable {X : Cx} {P : BP} {e : Expr} {es : List Expr} {t : TA3} {pos p : Pos} {x : Str} {k : Nat} {ps : List Str} {sp : Sp3} {W : W3}
theorem pe3_callD (D : Def3 X.prog X.w X.K X.mg X.base k x ps sp) (hr : Room k X.A) (tk : TK X P W) (ha : PA3 X P (e :: es) t) (hg : Gl X x := by rfl) (hdb : (x == ("__debug__" : Str)) = false := by decide)
    (he : starEach (e :: es) X.env = (false, eval e X.env) :: starEach es X.env := by rfl) (hpl : (backTo pos (starEach es X.env)).any (·.1) = false := by rfl) : PE3 X P (.Call (.Name x p) (e :: es) [] pos) (tCall3 sp W t) := by
  obtain ⟨f, fd, F, hm, hk, hb⟩ := D.ex
  exact pe3_call F hr hg hm hk hb tk ha hdb he hpl
theorem pe3_callD0 (D : Def3 X.prog X.w X.K X.mg X.base k x ps sp) (hr : Room k X.A) (tk : TK X P W) (hg : Gl X x := by rfl) (hdb : (x == ("__debug__" : Str)) = false := by decide) : PE3 X P (.Call (.Name x p) [] [] pos) (tCall3 sp W tNil3) := by
  obtain ⟨f, fd, F, hm, hk, hb⟩ := D.ex
  exact pe3_call0 F hr hg hm hk hb tk hdb
/-- a whole number, a text of the module -/
theorem pe3_gint {i : Int} (h : ∃ t, X.mg x = some (.int i t)) (hg : Gl X x := by rfl) (hd : (x == ("__debug__" : Str)) = false := by decide) : PE3 X P (.Name x pos) (tC3 (.int i)) := by
  obtain ⟨t, h⟩ := h
  exact pe3_glob hg h (v := .int i) ⟨t, rfl⟩ (fun _ _ => Rep.int) hd
theorem pe3_gstr {i : Str} (h : ∃ t, X.mg x = some (.str i t)) (hz : i.length ≤ sizeLine := by decide +kernel) (hg : Gl X x := by rfl) (hd : (x == ("__debug__" : Str)) = false := by decide) : PE3 X P (.Name x pos) (tC3 (.str i)) := by
  obtain ⟨t, h⟩ := h
  exact pe3_glob hg h (v := .str i) ⟨t, rfl⟩ (fun _ _ => Rep.str hz) hd
theorem pe3_gref {f : Addr} (h : X.mg x = some (.ref f)) (hg : Gl X x := by rfl) (hd : (x == ("__debug__" : Str)) = false := by decide) : PE3 X P (.Name x pos) (tC3 (.raw (.ref f))) := pe3_glob hg h (v := .ref f) rfl (fun _ _ => Rep.raw) hd
/-! ### errors -/
/-- the class x of the package's errors at C -/
structure Err3 (Pg : Program) (w : World) (K : PySem.W.Frag) (mg : Str → Option Value) (base : Heap) (x : Str) (C : Addr) : Prop where
  ex : ∃ (fI : Addr) (fd : FuncData), ErrT K mg x C fI ∧ PySem.W.typeIn K (.ref fI) = some (.type "function") ∧ FnOk Pg w K mg base CX0 1 fI fd ["self", "value"] (spErr K) ∧ Binds K fd ["self", "value"] []
theorem ps3_raiseD {C : Addr} {te : TE3} {pos2 : Pos} (E : Err3 X.prog X.w X.K X.mg X.base x C) (hr : Room 2 X.A) (tk : TK X P W) (he : PE3 X P e te) (hc : X.calm = true := by rfl) (hg : Gl X x := by rfl) (hdb : (x == ("__debug__" : Str)) = false := by decide)
    (hst : starEach (e :: []) X.env = (false, eval e X.env) :: starEach [] X.env := by rfl) (hpl : (backTo pos (starEach [] X.env)).any (·.1) = false := by rfl) : PS3 X P (.Raise (some (.Call (.Name x p) [e] [] pos)) none pos2) (tRaise3 C W te) := by
  obtain ⟨fI, fd, T, tI, F, hb⟩ := E.ex
  exact ps3_raise T tI F hr hb (fun _ _ _ _ _ _ _ h => h.elim) tk he hc hg hdb hst hpl
end
/-- YardError.__init__, its parameter with a default -/
theorem ok_errD {Pg : Program} {w : World} {K : PySem.W.Frag} {mg : Str → Option Value} {base : Heap} {f : Addr} {nm ql : Str} {prm : Arguments} {sc : Scope} {dV kV doc pm cdv ct oc : Value} {an od : Option Addr} {osl : Array (Option Value)} {p1 p2 p3 p4 : Pos}
    (lk : K.lookup f = some ⟨oc, od, .func (PySem.W.fnOf nm ql prm [.Assign [.Attribute (.Name "self" p1) "value" p2] (.Name "value" p3) p4] sc dV kV doc pm an cdv ct), osl⟩) (hcd : PySem.W.codeIn K cdv ql = true) (S : FnScope ["self", "value"] ["self", "value"] sc)
    (hs : sc.names.lookup ("self" : Str) = some NameKind.local) (hv : sc.names.lookup ("value" : Str) = some NameKind.local) :
    FnOk Pg w K mg base CX0 1 f (PySem.W.fnOf nm ql prm [.Assign [.Attribute (.Name "self" p1) "value" p2] (.Name "value" p3) p4] sc dV kV doc pm an cdv ct) ["self", "value"] (spErr K) := by
  refine fn_of (k := 0) lk hcd S (fun vs H Q E h => ?_) (fun A outer s H vs Q E hr h => ?_)
  · obtain ⟨a, C, v, rfl, _⟩ := h
    rfl
  · obtain ⟨a, C, v, rfl, T, nv, ha, k⟩ := h
    refine ⟨_, pss_one (ps_ost (pe_var (i := 0) rfl (.inl hs)) (pe_var (i := 1) rfl (.inl hv))), ?_⟩
    exact ⟨v, rfl, .ref a, rfl, a, C, rfl, T, nv, .inl ⟨ha, fun dx hd ne => k dx hd ne⟩⟩
section
variable {X : Cx} {P : BP} {a b c : Expr} {t : TA3} {pos p : Pos} {x : Str}
/-- a, b, c = x, y, z with plain local names -/
def tPar33 (i j l : Nat) (ta : TA3) : TS3 := fun D σ M => ta σ M fun xs M1 => match xs with
  | [x, y, z] => D.nx (((σ.set i (.val x)).set j (.val y)).set l (.val z)) M1
  | _ => False
theorem ps3_par3 (i j l : Nat) {x y z : Str} {ta : TA3} {px py pz pt : Pos} {kt k2 pt2} (hc : X.calm = true) (hN : X.N.Nodup) (ha : PA3 X P [a, b, c] ta) (hi : X.N[i]? = some x := by rfl) (hj : X.N[j]? = some y := by rfl) (hl : X.N[l]? = some z := by rfl) (hij : i ≠ j := by decide) (hil : i ≠ l := by decide) (hjl : j ≠ l := by decide)
    (hx : X.env.scope.names.lookup x = some .local := by rfl) (hy : X.env.scope.names.lookup y = some .local := by rfl) (hz : X.env.scope.names.lookup z = some .local := by rfl)
    (hw : swappedStores [.Tuple [.Name x px, .Name y py, .Name z pz] kt pt] (.Tuple [a, b, c] k2 pt2) X.env = pure (some [x, y, z]) := by rfl)
    (hs : swapsWithSole [.Tuple [.Name x px, .Name y py, .Name z pz] kt pt] (.Tuple [a, b, c] k2 pt2) pos.line X.env = pure false := by rfl) :
    PS3 X P (.Assign [.Tuple [.Name x px, .Name y py, .Name z pz] kt pt] (.Tuple [a, b, c] k2 pt2) pos) (tPar33 i j l ta) := fun B hB =>
  PS.imp (ps_par3 hc hN hi hj hl hij hil hjl hx hy hz (ha B hB) hw hs) fun D τ H ⟨σ, M, oa, E, R, w, k⟩ => ⟨σ, M, oa, _, R, w, fun xs M1 vs H1 q1 R1 f1 r1 => by
    match xs, q1 with
    | [x, y, z], q1 =>
      unfold Reps at r1
      obtain ⟨v, r, e1, h1, h2⟩ := r1
      subst e1
      obtain ⟨u, w, e2, h3, h4⟩ := reps2 h2
      subst e2
      obtain ⟨R2, f2⟩ := R1.put (k := i) h1
      obtain ⟨R3', f3⟩ := R2.put (k := j) (h3.fr f2)
      obtain ⟨R4, f4⟩ := R3'.put (k := l) ((h4.fr f2).fr f3)
      exact ⟨v, u, w, rfl, k.nx _ _ _ _ _ q1 R4 (f1.trans (f2.trans (f3.trans f4))).all⟩⟩
/-- a new list is given to the memory -/
theorem pe3_ofM {te : TE3} (h : PO3 X P a te) : PE3 X P a (fun σ M Q => te σ M fun x M1 => match x with
  | .lst xs => ∀ b, M1 b = none → Q (.raw (.ref b)) (M1.put b (.lst xs))
  | _ => False) := fun B hB => PE.imp (h B hB) fun τ H Q ⟨σ, M, oa, Q3, R, w, k⟩ => ⟨σ, M, oa, _, R, w, fun x M1 b H1 q1 F f1 => by
    cases x with
    | lst xs =>
      obtain ⟨R2, s2, ma⟩ := F.putMem
      have f2 : Fr3 H H1 (Zm B.DE σ M oa) (Zm B.DE σ (M1.put b (.lst xs)) oa) := by
        refine ⟨f1.keep, f1.live, f1.tups, fun c d => ?_, fun c d => ?_⟩
        · exact f1.new c (s2 c d)
        · obtain ⟨mo, d⟩ := d
          by_cases hb : c = b
          · subst hb
            rcases f1.new c (.inl (.inr rfl)) with (z | z | ⟨i, y, e, z⟩) | z
            · exact absurd (.inl z) F.nd
            · exact .inl z
            · exact absurd (.inr (.inr ⟨i, y, e, z⟩)) F.nd
            · exact .inr z
          · rw [Mem.put_ne hb] at d; exact f1.newM c ⟨mo, d⟩
      exact k _ _ _ _ (q1 b ma) R2 f2 rfl
    | _ => exact q1.elim⟩
end
end T3

namespace T3
open PySem PySem.Spec PyProof.Rows L2

abbrev tNotV3 (ta : TE3) : TE3 := fun σ M Q => ta σ M fun x M1 => asB x fun c => Q (.bl (!c)) M1
abbrev tTru3 (te : TE3) : TT3 := fun σ M Q => te σ M fun x M1 => truW (look M1 x) fun b => Q b M1
section
variable {X : Cx} {P : BP} {tg e a : Expr} {te ta : TE3} {pos p apos cpos : Pos} {x : Str}
/-- a list or a tuple that is walked -/
def iSeqX (K : PySem.W.Frag) (te : TE) : TI := fun σ H R => te σ H fun v H1 => ∃ a t xs, v = .ref a ∧ SqX K H1 t a xs ∧ R (if t = true then Itt K a else Itl K a) H1
theorem pi_seqX {t : TE} (he : PE X e t) : PI X tg e (iSeqX X.K t) := ⟨fun pins s σ H R I h => by
  refine thn (he.run pins s σ H _ I h) fun v s1 ⟨y, H1, I1, r1, a, t, xs, ey, hq, q⟩ => ?_
  subst ey
  cases r1
  cases t with
  | true =>
    obtain ⟨its, rv, p, hz⟩ := I1.tuple hq
    exact wpAny_pyIter_tuple (show s1.heap.IsTuple a its.toArray from p) (pi_one (tk := s1.toks) I1 _ (turn_tuple a _) ⟨_, Heap.get?_push_size _ rfl, rfl, rfl⟩ q)
  | false =>
    obtain ⟨its, rv, p, hz⟩ := I1.list hq
    exact wpAny_pyIter_list p.isList (pi_one (tk := s1.toks) I1 _ (turn_list a _) ⟨_, Heap.get?_push_size _ rfl, rfl, rfl⟩ q)⟩
def iSeq3 (te : TE3) : TI3 := fun σ M Q => te σ M fun x M1 => seqW x fun ys => Q ys M1
theorem pi3_seq (h : PE3 X P e te) : PI3 X P tg e (iSeq3 te) := fun B hB =>
  PI.imp (pi_seqX (h B hB)) fun τ H R ⟨σ, M, oa, Q3, RR, w, k⟩ => ⟨σ, M, oa, _, RR, w, fun x M1 v H1 q1 R1 f1 r1 => by
    rcases seqW_of q1 with ⟨ys, e, q⟩ | ⟨ys, e, q⟩
    · subst e
      unfold Rep at r1
      obtain ⟨a, vs, ev, t, z, r⟩ := r1
      exact ⟨a, false, vs, ev, t.sq, k ys M1 _ H1 q R1 f1 (by rw [← r.len]; exact z) (it_list t r)⟩
    · subst e
      unfold Rep at r1
      obtain ⟨a, vs, ev, t, z, r⟩ := r1
      exact ⟨a, true, vs, ev, t.sq, k ys M1 _ H1 q R1 f1 (by rw [← r.len]; exact z) (it_tup t r)⟩⟩
/-- x.extend(e), e a fresh list, the list that slot i owns -/
def tExtO3 (i : Nat) (te : TE3) : TS3 := fun D σ M => ownLst σ i fun xs => te σ M fun v M1 => lstW v fun ys => szW (xs ++ ys) ∧ D.nx (σ.set i (.own (.lst (xs ++ ys)))) M1
theorem ps3_extO (i : Nat) (ha : PO3 X P e te) (hN : X.N[i]? = some x := by rfl)
    (hv : Vis X.env.scope x := by first | exact Or.inl rfl | exact Or.inr (Or.inl rfl) | exact Or.inr (Or.inr rfl)) (hd : (x == ("__debug__" : Str)) = false := by decide) (hcd : (x == ("__classdict__" : Str)) = false := by decide)
    (hbase : attributeBase (.Name x p) "extend" X.env (eval (.Name x p) X.env) = eval (.Name x p) X.env := by rfl)
    (hfew : ((backTo cpos (starEach [e] X.env)).all (fun x => !x.1) && (backToKw cpos (keywordEach [] X.env)).all (fun x => x.1.isSome)
      && decide ([e].length + ([] : List Keyword).length + (if ([] : List Keyword).isEmpty then 0 else 1) < 30)) = true := by rfl)
    (hline : (apos.endLine == cpos.line) = true := by rfl) (hs : starEach [e] X.env = (false, eval e X.env) :: starEach [] X.env := by rfl) (hplain : (backTo cpos (starEach [] X.env)).any (·.1) = false := by rfl)
    (hsw : swapsWith (.Call (.Attribute (.Name x p) "extend" apos) [e] [] cpos) none pos.line X.env = pure false := by rfl) :
    PS3 X P (.Expr (.Call (.Attribute (.Name x p) "extend" apos) [e] [] cpos) pos) (tExtO3 i te) := fun B hB =>
  PS.imp (ps_expr (pe_bm (r := rExtend) PySem.F.plainAttrs_list PySem.F.slot_list_extend PySem.F.type_list_extend mt_extend (pe_var hN hv hd hcd) (pa_cons (ha B hB) pa_nil hs) hbase hfew hline hs hplain) hsw) fun D τ H ⟨σ, M, oa, E, R, q, k⟩ => by
    obtain ⟨xs, ex, q⟩ := ownLst_of q
    obtain ⟨eτ, us, h0, z0, r0⟩ := R.own i _ ex
    refine ⟨_, eτ, .inl ⟨rfl, us, .of h0⟩, σ, M, oa, _, R, q, fun v M1 b H1 q1 F f1 => ?_⟩
    obtain ⟨ys, rfl, sz, q2⟩ := lstW_of q1
    obtain ⟨zs, g1, g2, g3⟩ := F.rep
    obtain ⟨_, us, h1, z1, r2⟩ := F.st.own i _ ex
    obtain ⟨R1, rf⟩ := F.frozen
    have mn := F.st.minus F.hE
    have r2' := r2.fr mn.2
    have g3' := g3.fr mn.2
    have hz : us.length + zs.length ≤ sizeLine := szW_app sz r2.len g3.len
    refine ⟨oa i, b, us, zs, rfl, rfl, h1, g1, hz, ?_⟩
    obtain ⟨R2, f2⟩ := R1.setOwn ex (r2'.app g3') (by rw [List.length_append]; exact hz)
    exact k.nx _ _ _ _ _ q2 R2 (f1.all.trans (mn.2.all.trans f2))
end
end T3

namespace T3
open PySem PySem.Spec PyProof.Rows L2

/-! ## the readings as equations -/
section
variable {σ : Sl} {M : Mem} {D : D3} {Q : PV → Mem → Prop} {QA : List PV → Mem → Prop} {QB : Bool → Mem → Prop} {QI : List PV → Mem → Prop} {QG : Sl → Mem → Prop} {te ta tb tc : TE3} {t u : TS3} {tr : TA3} {c d : TT3} {i j n : Nat} {x y : PV} {k : PV → Prop} {W : W3} {sp : Sp3} {xs ys : List PV}
@[simp] theorem e_ret : tRet3 te D σ M = te σ M D.rt := rfl
@[simp] theorem e_retN : tRetN3 D σ M = D.rt .non M := rfl
@[simp] theorem e_next : tNext3 D σ M = D.nx σ M := rfl
@[simp] theorem e_break : tBreak3 D σ M = D.bk σ M := rfl
@[simp] theorem e_seq : tSeq3 t u D σ M = t { D with nx := u D } σ M := rfl
@[simp] theorem e_drop : tDrop3 te D σ M = te σ M fun _ M1 => D.nx σ M1 := rfl
@[simp] theorem e_ifS : tIfS3 c t u D σ M = c σ M fun b M1 => if b = true then t D σ M1 else u D σ M1 := rfl
@[simp] theorem e_set : tSet3 i te D σ M = te σ M fun x M1 => D.nx (σ.set i (.val x)) M1 := rfl
@[simp] theorem e_setO : tSetO3 i te D σ M = te σ M fun x M1 => D.nx (σ.set i (.own x)) M1 := rfl
@[simp] theorem e_setM : tSetM3 i te D σ M = te σ M fun x M1 => match x with
  | .lst xs => ∀ a, M1 a = none → D.nx (σ.set i (.val (.raw (.ref a)))) (M1.put a (.lst xs))
  | _ => False := rfl
@[simp] theorem e_asg {g : TG3} : tAsg3 te g D σ M = te σ M fun x M1 => g x σ M1 D.nx := rfl
@[simp] theorem e_par : tPar3 i j tr D σ M = tr σ M fun xs M1 => match xs with
  | [x, y] => D.nx ((σ.set i (.val x)).set j (.val y)) M1
  | _ => False := rfl
@[simp] theorem e_raise {C : Addr} : tRaise3 C W te D σ M = te σ M fun x M1 => W C x M1 := rfl
@[simp] theorem e_for {wi : TI3} {g : TG3} : tFor3 wi g t D σ M = wi σ M fun ys M1 => forW g t D ys σ M1 := rfl
@[simp] theorem e_forN {g : TG3} : forW g t D [] σ M = D.nx σ M := rfl
theorem e_forC {g : TG3} : forW g t D (y :: ys) σ M = g y σ M fun σ1 M1 => t { D with nx := fun σ2 M2 => forW g t D ys σ2 M2, ct := fun σ2 M2 => forW g t D ys σ2 M2, bk := D.nx } σ1 M1 := rfl
@[simp] theorem e_aug {f : Int → Int → Int} : tAug3 i f te D σ M = slotW σ i fun x => intW x fun j => te σ M fun y M1 => intW y fun n => D.nx (σ.set i (.val (.int (f j n)))) M1 := rfl
@[simp] theorem e_mtO {w : W1} : tMtO3 i w tr D σ M = ownLst σ i fun xs => tr σ M fun ps M1 => w xs ps fun ys => D.nx (σ.set i (.own (.lst ys))) M1 := rfl
@[simp] theorem e_ixO {ti : TE3} : tIxO3 i te ti D σ M = ownLst σ i fun xs => te σ M fun v M1 => ti σ M1 fun y M2 => intW y fun j => optW (ixN xs.length j) fun n => D.nx (σ.set i (.own (.lst (xs.set n v)))) M2 := rfl
@[simp] theorem e_ixM {ti to : TE3} : tIxM3 te to ti D σ M = te σ M fun v M1 => to σ M1 fun r M2 => ti σ M2 fun y M3 => intW y fun j => memLst r M3 fun a xs => optW (ixN xs.length j) fun n => D.nx σ (M3.put a (.lst (xs.set n v))) := rfl
@[simp] theorem e_var : tVar3 i σ M Q = slotW σ i fun x => Q x M := rfl
@[simp] theorem e_varB : tVarB3 i σ M Q = slotBW σ i fun x => Q x M := rfl
@[simp] theorem e_c : tC3 x σ M Q = Q x M := rfl
@[simp] theorem e_op {r : R2T} : tOp3 r ta tb σ M Q = ta σ M fun x M1 => tb σ M1 fun y M2 => r (look M2 x) (look M2 y) fun z => Q z M2 := rfl
@[simp] theorem e_un {r : R1T} : tUn3 r ta σ M Q = ta σ M fun x M1 => r (look M1 x) fun z => Q z M1 := rfl
@[simp] theorem e_test : tTest3 te σ M QB = te σ M fun x M1 => asB x fun b => QB b M1 := rfl
@[simp] theorem e_chain {r r' : R2T} : tChain3 r r' ta tb tc σ M Q = ta σ M fun x M1 => tb σ M1 fun y M2 => r (look M2 x) (look M2 y) fun z => asB z fun k => if k = true then tc σ M2 fun w M3 => r' (look M3 y) (look M3 w) fun z' => Q z' M3 else Q (.bl false) M2 := rfl
@[simp] theorem e_and : tAnd3 c d σ M QB = c σ M fun c M1 => if c = true then d σ M1 QB else QB false M1 := rfl
@[simp] theorem e_or : tOr3 c d σ M QB = c σ M fun c M1 => if c = true then QB true M1 else d σ M1 QB := rfl
@[simp] theorem e_not : tNot3 c σ M QB = c σ M fun c M1 => QB (!c) M1 := rfl
@[simp] theorem e_tru : tTru3 te σ M QB = te σ M fun x M1 => truW (look M1 x) fun b => QB b M1 := rfl
@[simp] theorem e_andV : tAndV3 ta tb σ M Q = ta σ M fun x M1 => asB x fun c => if c = true then tb σ M1 Q else Q (.bl false) M1 := rfl
@[simp] theorem e_orV : tOrV3 ta tb σ M Q = ta σ M fun x M1 => asB x fun c => if c = true then Q (.bl true) M1 else tb σ M1 Q := rfl
@[simp] theorem e_notV : tNotV3 ta σ M Q = ta σ M fun x M1 => asB x fun c => Q (.bl (!c)) M1 := rfl
@[simp] theorem e_if : tIf3 c ta tb σ M Q = c σ M fun c M1 => if c = true then ta σ M1 Q else tb σ M1 Q := rfl
@[simp] theorem e_nil : tNil3 σ M QA = QA [] M := rfl
@[simp] theorem e_cons : tCons3 ta tr σ M QA = ta σ M fun x M1 => tr σ M1 fun xs M2 => QA (x :: xs) M2 := rfl
@[simp] theorem e_tup : tTup3 tr σ M Q = tr σ M fun xs M1 => szW xs ∧ Q (.tup xs) M1 := rfl
@[simp] theorem e_lst : tLst3 tr σ M Q = tr σ M fun xs M1 => szW xs ∧ Q (.lst xs) M1 := rfl
@[simp] theorem e_star : tStar3 ta tr σ M QA = ta σ M fun x M1 => seqW x fun xs => tr σ M1 fun ys M2 => QA (xs ++ ys) M2 := rfl
@[simp] theorem e_cb {r : RnT} : tCB3 r tr σ M Q = tr σ M fun xs M1 => r (xs.map (look M1)) fun z => Q z M1 := rfl
@[simp] theorem e_call : tCall3 sp W tr σ M Q = tr σ M fun xs M1 => sp xs M1 Q W := rfl
@[simp] theorem e_isi {f : PV → Option Bool} : tIsi3 f te σ M Q = te σ M fun x M1 => optW (f (look M1 x)) fun b => Q (.bl b) M1 := rfl
@[simp] theorem e_isi2 {f g : PV → Option Bool} : tIsi2 f g te σ M Q = te σ M fun x M1 => optW (f (look M1 x)) fun b => if b = true then Q (.bl true) M1 else optW (g (look M1 x)) fun c => Q (.bl c) M1 := rfl
@[simp] theorem e_rep : tRep3 ta tb σ M Q = ta σ M fun x M1 => lstW x fun xs => tb σ M1 fun y M2 => intW y fun j => (-16777216 ≤ j ∧ j ≤ 16777216 ∧ xs.length * j.toNat ≤ 16777216) ∧ Q (.lst (List.replicate j.toNat xs).flatten) M2 := rfl
@[simp] theorem e_sl {tl th : TP3} : tSl3 te tl th σ M Q = te σ M fun x M1 => tl σ M1 fun l M2 => th σ M2 fun u M3 => slW (look M3 x) l u fun z => Q z M3 := rfl
@[simp] theorem e_noP {QP : Option Int → Mem → Prop} : tNoP3 σ M QP = QP none M := rfl
@[simp] theorem e_p {QP : Option Int → Mem → Prop} : tP3 te σ M QP = te σ M fun x M1 => intW x fun i => QP (some i) M1 := rfl
@[simp] theorem e_mt {T : String} {w : PV → RnT} {to : TE3} : tMt3 T w to tr σ M Q = to σ M fun x M1 => tyP T (look M1 x) ∧ tr σ M1 fun ps M2 => w (look M2 x) (ps.map (look M2)) fun z => Q z M2 := rfl
@[simp] theorem e_comp {wi : TI3} {g : TG3} {vs : List Nat} : tComp3 wi g c te vs σ M Q = (noOwn σ vs ∧ wi σ M fun ys M1 => compW g c te vs σ Q ys [] M1) := rfl
@[simp] theorem e_compN {g : TG3} {vs : List Nat} {acc : List PV} : compW g c te vs σ Q [] acc M = Q (.lst acc) M := rfl
theorem e_compC {g : TG3} {vs : List Nat} {acc : List PV} : compW g c te vs σ Q (y :: ys) acc M = g y (wipe3 σ vs) M fun σ1 M1 => c σ1 M1 fun b M2 => if b = true then te σ1 M2 fun z M3 => compW g c te vs σ Q ys (acc ++ [z]) M3 else compW g c te vs σ Q ys acc M2 := rfl
@[simp] theorem e_yes : tYes3 σ M QB = QB true M := rfl
@[simp] theorem e_gn : gName3 i x σ M QG = QG (σ.set i (.val x)) M := rfl
@[simp] theorem e_gt {gs : TGs3} : gTup3 n gs (.tup xs) σ M QG = (xs.length = n ∧ gs xs σ M QG) := rfl
@[simp] theorem e_gnil : gNil3 xs σ M QG = (xs = [] ∧ QG σ M) := rfl
@[simp] theorem e_gcons {g : TG3} {gs : TGs3} : gCons3 g gs (x :: xs) σ M QG = g x σ M fun σ1 M1 => gs xs σ1 M1 QG := rfl
@[simp] theorem e_iLst : iLst3 te σ M QI = te σ M fun x M1 => lstW x fun ys => QI ys M1 := rfl
@[simp] theorem e_iTup : iTup3 te σ M QI = te σ M fun x M1 => tupW x fun ys => QI ys M1 := rfl
@[simp] theorem e_iSeq : iSeq3 te σ M QI = te σ M fun x M1 => seqW x fun ys => QI ys M1 := rfl
@[simp] theorem e_iRg1 : iRange1 tr σ M QI = tr σ M fun xs M1 => match xs with
  | [x] => intW x fun j => smW j ∧ QI (intsFrom 0 j.toNat) M1
  | _ => False := rfl
@[simp] theorem e_iRg2 : iRange2 tr σ M QI = tr σ M fun xs M1 => match xs with
  | [x, y] => intW x fun i => intW y fun j => (smW i ∧ smW j ∧ j - i ≤ 16777216) ∧ QI (intsFrom i (j - i).toNat) M1
  | _ => False := rfl
@[simp] theorem e_iEn : iEn3 tr σ M QI = tr σ M fun xs M1 => match xs with
  | [x] => seqW x fun ys => QI (enumP 0 ys) M1
  | _ => False := rfl
@[simp] theorem e_iZp : iZp3 tr σ M QI = tr σ M fun xs M1 => match xs with
  | [x, y] => seqW x fun a => seqW y fun b => QI (zipP a b) M1
  | _ => False := rfl
@[simp] theorem e_ref {ws : List (Addr × Str)} {tbb : W3 → TE3} : tRef3 ws tbb σ M Q = tbb (fun C y M' => optW (ws.lookup C) fun wd => Q (.tup [.str wd, y]) M') (unown σ) M fun _ M' => Q (.tup [.str "", .non]) M' := rfl
/-! slots -/
@[simp] theorem e_sw0 : slotW (.val x :: σ) 0 k = k x := rfl
@[simp] theorem e_sws {s : Slot} : slotW (s :: σ) (i + 1) k = slotW σ i k := rfl
@[simp] theorem e_sb0 : slotBW (.val x :: σ) 0 k = k x := rfl
@[simp] theorem e_sb0' : slotBW (.own x :: σ) 0 k = k x := rfl
@[simp] theorem e_sbs {s : Slot} : slotBW (s :: σ) (i + 1) k = slotBW σ i k := rfl
@[simp] theorem e_ow0 {k : List PV → Prop} : ownLst (.own (.lst xs) :: σ) 0 k = k xs := rfl
@[simp] theorem e_ows {s : Slot} {k : List PV → Prop} : ownLst (s :: σ) (i + 1) k = ownLst σ i k := rfl
@[simp] theorem e_wip0 {s : Slot} : wipe3 σ [] = σ := rfl
@[simp] theorem e_wip {v : Nat} {vs : List Nat} : wipe3 σ (v :: vs) = (wipe3 σ vs).set v .un := rfl
@[simp] theorem e_unown0 : unown [] = [] := rfl
@[simp] theorem e_unownV : unown (.val x :: σ) = .val x :: unown σ := rfl
@[simp] theorem e_unownU : unown (.un :: σ) = .un :: unown σ := rfl
@[simp] theorem e_unownO : unown (.own x :: σ) = .un :: unown σ := rfl
@[simp] theorem e_noOwn0 : noOwn σ [] = True := by simp [noOwn]
@[simp] theorem e_noOwnC {vs : List Nat} : noOwn σ (i :: vs) = ((match σ[i]? with | some (Slot.own _) => False | _ => True) ∧ noOwn σ vs) := propext ⟨fun h => ⟨h i (List.mem_cons_self ..), fun j hj => h j (List.mem_cons_of_mem _ hj)⟩, fun h j hj => (List.mem_cons.mp hj).elim (fun e => e ▸ h.1) (h.2 j)⟩
/-! values -/
@[simp] theorem e_intW {i : Int} {k : Int → Prop} : intW (.int i) k = k i := rfl
@[simp] theorem e_lstW {k : List PV → Prop} : lstW (.lst xs) k = k xs := rfl
@[simp] theorem e_tupW {k : List PV → Prop} : tupW (.tup xs) k = k xs := rfl
@[simp] theorem e_seqL {k : List PV → Prop} : seqW (.lst xs) k = k xs := rfl
@[simp] theorem e_seqT {k : List PV → Prop} : seqW (.tup xs) k = k xs := rfl
@[simp] theorem e_asB {b : Bool} {k : Bool → Prop} : asB (.bl b) k = k b := rfl
@[simp] theorem e_optS {α : Type} {x : α} {k : α → Prop} : optW (some x) k = k x := rfl
@[simp] theorem e_optN {α : Type} {k : α → Prop} : optW none k = False := rfl
@[simp] theorem e_lkI {i : Int} : look M (.int i) = .int i := rfl
@[simp] theorem e_lkN : look M .non = .non := rfl
@[simp] theorem e_lkB {b : Bool} : look M (.bl b) = .bl b := rfl
@[simp] theorem e_lkS {s : Str} : look M (.str s) = .str s := rfl
@[simp] theorem e_lkT : look M (.tup xs) = .tup xs := rfl
@[simp] theorem e_lkL : look M (.lst xs) = .lst xs := rfl
@[simp] theorem e_trN {k : Bool → Prop} : truW .non k = k false := rfl
@[simp] theorem e_trB {b : Bool} {k : Bool → Prop} : truW (.bl b) k = k b := rfl
@[simp] theorem e_trI {i : Int} {k : Bool → Prop} : truW (.int i) k = k (i != 0) := rfl
@[simp] theorem e_trT {k : Bool → Prop} : truW (.tup xs) k = k (!xs.isEmpty) := rfl
@[simp] theorem e_trL {k : Bool → Prop} : truW (.lst xs) k = k (!xs.isEmpty) := rfl
@[simp] theorem e_len : rLen3 [x] k = lenW x fun n => k (.int n) := rfl
@[simp] theorem e_lenT {k : Int → Prop} : lenW (.tup xs) k = k (xs.length : Int) := rfl
@[simp] theorem e_lenL {k : Int → Prop} : lenW (.lst xs) k = k (xs.length : Int) := rfl
@[simp] theorem e_lenS {s : Str} {k : Int → Prop} : lenW (.str s) k = k (s.length : Int) := rfl
@[simp] theorem e_addI {i j : Int} : rAdd3 (.int i) (.int j) k = k (.int (i + j)) := rfl
@[simp] theorem e_addT : rAdd3 (.tup xs) (.tup ys) k = (szW (xs ++ ys) ∧ k (.tup (xs ++ ys))) := rfl
@[simp] theorem e_addL : rAdd3 (.lst xs) (.lst ys) k = (szW (xs ++ ys) ∧ k (.lst (xs ++ ys))) := rfl
@[simp] theorem e_subI {i j : Int} : rSub3 (.int i) (.int j) k = k (.int (i - j)) := rfl
@[simp] theorem e_mulI {i j : Int} : rMul3 (.int i) (.int j) k = ((i.natAbs < 18446744073709551616 ∨ j.natAbs < 18446744073709551616) ∧ k (.int (i * j))) := rfl
@[simp] theorem e_divI {i j : Int} : rDiv3 (.int i) (.int j) k = ((0 < j ∧ j < 18446744073709551616) ∧ k (.int (i / j))) := rfl
@[simp] theorem e_modI {i j : Int} : rMod3 (.int i) (.int j) k = (0 < j ∧ k (.int (i % j))) := rfl
@[simp] theorem e_powI {i j : Int} : rPow3 (.int i) (.int j) k = ((0 ≤ j ∧ j ≤ 1000 ∧ i.natAbs < 1000) ∧ k (.int (i ^ j.toNat))) := rfl
@[simp] theorem e_negI {i : Int} : rNeg3 (.int i) k = k (.int (-i)) := rfl
@[simp] theorem e_ltI {i j : Int} : rLtX (.int i) (.int j) k = k (.bl (decide (i < j))) := rfl
@[simp] theorem e_gtI {i j : Int} : rGtX (.int i) (.int j) k = k (.bl (decide (j < i))) := rfl
@[simp] theorem e_leI {i j : Int} : rLeX (.int i) (.int j) k = k (.bl (decide (i ≤ j))) := rfl
@[simp] theorem e_geI {i j : Int} : rGeX (.int i) (.int j) k = k (.bl (decide (j ≤ i))) := rfl
@[simp] theorem e_eq : rEq3 x y k = ((scalP x y = true ∨ dpt 60 x = true ∧ dpt 60 y = true) ∧ k (.bl (eqP x y))) := rfl
@[simp] theorem e_ne : rNe3 x y k = ((scalP x y = true ∨ dpt 60 x = true ∧ dpt 60 y = true) ∧ k (.bl (!eqP x y))) := rfl
@[simp] theorem e_scI {i j : Int} : scalP (.int i) (.int j) = true := rfl
@[simp] theorem e_scB {i j : Bool} : scalP (.bl i) (.bl j) = true := rfl
@[simp] theorem e_scS {i j : Str} : scalP (.str i) (.str j) = true := rfl
@[simp] theorem e_dN {n : Nat} : dpt n .non = true := by cases n <;> rfl
@[simp] theorem e_dB {n : Nat} {b : Bool} : dpt n (.bl b) = true := by cases n <;> rfl
@[simp] theorem e_dI {n : Nat} {b : Int} : dpt n (.int b) = true := by cases n <;> rfl
@[simp] theorem e_dT {n : Nat} : dpt (n + 1) (.tup xs) = xs.all (dpt n) := rfl
@[simp] theorem e_dL {n : Nat} : dpt (n + 1) (.lst xs) = xs.all (dpt n) := rfl
@[simp] theorem e_ixL {i : Int} : rIx3 (.lst xs) (.int i) k = optW (atI xs i) k := rfl
@[simp] theorem e_ixT {i : Int} : rIx3 (.tup xs) (.int i) k = optW (atI xs i) k := rfl
@[simp] theorem e_one {w : PV → (PV → Prop) → Prop} : rOne w [x] k = w x k := rfl
@[simp] theorem e_int3 : rInt3 [x] k = intW x fun i => k (.int i) := rfl
@[simp] theorem e_abs3 : rAbs3 [x] k = intW x fun i => k (.int (if i < 0 then -i else i)) := rfl
@[simp] theorem e_gcd {i j : Int} : rGcd3 [.int i, .int j] k = k (.int ((Nat.gcd i.natAbs j.natAbs : Nat) : Int)) := rfl
@[simp] theorem e_list3 : rList3 [x] k = seqW x fun xs => k (.lst xs) := rfl
@[simp] theorem e_tuple3 : rTuple3 [x] k = seqW x fun xs => k (.tup xs) := rfl
@[simp] theorem e_isNN {i : Int} {b : Bool} {s : Str} : rIsN3 .non .non k = k (.bl true) := rfl
@[simp] theorem e_notNN {i : Int} {b : Bool} {s : Str} : rNotN3 .non .non k = k (.bl false) := rfl
@[simp] theorem e_isNI {i : Int} {b : Bool} {s : Str} : rIsN3 (.int i) .non k = k (.bl false) := rfl
@[simp] theorem e_notNI {i : Int} {b : Bool} {s : Str} : rNotN3 (.int i) .non k = k (.bl true) := rfl
@[simp] theorem e_isNB {i : Int} {b : Bool} {s : Str} : rIsN3 (.bl b) .non k = k (.bl false) := rfl
@[simp] theorem e_notNB {i : Int} {b : Bool} {s : Str} : rNotN3 (.bl b) .non k = k (.bl true) := rfl
@[simp] theorem e_isNS {i : Int} {b : Bool} {s : Str} : rIsN3 (.str s) .non k = k (.bl false) := rfl
@[simp] theorem e_notNS {i : Int} {b : Bool} {s : Str} : rNotN3 (.str s) .non k = k (.bl true) := rfl
@[simp] theorem e_isNT {i : Int} {b : Bool} {s : Str} : rIsN3 (.tup xs) .non k = k (.bl false) := rfl
@[simp] theorem e_notNT {i : Int} {b : Bool} {s : Str} : rNotN3 (.tup xs) .non k = k (.bl true) := rfl
@[simp] theorem e_isNL {i : Int} {b : Bool} {s : Str} : rIsN3 (.lst xs) .non k = k (.bl false) := rfl
@[simp] theorem e_notNL {i : Int} {b : Bool} {s : Str} : rNotN3 (.lst xs) .non k = k (.bl true) := rfl
@[simp] theorem e_minII {i j : Int} : rMinX [.int i, .int j] k = k (.int (if j < i then j else i)) := rfl
@[simp] theorem e_maxII {i j : Int} : rMaxX [.int i, .int j] k = k (.int (if j > i then j else i)) := rfl
@[simp] theorem e_minL : rMinX [.lst xs] k = lAlW (.lst xs) fun y ys => k (minP y ys) := rfl
@[simp] theorem e_maxL : rMaxX [.lst xs] k = lAlW (.lst xs) fun y ys => k (maxP y ys) := rfl
@[simp] theorem e_alL {k : PV → List PV → Prop} : lAlW (.lst (y :: ys)) k = (alikeP (y :: ys) ∧ k y ys) := rfl
@[simp] theorem e_alT {k : PV → List PV → Prop} : lAlW (.tup (y :: ys)) k = (alikeP (y :: ys) ∧ k y ys) := rfl
@[simp] theorem y_IntNon {i : Int} {b : Bool} {s : Str} {xs : List PV} {ks : List Int} : T3.isInt .non = some false := rfl
@[simp] theorem y_IntInt {i : Int} {b : Bool} {s : Str} {xs : List PV} {ks : List Int} : T3.isInt (.int i) = some true := rfl
@[simp] theorem y_IntBool {i : Int} {b : Bool} {s : Str} {xs : List PV} {ks : List Int} : T3.isInt (.bl b) = some true := rfl
@[simp] theorem y_IntStr {i : Int} {b : Bool} {s : Str} {xs : List PV} {ks : List Int} : T3.isInt (.str s) = some false := rfl
@[simp] theorem y_IntTup {i : Int} {b : Bool} {s : Str} {xs : List PV} {ks : List Int} : T3.isInt (.tup xs) = some false := rfl
@[simp] theorem y_IntLst {i : Int} {b : Bool} {s : Str} {xs : List PV} {ks : List Int} : T3.isInt (.lst xs) = some false := rfl
@[simp] theorem y_IntDic {i : Int} {b : Bool} {s : Str} {xs : List PV} {ks : List Int} : T3.isInt (.dic ks xs) = some false := rfl
@[simp] theorem y_BoolNon {i : Int} {b : Bool} {s : Str} {xs : List PV} {ks : List Int} : T3.isBool .non = some false := rfl
@[simp] theorem y_BoolInt {i : Int} {b : Bool} {s : Str} {xs : List PV} {ks : List Int} : T3.isBool (.int i) = some false := rfl
@[simp] theorem y_BoolBool {i : Int} {b : Bool} {s : Str} {xs : List PV} {ks : List Int} : T3.isBool (.bl b) = some true := rfl
@[simp] theorem y_BoolStr {i : Int} {b : Bool} {s : Str} {xs : List PV} {ks : List Int} : T3.isBool (.str s) = some false := rfl
@[simp] theorem y_BoolTup {i : Int} {b : Bool} {s : Str} {xs : List PV} {ks : List Int} : T3.isBool (.tup xs) = some false := rfl
@[simp] theorem y_BoolLst {i : Int} {b : Bool} {s : Str} {xs : List PV} {ks : List Int} : T3.isBool (.lst xs) = some false := rfl
@[simp] theorem y_BoolDic {i : Int} {b : Bool} {s : Str} {xs : List PV} {ks : List Int} : T3.isBool (.dic ks xs) = some false := rfl
@[simp] theorem y_StrNon {i : Int} {b : Bool} {s : Str} {xs : List PV} {ks : List Int} : T3.isStr .non = some false := rfl
@[simp] theorem y_StrInt {i : Int} {b : Bool} {s : Str} {xs : List PV} {ks : List Int} : T3.isStr (.int i) = some false := rfl
@[simp] theorem y_StrBool {i : Int} {b : Bool} {s : Str} {xs : List PV} {ks : List Int} : T3.isStr (.bl b) = some false := rfl
@[simp] theorem y_StrStr {i : Int} {b : Bool} {s : Str} {xs : List PV} {ks : List Int} : T3.isStr (.str s) = some true := rfl
@[simp] theorem y_StrTup {i : Int} {b : Bool} {s : Str} {xs : List PV} {ks : List Int} : T3.isStr (.tup xs) = some false := rfl
@[simp] theorem y_StrLst {i : Int} {b : Bool} {s : Str} {xs : List PV} {ks : List Int} : T3.isStr (.lst xs) = some false := rfl
@[simp] theorem y_StrDic {i : Int} {b : Bool} {s : Str} {xs : List PV} {ks : List Int} : T3.isStr (.dic ks xs) = some false := rfl
@[simp] theorem y_TupNon {i : Int} {b : Bool} {s : Str} {xs : List PV} {ks : List Int} : T3.isTup .non = some false := rfl
@[simp] theorem y_TupInt {i : Int} {b : Bool} {s : Str} {xs : List PV} {ks : List Int} : T3.isTup (.int i) = some false := rfl
@[simp] theorem y_TupBool {i : Int} {b : Bool} {s : Str} {xs : List PV} {ks : List Int} : T3.isTup (.bl b) = some false := rfl
@[simp] theorem y_TupStr {i : Int} {b : Bool} {s : Str} {xs : List PV} {ks : List Int} : T3.isTup (.str s) = some false := rfl
@[simp] theorem y_TupTup {i : Int} {b : Bool} {s : Str} {xs : List PV} {ks : List Int} : T3.isTup (.tup xs) = some true := rfl
@[simp] theorem y_TupLst {i : Int} {b : Bool} {s : Str} {xs : List PV} {ks : List Int} : T3.isTup (.lst xs) = some false := rfl
@[simp] theorem y_TupDic {i : Int} {b : Bool} {s : Str} {xs : List PV} {ks : List Int} : T3.isTup (.dic ks xs) = some false := rfl
@[simp] theorem y_LstNon {i : Int} {b : Bool} {s : Str} {xs : List PV} {ks : List Int} : T3.isLst .non = some false := rfl
@[simp] theorem y_LstInt {i : Int} {b : Bool} {s : Str} {xs : List PV} {ks : List Int} : T3.isLst (.int i) = some false := rfl
@[simp] theorem y_LstBool {i : Int} {b : Bool} {s : Str} {xs : List PV} {ks : List Int} : T3.isLst (.bl b) = some false := rfl
@[simp] theorem y_LstStr {i : Int} {b : Bool} {s : Str} {xs : List PV} {ks : List Int} : T3.isLst (.str s) = some false := rfl
@[simp] theorem y_LstTup {i : Int} {b : Bool} {s : Str} {xs : List PV} {ks : List Int} : T3.isLst (.tup xs) = some false := rfl
@[simp] theorem y_LstLst {i : Int} {b : Bool} {s : Str} {xs : List PV} {ks : List Int} : T3.isLst (.lst xs) = some true := rfl
@[simp] theorem y_LstDic {i : Int} {b : Bool} {s : Str} {xs : List PV} {ks : List Int} : T3.isLst (.dic ks xs) = some false := rfl
@[simp] theorem y_DicNon {i : Int} {b : Bool} {s : Str} {xs : List PV} {ks : List Int} : T3.isDic .non = some false := rfl
@[simp] theorem y_DicInt {i : Int} {b : Bool} {s : Str} {xs : List PV} {ks : List Int} : T3.isDic (.int i) = some false := rfl
@[simp] theorem y_DicBool {i : Int} {b : Bool} {s : Str} {xs : List PV} {ks : List Int} : T3.isDic (.bl b) = some false := rfl
@[simp] theorem y_DicStr {i : Int} {b : Bool} {s : Str} {xs : List PV} {ks : List Int} : T3.isDic (.str s) = some false := rfl
@[simp] theorem y_DicTup {i : Int} {b : Bool} {s : Str} {xs : List PV} {ks : List Int} : T3.isDic (.tup xs) = some false := rfl
@[simp] theorem y_DicLst {i : Int} {b : Bool} {s : Str} {xs : List PV} {ks : List Int} : T3.isDic (.lst xs) = some false := rfl
@[simp] theorem y_DicDic {i : Int} {b : Bool} {s : Str} {xs : List PV} {ks : List Int} : T3.isDic (.dic ks xs) = some true := rfl
@[simp] theorem e_lkD {ks : List Int} {xs : List PV} : look M (.dic ks xs) = .dic ks xs := rfl
end
end T3

namespace T3
open PySem PySem.Spec PyProof.Rows L2

/-! ## turns of comprehensions and loops -/
section
variable {σ : Sl} {M : Mem} {D : D3} {Q : PV → Mem → Prop} {te : TE3} {tb : TS3} {c : TT3} {g : TG3} {vs : List Nat}
/-- one turn of a comprehension -/
def turnW (g : TG3) (c : TT3) (te : TE3) (y : PV) (σ : Sl) (M : Mem) (Qt : PV → Mem → Prop) (Qf : Mem → Prop) : Prop := g y σ M fun σ1 M1 => c σ1 M1 fun b M2 => if b = true then te σ1 M2 Qt else Qf M2
theorem compW_cons {y : PV} {ys acc : List PV} : compW g c te vs σ Q (y :: ys) acc M = turnW g c te y (wipe3 σ vs) M (fun z M3 => compW g c te vs σ Q ys (acc ++ [z]) M3) (fun M2 => compW g c te vs σ Q ys acc M2) := rfl
/-- the memory stays -/
theorem comp_pure (f : PV → Option PV) : ∀ (ys : List PV) {acc : List PV}, (∀ y ∈ ys, ∀ Qt Qf, (match f y with | some z => Qt z M | none => Qf M) → turnW g c te y (wipe3 σ vs) M Qt Qf) → Q (.lst (acc ++ ys.filterMap f)) M → compW g c te vs σ Q ys acc M
  | [], acc, _, hq => by simpa using hq
  | y :: ys, acc, h, hq => by
    rw [compW_cons]
    refine h y (by simp) _ _ ?_
    cases e : f y with
    | some z =>
      refine comp_pure f ys (fun y hy => h y (by simp [hy])) ?_
      rw [List.filterMap_cons, e] at hq
      simpa using hq
    | none =>
      refine comp_pure f ys (fun y hy => h y (by simp [hy])) ?_
      rw [List.filterMap_cons, e] at hq
      exact hq
/-- the same, with no test -/
theorem comp_map (f : PV → PV) (ys : List PV) (h : ∀ y ∈ ys, ∀ Qt Qf, Qt (f y) M → turnW g c te y (wipe3 σ vs) M Qt Qf) (hq : Q (.lst (ys.map f)) M) : compW g c te vs σ Q ys [] M :=
  comp_pure (fun y => some (f y)) ys (fun y hy Qt Qf q => h y hy Qt Qf q) (by simpa using hq)
/-- what passes -/
theorem comp_filter (p : PV → Bool) (ys : List PV) (h : ∀ y ∈ ys, ∀ Qt Qf, (if p y = true then Qt y M else Qf M) → turnW g c te y (wipe3 σ vs) M Qt Qf) (hq : Q (.lst (ys.filter p)) M) : compW g c te vs σ Q ys [] M :=
  comp_pure (fun y => if p y = true then some y else none) ys (fun y hy Qt Qf q => h y hy Qt Qf (by
    by_cases e : p y = true
    · rw [if_pos e]; simpa [e] using q
    · rw [if_neg e]; simpa [e] using q)) (by
    have e : ys.filterMap (fun y => if p y = true then some y else none) = ys.filter p := by
      clear hq h
      induction ys with
      | nil => rfl
      | cons y ys ih => by_cases e : p y = true <;> simp [e, ih]
    rw [e]; exact hq)
/-- with what holds of the list so far and of the memory -/
theorem comp_inv (J : List PV → Mem → Prop) : ∀ (ys : List PV) {acc : List PV} {M : Mem}, (∀ y ∈ ys, ∀ acc M Qt Qf, J acc M → (∀ z M', J (acc ++ [z]) M' → Qt z M') → (∀ M', J acc M' → Qf M') → turnW g c te y (wipe3 σ vs) M Qt Qf) → J acc M → (∀ acc' M', J acc' M' → Q (.lst acc') M') → compW g c te vs σ Q ys acc M
  | [], acc, M, _, j, hq => hq acc M j
  | y :: ys, acc, M, h, j, hq => by
    rw [compW_cons]
    exact h y (by simp) acc M _ _ j (fun z M' j' => comp_inv J ys (fun y hy => h y (by simp [hy])) j' hq) (fun M' j' => comp_inv J ys (fun y hy => h y (by simp [hy])) j' hq)
/-- with no test -/
theorem comp_invN (J : Nat → List PV → Mem → Prop) : ∀ (ys : List PV) {acc : List PV} {M : Mem} {n : Nat}, (∀ y ∈ ys, ∀ n acc M Qt Qf, J n acc M → (∀ z M', J (n + 1) (acc ++ [z]) M' → Qt z M') → turnW g c te y (wipe3 σ vs) M Qt Qf) → J n acc M → (∀ acc' M', J (n + ys.length) acc' M' → Q (.lst acc') M') → compW g c te vs σ Q ys acc M
  | [], acc, M, n, _, j, hq => hq acc M j
  | y :: ys, acc, M, n, h, j, hq => by
    rw [compW_cons]
    exact h y (by simp) n acc M _ _ j fun z M' j' => comp_invN J ys (fun y hy => h y (by simp [hy])) j' fun acc' M' q => hq acc' M' (by rw [List.length_cons]; rw [show n + (ys.length + 1) = n + 1 + ys.length from by omega]; exact q)
/-- a loop by what holds before turn i -/
theorem for_inv (J : Nat → Sl → Mem → Prop) : ∀ (ys : List PV) {n : Nat} {σ : Sl} {M : Mem}, (∀ i y σ M (D' : D3), ys[i]? = some y → J (n + i) σ M → (∀ σ' M', J (n + i + 1) σ' M' → D'.nx σ' M') → (∀ σ' M', J (n + i + 1) σ' M' → D'.ct σ' M') → D'.rt = D.rt → D'.bk = D.nx → g y σ M fun σ1 M1 => tb D' σ1 M1) → J n σ M → (∀ σ M, J (n + ys.length) σ M → D.nx σ M) → forW g tb D ys σ M
  | [], n, σ, M, _, j, hn => hn σ M j
  | y :: ys, n, σ, M, h, j, hn => by
    rw [e_forC]
    have go : ∀ σ' M', J (n + 1) σ' M' → forW g tb D ys σ' M' := fun σ' M' j' => for_inv J ys (n := n + 1) (fun i y σ M D' hy hj h1 h2 h3 h4 => h (i + 1) y σ M D' (by simpa using hy) (by rw [show n + (i + 1) = n + 1 + i from by omega]; exact hj) (fun σ' M' q => h1 σ' M' (by rw [show n + 1 + i + 1 = n + (i + 1) + 1 from by omega]; exact q)) (fun σ' M' q => h2 σ' M' (by rw [show n + 1 + i + 1 = n + (i + 1) + 1 from by omega]; exact q)) h3 h4) j' (fun σ M q => hn σ M (by rw [List.length_cons, show n + (ys.length + 1) = n + 1 + ys.length from by omega]; exact q))
    exact h 0 y σ M { D with nx := fun σ2 M2 => forW g tb D ys σ2 M2, ct := fun σ2 M2 => forW g tb D ys σ2 M2, bk := D.nx } (by simp) (by simpa using j) (fun σ' M' q => go σ' M' q) (fun σ' M' q => go σ' M' q) rfl rfl
theorem atI_nat {α : Type} {xs : List α} {i : Int} (h : 0 ≤ i) : atI xs i = xs[i.toNat]? := by
  unfold atI ixN
  rw [if_pos h]
  by_cases q : i < (xs.length : Int)
  · rw [if_pos q]; rfl
  · rw [if_neg q]
    exact (List.getElem?_eq_none (by omega)).symm
@[simp] theorem atI_zero {α : Type} {x : α} {xs : List α} : atI (x :: xs) 0 = some x := by rw [atI_nat (Int.le_refl 0)]; rfl
@[simp] theorem szW_of {α : Type} {xs : List α} : szW xs = (xs.length ≤ 16777216) := rfl
theorem cut_from {α : Type} {xs : List α} {k : Int} (h : 0 ≤ k) : cutP xs (some k) none = xs.drop k.toNat := by
  unfold cutP
  have e : HT.sIx xs.length 0 (some k) = min k.toNat xs.length := if_neg (by omega)
  have e2 : HT.sIx xs.length xs.length none = xs.length := rfl
  rw [e, e2]
  by_cases q : k.toNat ≤ xs.length
  · rw [Nat.min_eq_left q]; exact List.take_of_length_le (by simp)
  · rw [Nat.min_eq_right (by omega), List.drop_of_length_le (Nat.le_refl _), List.drop_of_length_le (by omega)]; simp
theorem cut_to {α : Type} {xs : List α} {k : Int} (h : 0 ≤ k) : cutP xs none (some k) = xs.take k.toNat := by
  unfold cutP
  have e : HT.sIx xs.length xs.length (some k) = min k.toNat xs.length := if_neg (by omega)
  have e2 : HT.sIx xs.length 0 none = 0 := rfl
  rw [e, e2]
  by_cases q : k.toNat ≤ xs.length
  · rw [Nat.min_eq_left q]; simp
  · rw [Nat.min_eq_right (by omega), List.take_of_length_le (by simp), List.take_of_length_le (by omega)]; simp
@[simp] theorem e_slL {xs : List PV} {lo hi : Option Int} {k : PV → Prop} : slW (.lst xs) lo hi k = k (.lst (cutP xs lo hi)) := rfl
@[simp] theorem e_slT {xs : List PV} {lo hi : Option Int} {k : PV → Prop} : slW (.tup xs) lo hi k = k (.tup (cutP xs lo hi)) := rfl
theorem alikeP_ints {ns : List Int} : alikeP (ns.map .int) := by
  refine ⟨fun x hx => ?_, fun x hx y hy => ?_⟩
  · obtain ⟨i, _, rfl⟩ := List.mem_map.mp hx; exact ⟨rfl, rfl⟩
  · obtain ⟨i, _, rfl⟩ := List.mem_map.mp hx; obtain ⟨j, _, rfl⟩ := List.mem_map.mp hy; rfl
theorem maxP_ints : ∀ {ns : List Int} {n : Int}, maxP (.int n) (ns.map .int) = .int (ns.foldl max n)
  | [], n => rfl
  | m :: ns, n => by
    show maxP (if ltP (.int n) (.int m) = true then .int m else .int n) (ns.map .int) = _
    rw [ltP_int, List.foldl_cons]
    by_cases h : n < m
    · rw [if_pos (by simpa using h), maxP_ints, show max n m = m from by omega]
    · rw [if_neg (by simpa using h), maxP_ints, show max n m = n from by omega]
theorem minP_ints : ∀ {ns : List Int} {n : Int}, minP (.int n) (ns.map .int) = .int (ns.foldl min n)
  | [], n => rfl
  | m :: ns, n => by
    show minP (if ltP (.int m) (.int n) = true then .int m else .int n) (ns.map .int) = _
    rw [ltP_int, List.foldl_cons]
    by_cases h : m < n
    · rw [if_pos (by simpa using h), minP_ints, show min n m = m from by omega]
    · rw [if_neg (by simpa using h), minP_ints, show min n m = n from by omega]
theorem rMaxX_ints {n : Int} {ns : List Int} {k : PV → Prop} (h : k (.int (ns.foldl max n))) : rMaxX [.lst ((n :: ns).map .int)] k := by
  rw [List.map_cons, e_maxL, e_alL, ← List.map_cons, maxP_ints]; exact ⟨alikeP_ints, h⟩
theorem rMinX_ints {n : Int} {ns : List Int} {k : PV → Prop} (h : k (.int (ns.foldl min n))) : rMinX [.lst ((n :: ns).map .int)] k := by
  rw [List.map_cons, e_minL, e_alL, ← List.map_cons, minP_ints]; exact ⟨alikeP_ints, h⟩
theorem zipP_ints : ∀ {xs ys : List Int}, zipP (xs.map .int) (ys.map .int) = (xs.zip ys).map fun p => .tup [.int p.1, .int p.2]
  | [], _ => rfl
  | _ :: _, [] => rfl
  | x :: xs, y :: ys => by simp [zipP, zipP_ints]
end
end T3

namespace T3
open PySem PySem.Spec PyProof.Rows L2

/-! ## from what the top has written -/
section
variable {Pg : Program} {w : World} {K : PySem.W.Frag} {mg : Str → Option Value} {base h : Heap}
theorem def3_mk {x : Str} {st : Stmt} {f : Addr} {fd : FuncData} {k : Nat} {ps : List Str} {sp : Sp3} (m : mg x = some (.ref f)) (F : Fun K x x st f fd) (b : Binds K fd ps []) (ok : FnOk Pg w K mg base (L2.CX Pg w) k f fd ps (liftSp K sp)) : Def3 Pg w K mg base k x ps sp :=
  ⟨f, fd, ok, m, F.kp, b⟩
/-- a def of the module at its place -/
structure At3 (K : PySem.W.Frag) (x : Str) (st : Stmt) (f : Addr) : Prop where
  n : PySem.W.nsIn K mainGlobals x = some (some (.ref f))
  F : ∃ fd, Fun K x x st f fd
theorem at3_mk {x : Str} {st : Stmt} {f : Addr} {oc : Value} {od an : Option Addr} {osl : Array (Option Value)} {kV doc pm cdv ct : Value} (n : PySem.W.nsIn K mainGlobals x = some (some (.ref f))) (l : K.lookup f = some ⟨oc, od, .func (PySem.W.fnOf x x (defArgs st) (defBody st) (defScope st) .none kV doc pm an cdv ct), osl⟩)
    (c : PySem.W.codeIn K cdv x = true) (k : PySem.W.keepIn K (.ref f) = true) : At3 K x st f := ⟨n, _, fun_mk l c k⟩
/-- a def keeps its promise -/
theorem At3.ok {x : Str} {st : Stmt} {f : Addr} {N ps : List Str} {k : Nat} {sp : Sp3} (T : At3 K x st f) (KX : K.In h) (G : h.Ns mainGlobals mg) (S : FnScope N ps (defScope st)) (len : ∀ xs M Q E, sp xs M Q E → xs.length = ps.length)
    (hb : ∀ (kV doc pm : Value) (an : Option Addr) (cdv ct : Value) (us : List Value), us.length = ps.length → bindArgs (PySem.W.fnOf x x (defArgs st) (defBody st) (defScope st) .none kV doc pm an cdv ct) ⟨us, []⟩ = pure (ps.zip us))
    {t : W3 → TS3} (d : ∀ (cdv : Value) (A : Around) (outer : List Env) (s : Shared) (H : Hp) (E : XK) (P : BP) (W : W3), Room k (cxOf (L2.CX Pg w) Pg w K mg base N x (defScope st) f cdv A outer s H E).A → TK (cxOf (L2.CX Pg w) Pg w K mg base N x (defScope st) f cdv A outer s H E) P W → PSs3 (cxOf (L2.CX Pg w) Pg w K mg base N x (defScope st) f cdv A outer s H E) P (defBody st) (t W))
    (q : ∀ xs M Q E, sp xs M Q E → t (clW E) { nx := fun _ M' => clQ Q .non M', rt := clQ Q } (xs.map Slot.val ++ List.replicate (N.length - xs.length) Slot.un) M) : Def3 Pg w K mg base (k + 1) x ps sp := by
  obtain ⟨fd, F⟩ := T.F
  refine def3_mk (PySem.W.mg_of KX G T.n) F (F.binds hb) (fn3 F S len fun cdv A outer s H E P xs M Q E3 hsp tk hr => ⟨_, d cdv _ outer s H E P (clW E3) hr tk, q xs M Q E3 hsp⟩)
/-- the errors' making -/
structure ErrI (K : PySem.W.Frag) (fI : Addr) : Prop where
  ty : PySem.W.typeIn K (.ref fI) = some (.type "function")
  ok : ∀ (Pg : Program) (w : World) (mg : Str → Option Value) (base : Heap), ∃ fd, FnOk Pg w K mg base CX0 1 fI fd ["self", "value"] (spErr K) ∧ Binds K fd ["self", "value"] []
/-- an error's class -/
structure ErrC (K : PySem.W.Frag) (x : Str) (C fI : Addr) : Prop where
  n : PySem.W.nsIn K mainGlobals x = some (some (.ref C))
  T : OexC K C
  iC : PySem.W.findIn K (.ref C) "__init__" = some (some (.ref fI))
  nv : PySem.W.findIn K (.ref C) "value" = some none
  X : XfC K C
theorem errC_mk {x : Str} {C fI : Addr} {nm q N bs bm sn sub ab col dd k0 k1 k2 k3 k5} (n : PySem.W.nsIn K mainGlobals x = some (some (.ref C))) (l : K.lookup C = some (excClassObj nm q C N bs bm true sn sub ab col dd k0 k1 k2 k3 k5 "ValueError.__new__")) (rv : PySem.HandSPX.refsVE bm = true)
    (sa : PySem.W.findIn K (.ref C) "__setattr__" = some (some (.builtin "object.__setattr__"))) (ex : PySem.W.subIn K (.ref C) (.type "BaseException") = some true) (ty : PySem.W.typeIn K (.ref C) = some (.type "type")) (kc : PySem.W.keepIn K (.ref C) = true)
    (iC : PySem.W.findIn K (.ref C) "__init__" = some (some (.ref fI))) (nv : PySem.W.findIn K (.ref C) "value" = some none) (ga : PySem.W.findIn K (.ref C) "__getattribute__" = some (some (.builtin "BaseException.__getattribute__"))) (gg : PySem.W.findIn K (.ref C) "__getattr__" = some none)
    (hd : PySem.W.hasDictIn K C = true) : ErrC K x C fI := ⟨n, ⟨⟨_, _, _, _, _, _, _, _, _, _, _, _, _, _, _, l, rv⟩, sa, ex, ty, kc⟩, iC, nv, ⟨ga, gg, ex, hd⟩⟩
theorem ErrC.err3 {x : Str} {C fI : Addr} (E : ErrC K x C fI) (I : ErrI K fI) (KX : K.In h) (G : h.Ns mainGlobals mg) : Err3 Pg w K mg base x C := by
  obtain ⟨fd, ok, b⟩ := I.ok Pg w mg base
  exact ⟨fI, fd, ⟨E.T, E.iC, E.nv, PySem.W.mg_of KX G E.n⟩, I.ty, ok, b⟩
/-- the law's code and its table -/
theorem tabIn_of {x : Str} {f c Pt : Addr} {fd : FuncData} {oc oc2 : Value} {od od2 : Option Addr} {osl osl2 : Array (Option Value)} {vs : Array Value} (n : PySem.W.nsIn K mainGlobals x = some (some (.ref f))) (l : K.lookup f = some ⟨oc, od, .func fd, osl⟩) (hc : fd.code = .ref c)
    (l2 : K.lookup c = some ⟨oc2, od2, .fields vs, osl2⟩) (hP : (vs[11]? : Option Value) = some (.ref Pt)) : PySem.W.tabIn K x = some (c, Pt) := by
  unfold PySem.W.tabIn
  simp only [n, l, hc, l2, hP]
/-! ### _law_refused -/
/-- the def, known once for all its lambdas -/
structure Ref3 (Pg : Program) (w : World) (K : PySem.W.Frag) (mg : Str → Option Value) (base : Heap) (ws : List (Addr × Str)) : Prop where
  sz : ∀ wd ∈ ws.map (·.2), wd.length ≤ sizeLine
  ex : ∃ (g : Addr) (pg : Arguments) (bg : List Stmt) (sg : Scope) (dV kV doc pm cdv ct oc : Value) (an od : Option Addr) (osl : Array (Option Value)) (Ng : List Str), mg "_law_refused" = some (.ref g) ∧ PySem.W.keepIn K (.ref g) = true ∧
    K.lookup g = some ⟨oc, od, .func (PySem.W.fnOf "_law_refused" "_law_refused" pg bg sg dV kV doc pm an cdv ct), osl⟩ ∧ PySem.W.codeIn K cdv "_law_refused" = true ∧ Binds K (PySem.W.fnOf "_law_refused" "_law_refused" pg bg sg dV kV doc pm an cdv ct) ["ask"] [] ∧ FnScope Ng ["ask"] sg ∧ Ng[0]? = some (Str.ofString "ask") ∧ Vis sg "ask" ∧
    ∀ X : Cx, X.prog = Pg → X.w = w → X.K = K → X.mg = mg → X.base = base → LamX.GivesTo X Ng "_law_refused" sg g cdv bg "ask" (X.env.qual ++ "<lambda>") (TTref ws)
theorem pe3_ref {X : Cx} {P : BP} {ws : List (Addr × Str)} {tb : W3 → TE3} {c Pt : Addr} {k : Nat} {params : Arguments} {body : Expr} {scope : Scope} {p lpos pos : Pos} (R : Ref3 X.prog X.w X.K X.mg X.base ws) (hP : ∀ B, P B → B.T = [(Pt, X.env.qual ++ "<lambda>")]) (TB : LamX.TabB X.base X.mg c Pt) (hcode : X.env.code = .ref c) (hr : Room (k + 2) X.A)
    (hbody : ∀ (A : Around) (outer : List Env) (s : Shared) (H : Hp) (E : XK) (f c' : Addr) (P' : BP) (W : W3), TK (LamX.lamCx X A outer s H E scope f c') P' W → Room k (LamX.lamCx X A outer s H E scope f c').A → PE3 (LamX.lamCx X A outer s H E scope f c') P' body (tb W)) (L : LamX.LamS X.env.scope scope)
    (hg : Gl X "_law_refused" := by rfl) (hdef : defaultsOf params X.env = ([], []) := by rfl)
    (hbind : ∀ (q : Str) (cl : List (Str × Addr)) (pm cv ctv : Value), bindArgs (PySem.W.kla_fn "<lambda>" q params body scope cl pm cv ctv) ⟨[], []⟩ = pure [] := by intros; rfl) : PE3 X P (.Call (.Name "_law_refused" p) [.Lambda params body scope lpos] [] pos) (tRef3 ws tb) := by
  obtain ⟨g, pg, bg, sg, dV, kV, doc, pm, cdv, ct, oc, an, od, osl, Ng, hm, hk, lk, hcg, hb, Sg, hNg, hva, hG⟩ := R.ex
  exact pe3_refused hP R.sz hm hk lk hcg hb Sg hNg hva (hG X rfl rfl rfl rfl rfl) TB hcode (List.mem_singleton.mpr rfl) (fun p hp _ => by rw [List.mem_singleton.mp hp]) hr L (fun A outer s H E f c' P' W tk hr => hbody A outer s H E f c' P' W tk hr) hg hdef hbind
end
end T3

namespace T3
open PySem PySem.Spec PyProof.Rows L2

/-! ## own classes -/
/-- an own class, for isinstance -/
structure IsC (K : PySem.W.Frag) (C : Addr) : Prop where
  cl : Cls K C
  ha : PySem.W.findIn K (.ref C) "__class__" = some (some (.builtin "object.__class__"))
  hn : PySem.W.specialIn K (.builtin "object.__class__") "__get__" = some (some (.builtin "getset_descriptor.__get__"))
  htk : PySem.W.takesIn K (.builtin "object.__class__") = some true
  hm : PySem.W.mroIn K C (.type "object") = some true
  yN : PySem.W.kitOne K (.type "NoneType") (.ref C) = some false
  yB : PySem.W.kitOne K (.type "bool") (.ref C) = some false
  yI : PySem.W.kitOne K (.type "int") (.ref C) = some false
  yS : PySem.W.kitOne K (.type "str") (.ref C) = some false
  yT : PySem.W.kitOne K (.type "tuple") (.ref C) = some false
  yL : PySem.W.kitOne K (.type "list") (.ref C) = some false
  yD : PySem.W.kitOne K (.type "dict") (.ref C) = some false
def isIns (C : Addr) : PV → Option Bool
  | .raw _ => none
  | .ins C' _ _ => if C' = C then some true else none
  | _ => some false
theorem kitOne_self {K : PySem.W.Frag} {C : Addr} : PySem.W.kitOne K (.ref C) (.ref C) = some true := by
  unfold PySem.W.kitOne
  rw [if_pos (by simp)]
theorem isIns_ty {K : PySem.W.Frag} {C : Addr} (G : IsC K C) {H : Hp} {D : Addr → Prop} {x : PV} {v : V} {b : Bool} (r : RepR K H D x v) (h : isIns C x = some b) : ∃ t, TyX K H v t ∧ PySem.W.kitOne K t (.ref C) = some b := by
  cases x with
  | ins C' fs xs =>
    by_cases e : C' = C
    · subst e
      simp [isIns] at h
      subst h
      obtain ⟨a, dx, vs, rfl, t, l, rr⟩ := r
      exact ⟨_, .base (.ins t G.cl G.ha G.hn G.htk G.hm), kitOne_self⟩
    · simp [isIns, e] at h
  | raw u => cases h
  | non => cases h; exact ⟨_, tyN_rep r rfl, G.yN⟩
  | bl b => cases h; exact ⟨_, tyN_rep r rfl, G.yB⟩
  | int i => cases h; exact ⟨_, tyN_rep r rfl, G.yI⟩
  | str s => cases h; exact ⟨_, tyN_rep r rfl, G.yS⟩
  | tup xs => cases h; exact ⟨_, tyN_rep r rfl, G.yT⟩
  | lst xs => cases h; exact ⟨_, tyN_rep r rfl, G.yL⟩
  | dic ks xs => cases h; exact ⟨_, tyN_rep r rfl, G.yD⟩
section
variable {X : Cx} {P : BP} {e o tg iter elt c : Expr} {es : List Expr} {te to : TE3} {t : TA3} {pos pos' p p1 p2 : Pos} {C : Addr} {x f : Str} {g : TG3} {ws : List Nat} {tb : TS3} {body : List Stmt}
/-- isinstance(e, C), C a class of the module -/
theorem pe3_isiC (G : IsC X.K C) (hmc : X.mg x = some (.ref C)) (he : PB3 X P e te) (hm : X.mg "isinstance" = none) (hg : Gl X "isinstance" := by rfl) (hgc : Gl X x := by rfl) (hdc : (x == ("__debug__" : Str)) = false := by decide)
    (hs : starEach [e, .Name x p2] X.env = (false, eval e X.env) :: starEach [.Name x p2] X.env := by rfl) (hs2 : starEach [Expr.Name x p2] X.env = (false, eval (Expr.Name x p2) X.env) :: starEach [] X.env := by rfl) (hpl : (backTo pos (starEach [Expr.Name x p2] X.env)).any (·.1) = false := by rfl) :
    PE3 X P (.Call (.Name "isinstance" p1) [e, .Name x p2] [] pos) (tIsi3 (isIns C) te) := fun B hB =>
  PE.imp (pe_callB call_isi hg hm (by rfl) (pa_cons (he B hB) (pa_cons (pe_glob hgc hmc (v := .ref C) rfl hdc) pa_nil hs2) hs) (by decide) (by decide) hs hpl) fun τ H Q ⟨σ, M, oa, Q3, R, w, k⟩ => ⟨σ, M, oa, _, R, w, fun x M1 v H1 q1 R1 f1 r1 => by
    obtain ⟨b, eb, q⟩ := optW_of q1
    obtain ⟨t, e1, e2⟩ := isIns_ty G (r1.readable R1) eb
    exact ⟨v, .ref C, t, .ref C, b, rfl, .own C, e1, e2, k _ M1 _ H1 q R1 f1 Rep.bl⟩⟩
/-! ### attributes stored -/
def putP (f : Str) (v : PV) : List (Str × PV) → List (Str × PV)
  | [] => [(f, v)]
  | (g, x) :: r => if g = f then (g, v) :: r else (g, x) :: putP f v r
theorem putP_rep {K : PySem.W.Frag} {H : Hp} {D : Addr → Prop} {f : Str} {y : PV} {u : V} (ry : Rep K H D y u) : ∀ {fs : List (Str × PV)} {vs : List V}, vs.length = fs.length → Reps K H D (fs.map (·.2)) vs →
    ∃ us, putF f u ((fs.map (·.1)).zip vs) = ((putP f y fs).map (·.1)).zip us ∧ us.length = (putP f y fs).length ∧ Reps K H D ((putP f y fs).map (·.2)) us
  | [], vs, l, r => by
    have : vs = [] := List.length_eq_zero_iff.mp (by simpa using l)
    subst this
    exact ⟨[u], rfl, rfl, Reps.cons ry Reps.nil⟩
  | (g, x) :: fs, [], l, r => by simp at l
  | (g, x) :: fs, v :: vs, l, r => by
    rw [List.map_cons] at r
    unfold Reps at r
    obtain ⟨v', r', e, h1, h2⟩ := r
    cases e
    show ∃ us, (if g = f then (g, u) :: ((fs.map (·.1)).zip vs) else (g, v) :: putF f u ((fs.map (·.1)).zip vs)) = _ ∧ _
    unfold putP
    by_cases q : g = f
    · rw [if_pos q, if_pos q]
      exact ⟨u :: vs, rfl, by simpa using l, Reps.cons ry h2⟩
    · rw [if_neg q, if_neg q]
      obtain ⟨us, e1, e2, e3⟩ := putP_rep (f := f) ry (fs := fs) (vs := vs) (by simpa using l) h2
      exact ⟨v :: us, by rw [e1]; rfl, by simpa using e2, Reps.cons h1 e3⟩
def memIns (x : PV) (M : Mem) (k : Addr → Addr → List (Str × PV) → Prop) : Prop := match x with
  | .raw (.ref a) => match M a with
    | some (.ins C fs) => k a C fs
    | _ => False
  | _ => False
theorem memIns_of {x : PV} {M : Mem} {k : Addr → Addr → List (Str × PV) → Prop} (h : memIns x M k) : ∃ a C fs, x = .raw (.ref a) ∧ M a = some (.ins C fs) ∧ k a C fs := by
  unfold memIns at h
  split at h
  · split at h
    · exact ⟨_, _, _, rfl, by assumption, h⟩
    · exact h.elim
  · exact h.elim
theorem R3.setIns {K : PySem.W.Frag} {B : Base} {σ : Sl} {M : Mem} {τ : L2.St} {H : Hp} {oa : Nat → Addr} (R : R3 K B σ M τ H oa) {a : Addr} {mo : MO} {dx : Addr} {fs : List (Str × PV)} {us : List V} (e : M a = some mo) (l : us.length = fs.length) (r : Reps K H (Dm B.DE σ M oa) (fs.map (·.2)) us) :
    R3 K B σ (M.put a (.ins C fs)) τ (upd H a (.ins C dx ((fs.map (·.1)).zip us))) oa ∧ Fr3 H (upd H a (.ins C dx ((fs.map (·.1)).zip us))) (Zm B.DE σ M oa) (Zm B.DE σ (M.put a (.ins C fs)) oa) :=
  R.pokeM e (fun _ z => by cases z) fun tr => by
    refine ⟨dx, us, upd_same, l, ?_⟩
    have go : ∀ {xs : List PV} {vs : List V}, Reps K H (Dm B.DE σ M oa) xs vs → Reps K (upd H a (.ins C dx ((fs.map (·.1)).zip us))) (Dm B.DE σ M oa) xs vs := by
      intro xs
      induction xs with
      | nil => intro vs h; unfold Reps at h ⊢; exact h
      | cons x xs ih =>
        intro vs h
        unfold Reps at h
        obtain ⟨v, r', e1, h1, h2⟩ := h
        subst e1
        exact Reps.cons (tr x v h1) (ih h2)
    exact go r
/-- o.f = e, o of the memory -/
def tFldS3 (C : Addr) (f : Str) (te to : TE3) : TS3 := fun D σ M => te σ M fun v M1 => to σ M1 fun r M2 => memIns r M2 fun a C' fs => C' = C ∧ fs.length < 100 ∧ D.nx σ (M2.put a (.ins C (putP f v fs)))
theorem ps3_fld (c : Cls X.K C) (n : NoAttr X.K C f) (he : PE3 X P e te) (ho : PE3 X P o to) (hs : swapsWith e (some (.Attribute o f pos')) pos.line X.env = pure false := by rfl) : PS3 X P (.Assign [.Attribute o f pos'] e pos) (tFldS3 C f te to) := fun B hB =>
  PS.imp (ps_fld (ho B hB) (he B hB) hs) fun D τ H ⟨σ, M, oa, E, R, q, k⟩ => ⟨σ, M, oa, _, R, q, fun v M1 u H1 q1 R1 f1 r1 => ⟨σ, M1, oa, _, R1, q1, fun r M2 u2 H2 q2 R2 f2 r2 => by
    obtain ⟨a, C', fs, e1, e2, e3, hz, q3⟩ := memIns_of q2
    subst e1; subst e3
    have ev : u2 = .ref a := r2
    subst ev
    obtain ⟨dx, vs, h2, l2, rr⟩ := R2.mem.mem a _ e2
    obtain ⟨us, g1, g2, g3⟩ := putP_rep (f := f) (r1.fr f2) l2 rr
    obtain ⟨R3', f3⟩ := R2.setIns (C := C') (dx := dx) e2 g2 g3
    refine ⟨a, C', dx, _, rfl, h2, c, n, ?_, ?_⟩
    · rw [List.length_zip, List.length_map, l2]; omega
    · rw [g1]
      exact k.nx _ _ _ _ _ q3 R3' ((f1.trans f2).trans f3).all⟩⟩
/-! ### what is walked may lie in the memory -/
/-- the turns of J give ys, while what stands at H0 outside D0 stands and the memory satisfies G -/
def ItOkG (K : PySem.W.Frag) (J : It) (ys : List PV) (G : Mem → Prop) (H0 : Hp) (D0 : Addr → Prop) : Prop := ∀ (H : Hp) (D : Addr → Prop) (M : Mem) (i : Nat), Fr3 H0 H (.all D0) (.all D) → (∀ b, D b → Th H b) → (∀ a mo, M a = some mo → RepM K H D a mo) → G M →
  (i < ys.length → J.go i H ∧ ∀ x H', J.yld i H x H' → Same H H' ∧ ∃ y, ys[i]? = some y ∧ Rep K H' D y x) ∧ (ys.length = i → J.stop i H)
abbrev TIG3 := Sl → Mem → (List PV → (Mem → Prop) → Mem → Prop) → Prop
def liftIG (K : PySem.W.Frag) (B : Base) (wi : TIG3) : TI := fun τ H R => ∃ σ M oa Q3, R3 K B σ M τ H oa ∧ wi σ M Q3 ∧ ∀ ys G M' J H', Q3 ys G M' → R3 K B σ M' τ H' oa → Fr3 H H' (Zm B.DE σ M oa) (Zm B.DE σ M' oa) → ys.length ≤ sizeLine → ItOkG K J ys G H' (Dm B.DE σ M' oa) → R J H'
def PIG3 (X : Cx) (P : BP) (tg e : Expr) (wi : TIG3) : Prop := ∀ B, P B → PI X tg e (liftIG X.K B wi)
theorem ItOk.toG {K : PySem.W.Frag} {J : It} {ys : List PV} {G : Mem → Prop} {H0 : Hp} {D0 : Addr → Prop} (h : ItOk K J ys H0 D0) : ItOkG K J ys G H0 D0 := fun H D _ i f d _ _ => h H D i f d
/-- how x is read -/
theorem look_at {K : PySem.W.Frag} {B : Base} {σ : Sl} {M : Mem} {τ : L2.St} {H : Hp} {oa : Nat → Addr} {x : PV} {v : V} {k : List PV → Prop} (R : R3 K B σ M τ H oa) (r : Rep K H (Dm B.DE σ M oa) x v) (h : seqW (look M x) k) :
    ∃ (a : Addr) (t : Bool) (vs : List V) (xs : List PV), v = .ref a ∧ vs.length ≤ sizeLine ∧ Reps K H (Dm B.DE σ M oa) xs vs ∧ k xs ∧
      ∀ (H' : Hp) (D' : Addr → Prop) (M' : Mem), Fr3 H H' (.all (Dm B.DE σ M oa)) (.all D') → (∀ a mo, M' a = some mo → RepM K H' D' a mo) → look M' x = look M x → ∃ us, SqX K H' t a us ∧ us.length = xs.length ∧ Reps K H' D' xs us := by
  have plain : seqW x k → ∃ (a : Addr) (t : Bool) (vs : List V) (xs : List PV), v = .ref a ∧ vs.length ≤ sizeLine ∧ Reps K H (Dm B.DE σ M oa) xs vs ∧ k xs ∧
      ∀ (H' : Hp) (D' : Addr → Prop) (M' : Mem), Fr3 H H' (.all (Dm B.DE σ M oa)) (.all D') → (∀ a mo, M' a = some mo → RepM K H' D' a mo) → look M' x = look M x → ∃ us, SqX K H' t a us ∧ us.length = xs.length ∧ Reps K H' D' xs us := fun h => by
    obtain ⟨a, t, vs, xs, e1, e2, e3, e4, e5⟩ := seq_at r h
    exact ⟨a, t, vs, xs, e1, e2, e3, e4, fun H' D' M' f _ _ => ⟨vs, (e5 H' D' f).1, e3.len, (e5 H' D' f).2⟩⟩
  cases x with
  | raw u =>
    cases u with
    | ref a =>
      cases e : M a with
      | none => simp only [look, e] at h; exact h.elim
      | some mo =>
        cases mo with
        | ins C fs => simp only [look, e] at h; exact h.elim
        | lst xs =>
          simp only [look, e] at h
          have ev : v = .ref a := r
          obtain ⟨vs, h1, z, rr⟩ := R.mem.mem a _ e
          refine ⟨a, false, vs, xs, ev, z, rr, h, fun H' D' M' f hm hl => ?_⟩
          simp only [look, e] at hl
          cases e' : M' a with
          | none => rw [e'] at hl; cases hl
          | some mo =>
            cases mo with
            | ins C fs => rw [e'] at hl; cases hl
            | lst ys =>
              rw [e'] at hl; cases hl
              obtain ⟨us, h2, z2, r2⟩ := hm a _ e'
              exact ⟨us, .of h2, r2.len, r2⟩
    | _ => exact plain h
  | _ => exact plain h
def iSeqG3 (te : TE3) : TIG3 := fun σ M Q => te σ M fun x M1 => seqW (look M1 x) fun ys => Q ys (fun M' => look M' x = look M1 x) M1
theorem pig3_seq (h : PE3 X P e te) : PIG3 X P tg e (iSeqG3 te) := fun B hB =>
  PI.imp (pi_seqX (h B hB)) fun τ H R ⟨σ, M, oa, Q3, RR, w, k⟩ => ⟨σ, M, oa, _, RR, w, fun x M1 v H1 q1 R1 f1 r1 => by
    obtain ⟨a, t, vs, ys, ev, z, rr, q, st⟩ := look_at R1 r1 q1
    obtain ⟨us, s1, l1, s2⟩ := st H1 _ M1 (Fr3.refl _ _) R1.mem.mem rfl
    refine ⟨a, t, us, ev, s1, k ys _ M1 _ H1 q R1 f1 (by rw [← rr.len]; exact z) fun H' D' M' i f d hm hG => ?_⟩
    obtain ⟨us', s1', l1', s2'⟩ := st H' D' M' f hm hG
    cases t with
    | false =>
      rw [if_neg (by simp)]
      refine ⟨fun hi => ?_, fun hi => ⟨us', s1', by omega⟩⟩
      obtain ⟨y, ey⟩ : ∃ y, ys[i]? = some y := ⟨_, List.getElem?_eq_getElem hi⟩
      obtain ⟨u, eu, ru⟩ := s2'.get ey
      refine ⟨⟨us', u, s1', eu⟩, fun x H2 ⟨e1, e2⟩ => ?_⟩
      subst e1
      have ex := e2 us' s1'
      rw [eu] at ex; cases ex
      exact ⟨fun _ _ z => z, y, ey, ru⟩
    | true =>
      rw [if_pos rfl]
      refine ⟨fun hi => ?_, fun hi => ⟨us', s1', by omega⟩⟩
      obtain ⟨y, ey⟩ : ∃ y, ys[i]? = some y := ⟨_, List.getElem?_eq_getElem hi⟩
      obtain ⟨u, eu, ru⟩ := s2'.get ey
      refine ⟨⟨us', u, s1', eu⟩, fun x H2 ⟨e1, e2⟩ => ?_⟩
      subst e1
      have ex := e2 us' s1'
      rw [eu] at ex; cases ex
      exact ⟨fun _ _ z => z, y, ey, ru⟩⟩
variable {elts : List Expr} {kk : Nat} {tpos : Pos}
def iEnG3 (t : TA3) : TIG3 := fun σ M Q => t σ M fun xs M1 => match xs with
  | [x] => seqW (look M1 x) fun ys => Q (enumP 0 ys) (fun M' => look M' x = look M1 x) M1
  | _ => False
theorem pig3_enum (hm : X.mg "enumerate" = none) (ha : PA3 X P [e] t) (hg : Gl X "enumerate" := by rfl) (hs : starEach [e] X.env = [(false, eval e X.env)] := by rfl) : PIG3 X P (.Tuple elts kk tpos) (.Call (.Name "enumerate" p) [e] [] pos) (iEnG3 t) := fun B hB =>
  PI.imp (pi_enX hg hm (ha B hB) hs) fun τ H R ⟨σ, M, oa, Q3, RR, w, k⟩ => ⟨σ, M, oa, _, RR, w, fun xs M1 vs H1 q1 R1 f1 r1 => by
    split at q1
    · obtain ⟨v, rfl, r⟩ := reps1 r1
      obtain ⟨a, t, us, ys, ev, z, rr, q, st⟩ := look_at R1 r q1
      obtain ⟨us1, s1, l1, s2⟩ := st H1 _ M1 (Fr3.refl _ _) R1.mem.mem rfl
      refine ⟨a, t, us1, by rw [ev], s1, k _ _ M1 _ H1 q R1 f1 (by rw [enumP_len, ← rr.len]; exact z) fun H' D' M' i f d hm hG => ?_⟩
      obtain ⟨us', s1', l1', s2'⟩ := st H' D' M' f hm hG
      rw [enumP_len]
      refine ⟨fun hi => ?_, fun hi => ⟨us', s1', by omega⟩⟩
      obtain ⟨y, ey⟩ : ∃ y, ys[i]? = some y := ⟨_, List.getElem?_eq_getElem hi⟩
      obtain ⟨u, eu, ru⟩ := s2'.get ey
      refine ⟨⟨us', u, s1', eu⟩, fun x H2 ⟨T, x', e1, hT, e2, e3⟩ => ?_⟩
      have ex := e3 us' s1'
      rw [eu] at ex
      cases ex
      subst e1; subst e2
      have sm : Same H' (upd H' T (.tup [.int (i : Nat), u])) := fun b o eb => by rw [upd_ne (ne_of_none eb hT)]; exact eb
      refine ⟨sm, _, enumP_get ey, ?_⟩
      unfold Rep
      refine ⟨T, _, rfl, .of upd_same, by show 2 ≤ sizeLine; decide, Reps.cons ?_ (Reps.cons (Rep.fr (Same.fr sm (.all D')) _ ru) Reps.nil)⟩
      rw [Nat.zero_add]; exact Rep.int
    · exact q1.elim⟩
def forG (G : Mem → Prop) (g : TG3) (tb : TS3) (D : D3) : List PV → Sl → Mem → Prop
  | [], σ, M => G M ∧ D.nx σ M
  | y :: ys, σ, M => G M ∧ g y σ M fun σ1 M1 => tb { D with nx := fun σ2 M2 => forG G g tb D ys σ2 M2, ct := fun σ2 M2 => forG G g tb D ys σ2 M2, bk := D.nx } σ1 M1
def tForG3 (wi : TIG3) (g : TG3) (tb : TS3) : TS3 := fun D σ M => wi σ M fun ys G M1 => forG G g tb D ys σ M1
theorem ps3_forG {wi : TIG3} (hp : PassesOwn (model X.prog X.w) X.A X.env X.xe) (hc : X.calm = true) (hi : PIG3 X P tg iter wi) (hg : PG3 X P tg g ws) (hb : PSs3 X P body tb)
    (hs : ∀ x, foldedSetIterable iter X.env x = pure x := by intro _; rfl) : PS3 X P (.For tg iter body [] pos) (tForG3 wi g tb) := fun B hB =>
  PS.imp (ps_for hp hc (hi B hB) (hg B hB) (hb B hB) hs) fun D τ H ⟨σ, M, oa, E, RR, w, k⟩ => ⟨σ, M, oa, _, RR, w, fun ys G M1 J H1 q1 R1 f1 z it => by
    refine ⟨fun i m τ' H' => m = ys.length - i ∧ i ≤ ys.length ∧ ∃ σ' M' oa', R3 X.K B σ' M' τ' H' oa' ∧ Fr3 H1 H' (.all (Dm B.DE σ M1 oa)) (.all (Dm B.DE σ' M' oa')) ∧ forG G g tb E (ys.drop i) σ' M', ⟨_, rfl, Nat.zero_le _, σ, M1, oa, R1, Fr3.refl _ _, q1⟩, ?_⟩
    rintro i m τ' H' ⟨rfl, hi', σ', M', oa', R', f', q'⟩
    have hG : G M' := by
      cases e : ys.drop i with
      | nil => rw [e] at q'; exact q'.1
      | cons y r => rw [e] at q'; exact q'.1
    have I := it H' (Dm B.DE σ' M' oa') M' i f' R'.mem.dom R'.mem.mem hG
    by_cases hlt : i < ys.length
    · obtain ⟨go, yl⟩ := I.1 hlt
      have hd : ys.drop i = ys[i] :: ys.drop (i + 1) := List.drop_eq_getElem_cons hlt
      rw [hd] at q'
      refine .inr ⟨go, fun τ2 H2 => ∃ σ2 M2 oa2, R3 X.K B σ2 M2 τ2 H2 oa2 ∧ Fr3 H1 H2 (.all (Dm B.DE σ M1 oa)) (.all (Dm B.DE σ2 M2 oa2)) ∧ forG G g tb E (ys.drop (i + 1)) σ2 M2, fun τ2 H2 n2 => ⟨ys.length - (i + 1), by omega, rfl, hlt, n2⟩, fun x H2 hy => ?_⟩
      obtain ⟨sm, y, ey, ry⟩ := yl x H2 hy
      have ey' : y = ys[i] := by rw [List.getElem?_eq_getElem hlt] at ey; exact (Option.some.inj ey).symm
      subst ey'
      obtain ⟨R2, f2⟩ := R'.same sm
      refine ⟨ys[i], σ', M', oa', _, R2, ry, q'.2, fun σ3 M3 τ3 H3 q3 R3' _ f3 => ⟨σ3, M3, oa', _, R3', q3, ?_⟩⟩
      have fa := (f'.trans f2.all).trans f3.all
      refine ⟨fun σ4 M4 τ4 H4 oa4 q4 R4 f4 => ⟨σ4, M4, oa4, R4, fa.trans f4, q4⟩, k.rt, fun σ4 M4 τ4 H4 oa4 q4 R4 f4 => k.nx σ4 M4 τ4 H4 oa4 q4 R4 (f1.all.trans (fa.trans f4)), fun σ4 M4 τ4 H4 oa4 q4 R4 f4 => ⟨σ4, M4, oa4, R4, fa.trans f4, q4⟩⟩
    · have e : i = ys.length := by omega
      subst e
      rw [List.drop_length] at q'
      exact .inl ⟨I.2 rfl, k.nx σ' M' τ' H' oa' q'.2 R' (f1.all.trans f')⟩⟩
/-- {} -/
theorem po3_dnew : PO3 X P (.Dict [] [] pos) (fun σ M Q => Q (.dic [] []) M) := fun B hB =>
  PE.imp pe_dnewK fun τ H Q ⟨σ, M, oa, Q3, R, w, k⟩ p hp => by
    obtain ⟨R', f⟩ := R.alloc hp (.dK []) (fun _ z => by cases z)
    exact k (.dic [] []) M p _ w ⟨R', ⟨[], upd_same, rfl, Nat.zero_le _, Reps.nil⟩, R.none_E hp, R.none_D hp⟩ f
end
section
variable {σ : Sl} {M : Mem} {D : D3} {Q : PV → Mem → Prop} {te to : TE3} {tb : TS3} {g : TG3} {tr : TA3} {QI : List PV → (Mem → Prop) → Mem → Prop}
@[simp] theorem e_forG {wi : TIG3} : tForG3 wi g tb D σ M = wi σ M fun ys G M1 => forG G g tb D ys σ M1 := rfl
@[simp] theorem e_iSeqG : iSeqG3 te σ M QI = te σ M fun x M1 => seqW (look M1 x) fun ys => QI ys (fun M' => look M' x = look M1 x) M1 := rfl
@[simp] theorem e_iEnG : iEnG3 tr σ M QI = tr σ M fun xs M1 => match xs with
  | [x] => seqW (look M1 x) fun ys => QI (enumP 0 ys) (fun M' => look M' x = look M1 x) M1
  | _ => False := rfl
@[simp] theorem e_fldS {C : Addr} {f : Str} : tFldS3 C f te to D σ M = te σ M fun v M1 => to σ M1 fun r M2 => memIns r M2 fun a C' fs => C' = C ∧ fs.length < 100 ∧ D.nx σ (M2.put a (.ins C (putP f v fs))) := rfl
theorem forG_cons {G : Mem → Prop} {y : PV} {ys : List PV} : forG G g tb D (y :: ys) σ M = (G M ∧ g y σ M fun σ1 M1 => tb { D with nx := fun σ2 M2 => forG G g tb D ys σ2 M2, ct := fun σ2 M2 => forG G g tb D ys σ2 M2, bk := D.nx } σ1 M1) := rfl
theorem forG_nil {G : Mem → Prop} : forG G g tb D [] σ M = (G M ∧ D.nx σ M) := rfl
end
end T3

namespace T3
open PySem PySem.Spec PyProof.Rows L2

section
variable {X : Cx} {P : BP} {e o tg iter elt c a : Expr} {es : List Expr} {te to : TE3} {t : TA3} {ts : TS3} {pos pos' p p1 p2 : Pos} {C : Addr} {x f m : Str} {k : Nat} {ps : List Str} {sp : Sp3} {W : W3} {sts : List Stmt}
/-- a fresh list for the memory -/
def tOfM3 (te : TE3) : TE3 := fun σ M Q => te σ M fun x M1 => match x with
  | .lst xs => ∀ b, M1 b = none → Q (.raw (.ref b)) (M1.put b (.lst xs))
  | _ => False
theorem pe3_ofM1 (h : PO3 X P a te) : PE3 X P a (tOfM3 te) := pe3_ofM h
/-! ### a, b = x, [] -/
theorem R3.emptyOwn {K : PySem.W.Frag} {B : Base} {σ : Sl} {M : Mem} {τ : L2.St} {H : Hp} {oa : Nat → Addr} (R : R3 K B σ M τ H oa) {p : Addr} (hp : H p = none) (j : Nat) :
    ∃ oa', R3 K B (σ.set j (.own (.lst []))) M (τ.set j (some (.ref p))) (upd H p (.lst [])) oa' ∧ Fr3 H (upd H p (.lst [])) (.all (Dm B.DE σ M oa)) (.all (Dm B.DE (σ.set j (.own (.lst []))) M oa')) := by
  obtain ⟨F, f⟩ := R.newList hp Reps.nil (Nat.zero_le _)
  obtain ⟨R', s⟩ := F.putOwn (k := j)
  exact ⟨_, R', f.all.trans (Fr3.dom s)⟩
/-- i := e, j := [] -/
def tParVO (i j : Nat) (te : TE3) : TS3 := fun D σ M => te σ M fun x M1 => D.nx ((σ.set i (.val x)).set j (.own (.lst []))) M1
theorem ps3_parVO (i j : Nat) {x y : Str} {px py pt pl : Pos} {kt k2 pt2} (hc : X.calm = true) (hN : X.N.Nodup) (ha : PE3 X P a te) (hi : X.N[i]? = some x := by rfl) (hj : X.N[j]? = some y := by rfl) (hij : i ≠ j := by decide)
    (hx : X.env.scope.names.lookup x = some .local := by rfl) (hy : X.env.scope.names.lookup y = some .local := by rfl)
    (hw : swappedStores [.Tuple [.Name x px, .Name y py] kt pt] (.Tuple [a, .List [] pl] k2 pt2) X.env = pure (some [x, y]) := by rfl)
    (hs : swapsWithSole [.Tuple [.Name x px, .Name y py] kt pt] (.Tuple [a, .List [] pl] k2 pt2) pos.line X.env = pure false := by rfl)
    (h1 : starEach [a, .List [] pl] X.env = (false, eval a X.env) :: starEach [.List [] pl] X.env := by rfl) (h2 : starEach [Expr.List [] pl] X.env = (false, eval (Expr.List [] pl) X.env) :: starEach [] X.env := by rfl) :
    PS3 X P (.Assign [.Tuple [.Name x px, .Name y py] kt pt] (.Tuple [a, .List [] pl] k2 pt2) pos) (tParVO i j te) := fun B hB =>
  PS.imp (ps_par hc hN hi hj hij hx hy (pa_cons (ha B hB) (pa_cons (pe_lst pa_nil) pa_nil h2) h1) hw hs) fun D τ H ⟨σ, M, oa, E, R, w, k⟩ => ⟨σ, M, oa, _, R, w, fun x M1 v H1 q1 R1 f1 r1 => by
    refine ⟨Nat.zero_le _, fun p hp => ⟨v, .ref p, rfl, ?_⟩⟩
    obtain ⟨R2, f2⟩ := R1.put (k := i) r1
    obtain ⟨oa', R3', f3⟩ := R2.emptyOwn hp j
    exact k.nx _ _ _ _ _ q1 R3' ((f1.trans f2).all.trans f3)⟩
/-- i := [], j := [] -/
def tParOO (i j : Nat) : TS3 := fun D σ M => D.nx ((σ.set i (.own (.lst []))).set j (.own (.lst []))) M
theorem ps3_parOO (i j : Nat) {x y : Str} {px py pt pl pl2 : Pos} {kt k2 pt2} (hc : X.calm = true) (hN : X.N.Nodup) (hi : X.N[i]? = some x := by rfl) (hj : X.N[j]? = some y := by rfl) (hij : i ≠ j := by decide)
    (hx : X.env.scope.names.lookup x = some .local := by rfl) (hy : X.env.scope.names.lookup y = some .local := by rfl)
    (hw : swappedStores [.Tuple [.Name x px, .Name y py] kt pt] (.Tuple [.List [] pl2, .List [] pl] k2 pt2) X.env = pure (some [x, y]) := by rfl)
    (hs : swapsWithSole [.Tuple [.Name x px, .Name y py] kt pt] (.Tuple [.List [] pl2, .List [] pl] k2 pt2) pos.line X.env = pure false := by rfl)
    (h1 : starEach [Expr.List [] pl2, .List [] pl] X.env = (false, eval (Expr.List [] pl2) X.env) :: starEach [.List [] pl] X.env := by rfl) (h2 : starEach [Expr.List [] pl] X.env = (false, eval (Expr.List [] pl) X.env) :: starEach [] X.env := by rfl) :
    PS3 X P (.Assign [.Tuple [.Name x px, .Name y py] kt pt] (.Tuple [.List [] pl2, .List [] pl] k2 pt2) pos) (tParOO i j) := fun B hB =>
  PS.imp (ps_par hc hN hi hj hij hx hy (pa_cons (pe_lst pa_nil) (pa_cons (pe_lst pa_nil) pa_nil h2) h1) hw hs) fun D τ H ⟨σ, M, oa, E, R, w, k⟩ => by
    refine ⟨Nat.zero_le _, fun p hp => ⟨Nat.zero_le _, fun p' hp' => ⟨.ref p, .ref p', rfl, ?_⟩⟩⟩
    obtain ⟨oa2, R2, f2⟩ := R.emptyOwn hp i
    obtain ⟨oa', R3', f3⟩ := R2.emptyOwn hp' j
    exact k.nx _ _ _ _ _ w R3' (f2.trans f3)
/-- i := e, j := [], l := [] -/
def tParVOO (i j l : Nat) (te : TE3) : TS3 := fun D σ M => te σ M fun x M1 => D.nx (((σ.set i (.val x)).set j (.own (.lst []))).set l (.own (.lst []))) M1
theorem ps3_parVOO (i j l : Nat) {x y z : Str} {px py pz pt pl pl2 : Pos} {kt k2 pt2} (hc : X.calm = true) (hN : X.N.Nodup) (ha : PE3 X P a te) (hi : X.N[i]? = some x := by rfl) (hj : X.N[j]? = some y := by rfl) (hl : X.N[l]? = some z := by rfl) (hij : i ≠ j := by decide) (hil : i ≠ l := by decide) (hjl : j ≠ l := by decide)
    (hx : X.env.scope.names.lookup x = some .local := by rfl) (hy : X.env.scope.names.lookup y = some .local := by rfl) (hz : X.env.scope.names.lookup z = some .local := by rfl)
    (hw : swappedStores [.Tuple [.Name x px, .Name y py, .Name z pz] kt pt] (.Tuple [a, .List [] pl2, .List [] pl] k2 pt2) X.env = pure (some [x, y, z]) := by rfl)
    (hs : swapsWithSole [.Tuple [.Name x px, .Name y py, .Name z pz] kt pt] (.Tuple [a, .List [] pl2, .List [] pl] k2 pt2) pos.line X.env = pure false := by rfl)
    (h0 : starEach [a, Expr.List [] pl2, .List [] pl] X.env = (false, eval a X.env) :: starEach [Expr.List [] pl2, .List [] pl] X.env := by rfl)
    (h1 : starEach [Expr.List [] pl2, .List [] pl] X.env = (false, eval (Expr.List [] pl2) X.env) :: starEach [.List [] pl] X.env := by rfl) (h2 : starEach [Expr.List [] pl] X.env = (false, eval (Expr.List [] pl) X.env) :: starEach [] X.env := by rfl) :
    PS3 X P (.Assign [.Tuple [.Name x px, .Name y py, .Name z pz] kt pt] (.Tuple [a, .List [] pl2, .List [] pl] k2 pt2) pos) (tParVOO i j l te) := fun B hB =>
  PS.imp (ps_par3 hc hN hi hj hl hij hil hjl hx hy hz (pa_cons (ha B hB) (pa_cons (pe_lst pa_nil) (pa_cons (pe_lst pa_nil) pa_nil h2) h1) h0) hw hs) fun D τ H ⟨σ, M, oa, E, R, w, k⟩ => ⟨σ, M, oa, _, R, w, fun x M1 v H1 q1 R1 f1 r1 => by
    refine ⟨Nat.zero_le _, fun p hp => ⟨Nat.zero_le _, fun p' hp' => ⟨v, .ref p, .ref p', rfl, ?_⟩⟩⟩
    obtain ⟨R2, f2⟩ := R1.put (k := i) r1
    obtain ⟨oa2, R3', f3⟩ := R2.emptyOwn hp j
    obtain ⟨oa', R4, f4⟩ := R3'.emptyOwn hp' l
    exact k.nx _ _ _ _ _ q1 R4 (((f1.trans f2).all.trans f3).trans f4)⟩
/-! ### a list of the memory is frozen -/
theorem R3.frozeLst {K : PySem.W.Frag} {B : Base} {σ : Sl} {M : Mem} {τ : L2.St} {H : Hp} {oa : Nat → Addr} (R : R3 K B σ M τ H oa) {a : Addr} {xs : List PV} (e : M a = some (.lst xs)) (nd : ¬ B.DE a) :
    R3 K B σ (M.del a) τ H oa ∧ Fr3 H H (Zm B.DE σ M oa) (Zm B.DE σ (M.del a) oa) ∧ Rep K H (Dm B.DE σ (M.del a) oa) (.lst xs) (.ref a) := by
  obtain ⟨R', f⟩ := R.less (M1 := M.del a) fun b mo q => by
    by_cases hb : b = a
    · subst hb; simp [Mem.del] at q
    · rw [Mem.del_ne hb] at q; exact q
  refine ⟨R', f, ?_⟩
  obtain ⟨vs, e1, z, rr⟩ := R.mem.mem a _ e
  unfold Rep
  refine ⟨a, vs, rfl, .inl ⟨fun d => ?_, .of e1⟩, z, rr.fr f⟩
  rcases d with d | ⟨mo, d⟩ | ⟨i, x, e', d⟩
  · exact nd d
  · simp [Mem.del] at d
  · have q := (R.nm i x e').1
    rw [d, e] at q; cases q
/-- ghost: the memory's list that slot i points to is frozen -/
def tFrzM3 (i : Nat) (t : TS3) : TS3 := fun D σ M => slotW σ i fun x => memLst x M fun a xs => t D (σ.set i (.val (.lst xs))) (M.del a)
theorem frzM_lift {K : PySem.W.Frag} {B : Base} (hD : ∀ b, ¬ B.DE b) {i : Nat} {D : Ends} {τ : L2.St} {H : Hp} (h : liftS K B (tFrzM3 i ts) D τ H) : liftS K B ts D τ H := by
  obtain ⟨σ, M, oa, E, R, w, k⟩ := h
  unfold tFrzM3 slotW at w
  split at w
  · rename_i x e
    obtain ⟨a, xs, rfl, em, w⟩ := memLst_of w
    obtain ⟨R1, f1, r1⟩ := R.frozeLst em (hD a)
    obtain ⟨R2, f2⟩ := R1.put (k := i) r1
    obtain ⟨v, ev, rv⟩ := R.slot i _ e
    have ev' : v = .ref a := rv
    subst ev'
    have et : τ.set i (some (V.ref a)) = τ := by
      apply List.ext_getElem?
      intro j
      by_cases hj : i = j
      · subst hj
        rw [ev, List.getElem?_set_self (List.getElem?_eq_some_iff.mp ev).1]
      · rw [List.getElem?_set_ne hj]
    rw [et] at R2
    exact ⟨_, _, oa, E, R2, w, k.from (f1.trans f2).all⟩
  · exact w.elim
theorem pss3_frzM (hD : ∀ B, P B → ∀ b, ¬ B.DE b) (i : Nat) (h : PSs3 X P sts ts) : PSs3 X P sts (tFrzM3 i ts) := fun B hB => PSs.imp (h B hB) fun _ _ _ h => frzM_lift (hD B hB) h
/-! ### classes and methods by name -/
structure Cls3 (Pg : Program) (w : World) (K : PySem.W.Frag) (mg : Str → Option Value) (base : Heap) (k : Nat) (x : Str) (C : Addr) (ps : List Str) (sp : Sp3) : Prop where
  ex : ∃ (f : Addr) (fd : FuncData), Mk K C f ∧ FnOk Pg w K mg base (L2.CX Pg w) k f fd ps (liftSp K sp) ∧ mg x = some (.ref C) ∧ Binds K fd ps []
structure Met3 (Pg : Program) (w : World) (K : PySem.W.Frag) (mg : Str → Option Value) (base : Heap) (k : Nat) (C : Addr) (m : Str) (ps : List Str) (sp : Sp3) : Prop where
  ex : ∃ (f : Addr) (fd : FuncData), Cls K C ∧ Meth K C m f ∧ FnOk Pg w K mg base (L2.CX Pg w) k f fd ps (liftSp K sp) ∧ Binds K fd ps []
theorem pe3_makeD (D : Cls3 X.prog X.w X.K X.mg X.base k x C ps sp) (hr : Room (k + 1) X.A) (tk : TK X P W) (ha : PA3 X P (e :: es) t) (hg : Gl X x := by rfl) (hdb : (x == ("__debug__" : Str)) = false := by decide)
    (he : starEach (e :: es) X.env = (false, eval e X.env) :: starEach es X.env := by rfl) (hpl : (backTo pos (starEach es X.env)).any (·.1) = false := by rfl) : PE3 X P (.Call (.Name x p) (e :: es) [] pos) (tMake3 C sp W t) := by
  obtain ⟨f, fd, M, F, hm, hb⟩ := D.ex
  exact pe3_make M F hr hg hm hb tk ha hdb he hpl
theorem pe3_makeMD (D : Cls3 X.prog X.w X.K X.mg X.base k x C ps sp) (hr : Room (k + 1) X.A) (tk : TK X P W) (ha : PA3 X P (e :: es) t) (hg : Gl X x := by rfl) (hdb : (x == ("__debug__" : Str)) = false := by decide)
    (he : starEach (e :: es) X.env = (false, eval e X.env) :: starEach es X.env := by rfl) (hpl : (backTo pos (starEach es X.env)).any (·.1) = false := by rfl) : PE3 X P (.Call (.Name x p) (e :: es) [] pos) (tMakeM3 C sp W t) := by
  obtain ⟨f, fd, M, F, hm, hb⟩ := D.ex
  exact pe3_makeM M F hr hg hm hb tk ha hdb he hpl
theorem pe3_makeMD0 (D : Cls3 X.prog X.w X.K X.mg X.base k x C ps sp) (hr : Room (k + 1) X.A) (tk : TK X P W) (hg : Gl X x := by rfl) (hdb : (x == ("__debug__" : Str)) = false := by decide) : PE3 X P (.Call (.Name x p) [] [] pos) (tMakeM3 C sp W tNil3) := by
  obtain ⟨f, fd, M, F, hm, hb⟩ := D.ex
  exact pe3_makeM0 M F hr hg hm hb tk hdb
variable {apos : Pos}
theorem pe3_methD {pl : Sem Bool} (D : Met3 X.prog X.w X.K X.mg X.base k C m ps sp) (hr : Room k X.A) (tk : TK X P W) (ho : PE3 X P o to) (ha : PA3 X P (e :: es) t)
    (hst : starEach (e :: es) X.env = (false, eval e X.env) :: starEach es X.env := by rfl) (hpl : (backTo pos (starEach es X.env)).any (·.1) = false := by rfl)
    (ht : eval (.Call (.Attribute o m apos) (e :: es) [] pos) X.env = (do
      let ov ← eval o X.env
      standAt apos.atName
      let (f, first) ← holding [ov] (getMethod ov m pl)
      callWith pos f first (backTo pos (starEach (e :: es) X.env)) (backToKw pos (keywordEach [] X.env))) := by rfl) :
    PE3 X P (.Call (.Attribute o m apos) (e :: es) [] pos) (tMeth3 C m sp W to t) := by
  obtain ⟨f, fd, c, hm, F, hb⟩ := D.ex
  exact pe3_meth (pl := pl) ho c hm F hr hb tk ha hst hpl ht
theorem pe3_methD0 {pl : Sem Bool} (D : Met3 X.prog X.w X.K X.mg X.base k C m ps sp) (hr : Room k X.A) (tk : TK X P W) (ho : PE3 X P o to)
    (ht : eval (.Call (.Attribute o m apos) [] [] pos) X.env = (do
      let ov ← eval o X.env
      standAt apos.atName
      let (f, first) ← holding [ov] (getMethod ov m pl)
      callWith pos f first (backTo pos (starEach [] X.env)) (backToKw pos (keywordEach [] X.env))) := by rfl) :
    PE3 X P (.Call (.Attribute o m apos) [] [] pos) (tMeth3 C m sp W to tNil3) := by
  obtain ⟨f, fd, c, hm, F, hb⟩ := D.ex
  exact pe3_meth0 (pl := pl) ho c hm F hr hb tk ht
end
section
variable {Pg : Program} {w : World} {K : PySem.W.Frag} {mg : Str → Option Value} {base h : Heap}
/-- a def of a class at its place -/
structure AtM (K : PySem.W.Frag) (C : Addr) (m q : Str) (st : Stmt) (f : Addr) : Prop where
  at_ : PySem.W.findIn K (.ref C) m = some (some (.ref f))
  fn : PySem.W.isFn K (.ref f) = true
  F : ∃ fd, Fun K m q st f fd
theorem atM_mk {C : Addr} {m q : Str} {st : Stmt} {f : Addr} {oc : Value} {od an : Option Addr} {osl : Array (Option Value)} {kV doc pm cdv ct : Value} (a : PySem.W.findIn K (.ref C) m = some (some (.ref f))) (n : PySem.W.isFn K (.ref f) = true)
    (l : K.lookup f = some ⟨oc, od, .func (PySem.W.fnOf m q (defArgs st) (defBody st) (defScope st) .none kV doc pm an cdv ct), osl⟩) (c : PySem.W.codeIn K cdv q = true) (k : PySem.W.keepIn K (.ref f) = true) : AtM K C m q st f := ⟨a, n, _, fun_mk l c k⟩
/-- a class at its place -/
structure AtC (K : PySem.W.Frag) (x : Str) (C : Addr) : Prop where
  n : PySem.W.nsIn K mainGlobals x = some (some (.ref C))
  mkz : PySem.W.makesIn K C = true
  kp : PySem.W.keepIn K (.ref C) = true
  cl : Cls K C
theorem AtM.fnok {C : Addr} {m q : Str} {st : Stmt} {f : Addr} {N ps : List Str} {k : Nat} {sp : Sp3} (T : AtM K C m q st f) (S : FnScope N ps (defScope st)) (len : ∀ xs M Q E, sp xs M Q E → xs.length = ps.length)
    (hb : ∀ (kV doc pm : Value) (an : Option Addr) (cdv ct : Value) (us : List Value), us.length = ps.length → bindArgs (PySem.W.fnOf m q (defArgs st) (defBody st) (defScope st) .none kV doc pm an cdv ct) ⟨us, []⟩ = pure (ps.zip us))
    {t : W3 → TS3} (d : ∀ (cdv : Value) (A : Around) (outer : List Env) (s : Shared) (H : Hp) (E : XK) (P : BP) (W : W3), Room k (cxOf (L2.CX Pg w) Pg w K mg base N q (defScope st) f cdv A outer s H E).A → TK (cxOf (L2.CX Pg w) Pg w K mg base N q (defScope st) f cdv A outer s H E) P W → PSs3 (cxOf (L2.CX Pg w) Pg w K mg base N q (defScope st) f cdv A outer s H E) P (defBody st) (t W))
    (z : ∀ xs M Q E, sp xs M Q E → t (clW E) { nx := fun _ M' => clQ Q .non M', rt := clQ Q } (xs.map Slot.val ++ List.replicate (N.length - xs.length) Slot.un) M) : ∃ fd, FnOk Pg w K mg base (L2.CX Pg w) (k + 1) f fd ps (liftSp K sp) ∧ Binds K fd ps [] ∧ PySem.W.keepIn K (.ref f) = true := by
  obtain ⟨fd, F⟩ := T.F
  exact ⟨fd, fn3 F S len fun cdv A outer s H E P xs M Q E3 hsp tk hr => ⟨_, d cdv _ outer s H E P (clW E3) hr tk, z xs M Q E3 hsp⟩, F.binds hb, F.kp⟩
theorem AtM.cls {C : Addr} {x q : Str} {st : Stmt} {f : Addr} {ps : List Str} {k : Nat} {sp : Sp3} (T : AtM K C "__init__" q st f) (A : AtC K x C) (KX : K.In h) (G : h.Ns mainGlobals mg) (ok : ∃ fd, FnOk Pg w K mg base (L2.CX Pg w) k f fd ps (liftSp K sp) ∧ Binds K fd ps [] ∧ PySem.W.keepIn K (.ref f) = true) :
    Cls3 Pg w K mg base k x C ps sp := by
  obtain ⟨fd, F, b, _⟩ := ok
  exact ⟨f, fd, ⟨A.mkz, T.at_, T.fn, A.kp⟩, F, PySem.W.mg_of KX G A.n, b⟩
theorem AtM.met {C : Addr} {m x q : Str} {st : Stmt} {f : Addr} {ps : List Str} {k : Nat} {sp : Sp3} (T : AtM K C m q st f) (A : AtC K x C) (ok : ∃ fd, FnOk Pg w K mg base (L2.CX Pg w) k f fd ps (liftSp K sp) ∧ Binds K fd ps [] ∧ PySem.W.keepIn K (.ref f) = true) :
    Met3 Pg w K mg base k C m ps sp := by
  obtain ⟨fd, F, b, kp⟩ := ok
  exact ⟨f, fd, A.cl, ⟨T.at_, T.fn, kp⟩, F, b⟩
/-! ### the end of a law, nothing of which is others' -/
structure Law4 (Pg : Program) (w : World) (K : PySem.W.Frag) (mg : Str → Option Value) (n : Nat) (fa c Pt : Addr) (sc : Scope) (N : List Str) (bd : List Stmt) : Prop where
  S : FnScope N ["script"] sc
  run : ∀ (base : Heap) (s : Shared) (H : Hp) (ns : List Int) (P : BP), K.In base → base.Ns mainGlobals mg → LamX.TabB base mg c Pt → (∀ B, P B → B.T = [(Pt, (envOfC "law" sc s.heap.objs.size fa (.ref c)).qual ++ "<lambda>")]) → (∀ B, P B → ∀ b, ¬ B.DE b) → ns.length ≤ n → (∀ z ∈ ns, Builtin.Int.intBits z ≤ 1048576) →
    ∃ t, PSs3 (cxOf (L2.CX Pg w) Pg w K mg base N "law" sc fa (.ref c) callerA [] s H (fun _ _ _ => False)) P bd t ∧ t { nx := fun _ _ => False, rt := fun y _ => y = .bl true } (start3 N [.lst (ns.map .int)]) (fun _ => none)
theorem walk4 {l : PySem.W.OpenLaw} {n k : Nat} {q : Program} {loose : List Str} {XP : (Str → Option Value) → Heap → Prop} {YP : World → Heap → Prop} {d : DefRec} {K : Params → PySem.W.Frag}
    (hn : l.most = some n) (hn2 : n ≤ sizeLine) (hdf : d.params.defaults = []) (hr : Room (k + 1) callerA) (hdn : d.name = "law") (hrec : (recsOf q).find? (fun e => e.name == Str.ofString "law") = some d) (hY : ∀ (w : World) (h : Heap), YP w h → (K w.params).In h)
    (F : ∀ (w : World) (mg : Str → Option Value) (fa : Addr) (h : Heap), (K w.params).In h → h.Ns mainGlobals mg → mg "law" = some (.ref fa) →
      ∃ (c Pt : Addr) (prm : Arguments) (bd : List Stmt) (sc : Scope) (N : List Str) (dV kV doc pm ct oc : Value) (an od : Option Addr) (osl : Array (Option Value)), PySem.W.noTabs (K w.params) = true ∧ PySem.W.tabIn (K w.params) "law" = some (c, Pt) ∧
        (K w.params).lookup fa = some ⟨oc, od, .func (PySem.W.fnOf "law" "law" prm bd sc dV kV doc pm an (.ref c) ct), osl⟩ ∧ PySem.W.codeIn (K w.params) (.ref c) "law" = true ∧
        (∀ (s : Shared) (u : Value), BindsTo s (PySem.W.fnOf "law" "law" prm bd sc dV kV doc pm an (.ref c) ct) ⟨[u], []⟩ [("script", u)]) ∧ Law4 l.prog w (K w.params) mg n fa c Pt sc N bd) :
    PySem.W.WalkO q loose XP YP l.row.toRowW d [] (fun f vs => PySem.call f vs) := by
  refine Att.attach_callB hn hdf fun w s₀ s₁ mg mb fa o pm0 cd doc0 a us ns G Y ho hd hcd hmg hobj hints hlen hbits hg => ?_
  have KX := hY w _ Y
  rw [hdn] at hmg
  obtain ⟨c, Pt, prm, bd, sc, N, dV, kV, doc, pm, ct, oc, an, od, osl, nt, ti, lk, hcd', hb, L⟩ := F w mg fa _ KX G.T.g hmg
  obtain ⟨C, hT⟩ := PySem.W.tab_of G.T KX hrec ti
  refine end_at (CX := L2.CX l.prog w) KX G.T.g G.T.b G.T.builtins G.T.nolimit hg hT (noTab_lookup KX hT nt) C G.T.bmain hobj hints (Nat.le_trans hlen hn2) (fun base H e0 tb gP hS => ?_) fun _ _ _ h => cx_none h
  refine fn_at (N := N) (ps := ["script"]) (vs := [.ref a]) (us := [.ref a]) (k := k) lk hcd' L.S hr e0 (hb s₁ (.ref a)) (.cons rfl .nil) rfl ?_
  have mT : LamX.Tabs [(Pt, (envOfC "law" sc s₁.heap.objs.size fa (.ref c)).qual ++ "<lambda>")] H := fun p hp => by
    simp only [List.mem_singleton] at hp
    subst hp
    exact LamX.TabS.nil gP
  obtain ⟨t, ht, hq⟩ := L.run base s₁ H ns (fun B => B = ⟨fun _ => False, H, fun _ => none, [(Pt, (envOfC "law" sc s₁.heap.objs.size fa (.ref c)).qual ++ "<lambda>")]⟩) e0.mod.kin e0.mod.glob tb (fun B hB => by rw [hB]) (fun B hB b z => by rw [hB] at z; exact z) hlen hbits
  refine ⟨_, ht _ rfl, ?_⟩
  have rs : Reps (K w.params) H (fun _ => False) [.lst (ns.map .int)] [.ref a] := by
    refine Reps.cons ?_ Reps.nil
    unfold Rep
    refine ⟨a, ns.map V.int, rfl, ?_, by rw [List.length_map]; exact Nat.le_trans hlen hn2, ints_reps ns⟩
    rcases hS with z | z
    · exact .inl ⟨fun z => z, z⟩
    · exact .inr (.inr z)
  obtain ⟨R, le⟩ := R3.begin (N := N) (M := fun _ => none) (D := fun _ => False) (fun b ⟨mo, z⟩ => by cases z) (fun b z => z.elim) (fun a mo z => by cases z) rs mT
  refine ⟨_, fun _ => none, _, _, R, hq, ⟨fun _ _ _ _ _ z => z.elim, fun y M' v H' D' e R' ry => ?_, fun _ _ _ _ _ z => z.elim, fun _ _ _ _ _ z => z.elim⟩⟩
  subst e
  exact rr_bl ry.readable
end
/-- C(..) of arguments -/
def makeW (C : Addr) (sp : Sp3) (W : W3) (xs : List PV) (M : Mem) (Q : PV → Mem → Prop) : Prop := ∀ a, M a = none → sp (.raw (.ref a) :: xs) (M.put a (.ins C [])) (fun y M2 => y = .non ∧ ∃ fs, M2 a = some (.ins C fs) ∧ Q (.ins C (fs.map (·.1)) (fs.map (·.2))) (M2.del a)) W
def makeMW (C : Addr) (sp : Sp3) (W : W3) (xs : List PV) (M : Mem) (Q : PV → Mem → Prop) : Prop := ∀ a, M a = none → sp (.raw (.ref a) :: xs) (M.put a (.ins C [])) (fun y M2 => y = .non ∧ Q (.raw (.ref a)) M2) W
section
variable {σ : Sl} {M : Mem} {D : D3} {Q : PV → Mem → Prop} {te to : TE3} {tb : TS3} {tr : TA3} {sp : Sp3} {W : W3} {C : Addr} {m : Str} {i j l : Nat} {xs : List PV} {x : PV}
@[simp] theorem e_ofM : tOfM3 te σ M Q = te σ M fun x M1 => match x with
  | .lst xs => ∀ b, M1 b = none → Q (.raw (.ref b)) (M1.put b (.lst xs))
  | _ => False := rfl
@[simp] theorem e_parVO : tParVO i j te D σ M = te σ M fun x M1 => D.nx ((σ.set i (.val x)).set j (.own (.lst []))) M1 := rfl
@[simp] theorem e_parOO : tParOO i j D σ M = D.nx ((σ.set i (.own (.lst []))).set j (.own (.lst []))) M := rfl
@[simp] theorem e_parVOO : tParVOO i j l te D σ M = te σ M fun x M1 => D.nx (((σ.set i (.val x)).set j (.own (.lst []))).set l (.own (.lst []))) M1 := rfl
@[simp] theorem e_frzM : tFrzM3 i tb D σ M = slotW σ i fun x => memLst x M fun a xs => tb D (σ.set i (.val (.lst xs))) (M.del a) := rfl
@[simp] theorem e_make : tMake3 C sp W tr σ M Q = tr σ M fun xs M1 => makeW C sp W xs M1 Q := rfl
@[simp] theorem e_makeM : tMakeM3 C sp W tr σ M Q = tr σ M fun xs M1 => makeMW C sp W xs M1 Q := rfl
@[simp] theorem e_meth : tMeth3 C m sp W te tr σ M Q = te σ M fun x M1 => ∃ a fs, x = .raw (.ref a) ∧ M1 a = some (.ins C fs) ∧ fs.lookup m = none ∧ tr σ M1 fun xs M2 => sp (x :: xs) M2 Q W := rfl
@[simp] theorem e_fld {f : Str} : tFld3 C f te σ M Q = te σ M fun x M1 => optW (fldOf C f M1 x) fun y => Q y M1 := rfl
@[simp] theorem e_rg13 {QA : List PV → Mem → Prop} : tRg13 te σ M QA = te σ M fun x M1 => intW x fun i => QA [.int 0, .int i] M1 := rfl
@[simp] theorem e_rg23 {QA : List PV → Mem → Prop} : tRg23 te to σ M QA = te σ M fun x M1 => to σ M1 fun y M2 => intW x fun i => intW y fun j => QA [.int i, .int j] M2 := rfl
@[simp] theorem e_tupRg : tTupRg3 tr σ M Q = tr σ M fun xs M1 => match xs with
  | [.int i, .int j] => (smW i ∧ smW j ∧ j - i ≤ 16777216) ∧ Q (.tup (intsFrom i (j - i).toNat)) M1
  | _ => False := rfl
theorem putP_len {f : Str} {v : PV} : ∀ {fs : List (Str × PV)}, (putP f v fs).length ≤ fs.length + 1
  | [] => Nat.le_refl _
  | (g, x) :: r => by
    unfold putP
    by_cases q : g = f
    · rw [if_pos q]; simp
    · rw [if_neg q]
      have := putP_len (f := f) (v := v) (fs := r)
      simp; omega
@[simp] theorem e_lkIns {fs : List Str} : look M (.ins C fs xs) = .ins C fs xs := rfl
@[simp high] theorem e_tup2 {i0 i1 : Nat} {x0 x1 : PV} {QG : Sl → Mem → Prop} : gTup3 2 (gCons3 (gName3 i0) (gCons3 (gName3 i1) gNil3)) (.tup [x0, x1]) σ M QG = QG ((σ.set i0 (.val x0)).set i1 (.val x1)) M := propext ⟨fun h => h.2.2, fun h => ⟨rfl, rfl, h⟩⟩
@[simp high] theorem e_tup3 {i0 i1 i2 : Nat} {x0 x1 x2 : PV} {QG : Sl → Mem → Prop} : gTup3 3 (gCons3 (gName3 i0) (gCons3 (gName3 i1) (gCons3 (gName3 i2) gNil3))) (.tup [x0, x1, x2]) σ M QG = QG (((σ.set i0 (.val x0)).set i1 (.val x1)).set i2 (.val x2)) M := propext ⟨fun h => h.2.2, fun h => ⟨rfl, rfl, h⟩⟩
@[simp high] theorem e_tup4 {i0 i1 i2 i3 : Nat} {x0 x1 x2 x3 : PV} {QG : Sl → Mem → Prop} : gTup3 4 (gCons3 (gName3 i0) (gCons3 (gName3 i1) (gCons3 (gName3 i2) (gCons3 (gName3 i3) gNil3)))) (.tup [x0, x1, x2, x3]) σ M QG = QG ((((σ.set i0 (.val x0)).set i1 (.val x1)).set i2 (.val x2)).set i3 (.val x3)) M := propext ⟨fun h => h.2.2, fun h => ⟨rfl, rfl, h⟩⟩
@[simp high] theorem e_tup5 {i0 i1 i2 i3 i4 : Nat} {x0 x1 x2 x3 x4 : PV} {QG : Sl → Mem → Prop} : gTup3 5 (gCons3 (gName3 i0) (gCons3 (gName3 i1) (gCons3 (gName3 i2) (gCons3 (gName3 i3) (gCons3 (gName3 i4) gNil3))))) (.tup [x0, x1, x2, x3, x4]) σ M QG = QG (((((σ.set i0 (.val x0)).set i1 (.val x1)).set i2 (.val x2)).set i3 (.val x3)).set i4 (.val x4)) M := propext ⟨fun h => h.2.2, fun h => ⟨rfl, rfl, h⟩⟩
theorem lk_mem {a : Addr} (h : M a = some (.lst xs)) : look M (.raw (.ref a)) = .lst xs := by simp only [look, h]
theorem memLst_at {a : Addr} {k : Addr → List PV → Prop} (h : M a = some (.lst xs)) (q : k a xs) : memLst (.raw (.ref a)) M k := by unfold memLst; simp only [h]; exact q
@[simp] theorem e_mtM {w : W1} {t : TA3} : tMtM3 te w t D σ M = te σ M fun r M0 => memLst r M0 fun _ _ => t σ M0 fun ps M1 => memLst r M1 fun a xs => w xs ps fun ys => D.nx σ (M1.put a (.lst ys)) := rfl
theorem memLst_eq {a : Addr} {k : Addr → List PV → Prop} (h : M a = some (.lst xs)) : memLst (.raw (.ref a)) M k = k a xs := by unfold memLst; simp only [h]
theorem memIns_eq {a : Addr} {fs : List (Str × PV)} {k : Addr → Addr → List (Str × PV) → Prop} (h : M a = some (.ins C fs)) : memIns (.raw (.ref a)) M k = k a C fs := by unfold memIns; simp only [h]
theorem memIns_at {a : Addr} {fs : List (Str × PV)} {k : Addr → Addr → List (Str × PV) → Prop} (h : M a = some (.ins C fs)) (q : k a C fs) : memIns (.raw (.ref a)) M k := by unfold memIns; simp only [h]; exact q
theorem fldOf_mem {a : Addr} {f : Str} {fs : List (Str × PV)} (h : M a = some (.ins C fs)) : fldOf C f M (.raw (.ref a)) = fs.lookup f := by unfold fldOf; simp only [h, if_true]
@[simp] theorem fldOf_ins {f : Str} {fs : List Str} : fldOf C f M (.ins C fs xs) = (fs.zip xs).lookup f := by unfold fldOf; exact if_pos rfl
end
end T3

namespace T3
open PySem PySem.Spec PyProof.Rows L2

/-! ## dicts with whole numbers as keys -/
def dGetP (n : Int) : List Int → List PV → Option PV
  | k :: ks, x :: xs => if k = n then some x else dGetP n ks xs
  | _, _ => none
def dPutKs (n : Int) (ks : List Int) : List Int := if n ∈ ks then ks else ks ++ [n]
def dPutV (n : Int) (v : PV) : List Int → List PV → List PV
  | k :: ks, x :: xs => (if k = n then v else x) :: dPutV n v ks xs
  | _, _ => []
def dPutVs (n : Int) (v : PV) (ks : List Int) (xs : List PV) : List PV := if n ∈ ks then dPutV n v ks xs else xs ++ [v]
section
variable {K : PySem.W.Frag} {H : Hp} {D : Addr → Prop}
theorem dGet_rep {n : Int} : ∀ {ks : List Int} {xs : List PV} {vs : List V}, vs.length = ks.length → Reps K H D xs vs →
    (∀ y, dGetP n ks xs = some y → ∃ v, valV ((ks.map Sum.inl).zip vs : List (Key × V)) (.inl n) = some v ∧ Rep K H D y v) ∧ ((valV ((ks.map Sum.inl).zip vs : List (Key × V)) (.inl n)).isSome = decide (n ∈ ks))
  | [], xs, vs, l, r => by
    have : vs = [] := List.length_eq_zero_iff.mp (by simpa using l)
    subst this
    refine ⟨fun y h => ?_, rfl⟩
    cases xs with
    | nil => cases h
    | cons _ _ => cases h
  | k :: ks, xs, [], l, r => by simp at l
  | k :: ks, [], v :: vs, l, r => by unfold Reps at r; cases r
  | k :: ks, x :: xs, v :: vs, l, r => by
    unfold Reps at r
    obtain ⟨v', r', e, h1, h2⟩ := r
    cases e
    obtain ⟨g1, g2⟩ := dGet_rep (n := n) (ks := ks) (by simpa using l) h2
    show (∀ y, (if k = n then some x else dGetP n ks xs) = some y → ∃ u, valV ((Sum.inl k, v) :: ((ks.map Sum.inl).zip vs) : List (Key × V)) (.inl n) = some u ∧ Rep K H D y u) ∧ ((valV ((Sum.inl k, v) :: ((ks.map Sum.inl).zip vs) : List (Key × V)) (.inl n)).isSome = decide (n ∈ k :: ks))
    by_cases c : k = n
    · subst c
      rw [if_pos rfl, valV_pos rfl]
      exact ⟨fun y h => by cases h; exact ⟨v, rfl, h1⟩, by simp⟩
    · have c' : ¬ (Sum.inl k : Key) = Sum.inl n := fun z => c (Sum.inl.inj z)
      rw [if_neg c, valV_neg (p := ((Sum.inl k : Key), v)) c']
      refine ⟨g1, ?_⟩
      rw [g2]
      have c2 : ¬ n = k := fun z => c z.symm
      simp [c2]
theorem dPutV_len {n : Int} {v : PV} : ∀ {ks : List Int} {xs : List PV}, xs.length = ks.length → (dPutV n v ks xs).length = ks.length
  | [], xs, h => by cases xs <;> rfl
  | k :: ks, [], h => by simp at h
  | k :: ks, x :: xs, h => by simp [dPutV, dPutV_len (ks := ks) (xs := xs) (by simpa using h)]
theorem zip_any {n : Int} : ∀ {ks : List Int} {vs : List V}, vs.length = ks.length → (((ks.map Sum.inl).zip vs : List (Key × V)).any fun kv => decide (kv.1 = Sum.inl n)) = decide (n ∈ ks)
  | [], vs, _ => by simp
  | k :: ks, [], l => by simp at l
  | k :: ks, v :: vs, l => by
    have := zip_any (n := n) (ks := ks) (vs := vs) (by simpa using l)
    rw [List.map_cons, List.zip_cons_cons, List.any_cons, this]
    by_cases c : k = n
    · simp [c]
    · have c2 : ¬ n = k := fun z => c z.symm
      simp [c, c2]
theorem dPut_map {n : Int} {y : PV} {u : V} (ry : Rep K H D y u) : ∀ {ks : List Int} {xs : List PV} {vs : List V}, vs.length = ks.length → Reps K H D xs vs →
    ∃ us, ((ks.map Sum.inl).zip vs : List (Key × V)).map (fun kv => if kv.1 = Sum.inl n then (kv.1, u) else kv) = (ks.map Sum.inl).zip us ∧ us.length = ks.length ∧ Reps K H D (dPutV n y ks xs) us
  | [], xs, vs, l, r => ⟨[], by simp, rfl, by cases xs <;> exact Reps.nil⟩
  | k :: ks, xs, [], l, r => by simp at l
  | k :: ks, [], v :: vs, l, r => by unfold Reps at r; cases r
  | k :: ks, x :: xs, v :: vs, l, r => by
    unfold Reps at r
    obtain ⟨v', r', e, h1, h2⟩ := r
    cases e
    obtain ⟨us, e1, e2, e3⟩ := dPut_map (n := n) ry (ks := ks) (xs := xs) (vs := vs) (by simpa using l) h2
    by_cases c : k = n
    · refine ⟨u :: us, ?_, by simp [e2], ?_⟩
      · simp [e1, c]
      · show Reps K H D ((if k = n then y else x) :: dPutV n y ks xs) _
        rw [if_pos c]
        exact Reps.cons ry e3
    · refine ⟨v :: us, ?_, by simp [e2], ?_⟩
      · simp [e1, c]
      · show Reps K H D ((if k = n then y else x) :: dPutV n y ks xs) _
        rw [if_neg c]
        exact Reps.cons h1 e3
theorem dPut_rep {n : Int} {y : PV} {u : V} (ry : Rep K H D y u) {ks : List Int} {xs : List PV} {vs : List V} (l : vs.length = ks.length) (r : Reps K H D xs vs) :
    ∃ us, putK ((ks.map Sum.inl).zip vs : List (Key × V)) (.inl n) u = ((dPutKs n ks).map Sum.inl).zip us ∧ us.length = (dPutKs n ks).length ∧ Reps K H D (dPutVs n y ks xs) us := by
  unfold putK dPutKs dPutVs
  rw [zip_any l]
  by_cases c : n ∈ ks
  · obtain ⟨us, e1, e2, e3⟩ := dPut_map (n := n) ry l r
    rw [if_pos (by simpa using c), if_pos c, if_pos c]
    exact ⟨us, e1, e2, e3⟩
  · rw [if_neg (by simpa using c), if_neg c, if_neg c]
    refine ⟨vs ++ [u], ?_, by simp [l], r.app (Reps.cons ry Reps.nil)⟩
    rw [List.map_append, List.zip_append (by simp [l])]
    rfl
end
def dicW (x : PV) (k : List Int → List PV → Prop) : Prop := match x with
  | .dic ks xs => k ks xs
  | _ => False
theorem dicW_of {x : PV} {k : List Int → List PV → Prop} (h : dicW x k) : ∃ ks xs, x = .dic ks xs ∧ k ks xs := by
  cases x <;> first | exact h.elim | exact ⟨_, _, rfl, h⟩
def ownDic (σ : Sl) (i : Nat) (k : List Int → List PV → Prop) : Prop := match σ[i]? with
  | some (.own (.dic ks xs)) => k ks xs
  | _ => False
theorem ownDic_of {σ : Sl} {i : Nat} {k : List Int → List PV → Prop} (h : ownDic σ i k) : ∃ ks xs, σ[i]? = some (.own (.dic ks xs)) ∧ k ks xs := by
  unfold ownDic at h
  split at h
  · exact ⟨_, _, by assumption, h⟩
  · exact h.elim
theorem dic_at {K : PySem.W.Frag} {H : Hp} {D : Addr → Prop} {ks : List Int} {xs : List PV} {v : V} (h : RepR K H D (.dic ks xs) v) : ∃ a vs, v = .ref a ∧ H a = some (.dK ((ks.map Sum.inl).zip vs)) ∧ vs.length = ks.length ∧ vs.length ≤ sizeLine ∧ Reps K H D xs vs := h
section
variable {X : Cx} {P : BP} {e o i : Expr} {es : List Expr} {te td tk : TE3} {pos pos' p p1 p2 : Pos} {x : Str}
/-- d[k] -/
def tDGet3 (td tk : TE3) : TE3 := fun σ M Q => td σ M fun x M1 => tk σ M1 fun y M2 => dicW x fun ks xs => intW y fun n => optW (dGetP n ks xs) fun z => Q z M2
theorem pe3_dget (hu : X.A.units + 64 < cLine) (hd : PB3 X P o td) (hk : PE3 X P i tk) (hs : NoSl i := by intro _ _; rfl) : PE3 X P (.Subscript o i pos) (tDGet3 td tk) := fun B hB =>
  PE.imp (pe_dget (by omega) (hd B hB) (hk B hB) hs) fun τ H Q ⟨σ, M, oa, Q3, R, w, k⟩ => ⟨σ, M, oa, _, R, w, fun x M1 v H1 q1 R1 f1 r1 => ⟨σ, M1, oa, _, R1, q1, fun y M2 u H2 q2 R2 f2 r2 => by
    obtain ⟨ks, xs, rfl, q3⟩ := dicW_of q2
    obtain ⟨n, rfl, q4⟩ := intW_of q3
    obtain ⟨z, ez, q5⟩ := optW_of q4
    obtain ⟨a, vs, rfl, h, l, s, r⟩ := dic_at ((r1.fr f2).readable R2)
    obtain ⟨g1, _⟩ := dGet_rep (n := n) l r
    obtain ⟨w, ew, rw'⟩ := g1 z ez
    have eu := rr_int r2.readable
    refine ⟨a, w, rfl, .inl ⟨_, .inl n, .inl h, eu, ew.symm⟩, k z M2 w H2 q5 R2 (f1.trans f2) rw'⟩⟩⟩
/-- k in d -/
def tDIn3 (tk td : TE3) : TE3 := fun σ M Q => tk σ M fun y M1 => td σ M1 fun x M2 => dicW x fun ks xs => intW y fun n => Q (.bl (decide (n ∈ ks))) M2
def tDNotIn3 (tk td : TE3) : TE3 := fun σ M Q => tk σ M fun y M1 => td σ M1 fun x M2 => dicW x fun ks xs => intW y fun n => Q (.bl (!decide (n ∈ ks))) M2
theorem din_lift {B : Base} {K : PySem.W.Frag} {τ : L2.St} {H : Hp} {Q : VK} (h : liftE K B (tDIn3 tk td) τ H Q) : tDIn (liftE K B tk) (liftB K B td) τ H Q := by
  obtain ⟨σ, M, oa, Q3, R, w, k⟩ := h
  refine ⟨σ, M, oa, _, R, w, fun y M1 u H1 q1 R1 f1 r1 => ⟨σ, M1, oa, _, R1, q1, fun x M2 v H2 q2 R2 f2 r2 => ?_⟩⟩
  obtain ⟨ks, xs, rfl, q3⟩ := dicW_of q2
  obtain ⟨n, rfl, q4⟩ := intW_of q3
  obtain ⟨a, vs, rfl, h, l, s, r⟩ := dic_at (r2.readable R2)
  obtain ⟨_, g2⟩ := dGet_rep (n := n) l r
  exact ⟨a, _, rfl, .inl ⟨_, .inl n, .inl h, rr_int r1.readable, rfl⟩, by rw [g2]; exact k _ M2 _ H2 q4 R2 (f1.trans f2) Rep.bl⟩
theorem dnotin_lift {B : Base} {K : PySem.W.Frag} {τ : L2.St} {H : Hp} {Q : VK} (h : liftE K B (tDNotIn3 tk td) τ H Q) : tDNotIn (liftE K B tk) (liftB K B td) τ H Q := by
  obtain ⟨σ, M, oa, Q3, R, w, k⟩ := h
  refine ⟨σ, M, oa, _, R, w, fun y M1 u H1 q1 R1 f1 r1 => ⟨σ, M1, oa, _, R1, q1, fun x M2 v H2 q2 R2 f2 r2 => ?_⟩⟩
  obtain ⟨ks, xs, rfl, q3⟩ := dicW_of q2
  obtain ⟨n, rfl, q4⟩ := intW_of q3
  obtain ⟨a, vs, rfl, h, l, s, r⟩ := dic_at (r2.readable R2)
  obtain ⟨_, g2⟩ := dGet_rep (n := n) l r
  exact ⟨a, _, rfl, .inl ⟨_, .inl n, .inl h, rr_int r1.readable, rfl⟩, by rw [g2]; exact k _ M2 _ H2 q4 R2 (f1.trans f2) Rep.bl⟩
theorem pe3_din (hu : X.A.units + 64 < cLine) (hk : PE3 X P i tk) (hd : PB3 X P o td) (hm : behindInMarks .In o = false := by with_unfolding_all rfl) : PE3 X P (.Compare i [.In] [o] pos) (tDIn3 tk td) := fun B hB =>
  PE.imp (pe_cmp (pc_din (by omega) (hk B hB) (hd B hB)) hm) fun _ _ _ h => din_lift h
theorem pe3_dnotin (hu : X.A.units + 64 < cLine) (hk : PE3 X P i tk) (hd : PB3 X P o td) (hm : behindInMarks .NotIn o = false := by with_unfolding_all rfl) : PE3 X P (.Compare i [.NotIn] [o] pos) (tDNotIn3 tk td) := fun B hB =>
  PE.imp (pe_cmp (pc_dnotin (by omega) (hk B hB) (hd B hB)) hm) fun _ _ _ h => dnotin_lift h
theorem pt3_din (hu : X.A.units + 64 < cLine) (hk : PE3 X P i tk) (hd : PB3 X P o td) (hm : behindInMarks .In o = false := by with_unfolding_all rfl) : PT3 X P (.Compare i [.In] [o] pos) (tTest3 (tDIn3 tk td)) := fun B hB =>
  PT.imp (pt_cmp (pc_din (by omega) (hk B hB) (hd B hB)) hm) fun τ H Q ⟨σ, M, oa, Q3, R, w, k⟩ => din_lift ⟨σ, M, oa, _, R, w, fun x M1 v H1 q1 R1 f1 r1 => by
    obtain ⟨b, rfl, q⟩ := asB_of q1
    exact ⟨b, rr_bl r1.readable, k b M1 H1 q R1 f1⟩⟩
theorem pt3_dnotin (hu : X.A.units + 64 < cLine) (hk : PE3 X P i tk) (hd : PB3 X P o td) (hm : behindInMarks .NotIn o = false := by with_unfolding_all rfl) : PT3 X P (.Compare i [.NotIn] [o] pos) (tTest3 (tDNotIn3 tk td)) := fun B hB =>
  PT.imp (pt_cmp (pc_dnotin (by omega) (hk B hB) (hd B hB)) hm) fun τ H Q ⟨σ, M, oa, Q3, R, w, k⟩ => dnotin_lift ⟨σ, M, oa, _, R, w, fun x M1 v H1 q1 R1 f1 r1 => by
    obtain ⟨b, rfl, q⟩ := asB_of q1
    exact ⟨b, rr_bl r1.readable, k b M1 H1 q R1 f1⟩⟩
/-- d[k] = v, the dict that slot j owns -/
def tDPutO3 (j : Nat) (te tk : TE3) : TS3 := fun D σ M => ownDic σ j fun _ _ => te σ M fun v M1 => tk σ M1 fun y M2 => ownDic σ j fun ks xs => intW y fun n => ks.length < 16777216 ∧ D.nx (σ.set j (.own (.dic (dPutKs n ks) (dPutVs n v ks xs)))) M2
theorem dPutKs_len {n : Int} {ks : List Int} : (dPutKs n ks).length ≤ ks.length + 1 := by
  unfold dPutKs
  by_cases c : n ∈ ks
  · rw [if_pos c]; omega
  · rw [if_neg c]; simp
theorem ps3_dputO (j : Nat) (hu : X.A.units + 64 < cLine) (he : PE3 X P e te) (hk : PE3 X P i tk) (hN : X.N[j]? = some x := by rfl)
    (hv : Vis X.env.scope x := by first | exact Or.inl rfl | exact Or.inr (Or.inl rfl) | exact Or.inr (Or.inr rfl)) (hd : (x == ("__debug__" : Str)) = false := by decide) (hcd : (x == ("__classdict__" : Str)) = false := by decide)
    (hs : swapsWith e (some (.Subscript (.Name x p) i pos')) pos.line X.env = pure false := by rfl) : PS3 X P (.Assign [.Subscript (.Name x p) i pos'] e pos) (tDPutO3 j te tk) := fun B hB =>
  PS.imp (ps_dput (by omega) (pe_var hN hv hd hcd) (hk B hB) (he B hB) hs) fun D τ H ⟨σ, M, oa, E, R, q, k⟩ => by
    obtain ⟨ks0, xs0, ex, q⟩ := ownDic_of q
    refine ⟨σ, M, oa, _, R, q, fun v M1 u H1 q1 R1 f1 r1 => ⟨_, (R1.own j _ ex).1, σ, M1, oa, _, R1, q1, fun y M2 w H2 q2 R2 f2 r2 => ?_⟩⟩
    obtain ⟨ks, xs, ex2, q3⟩ := ownDic_of q2
    obtain ⟨n, rfl, hl, q4⟩ := intW_of q3
    obtain ⟨_, vs, h2, l2, z2, r3⟩ := R2.own j _ ex2
    obtain ⟨us, e1, e2, e3⟩ := dPut_rep (n := n) (r1.fr f2) l2 r3
    have z3 : us.length ≤ sizeLine := by
      rw [e2, sizeLine_eq]
      have := dPutKs_len (n := n) (ks := ks)
      omega
    have no : ∀ ps, (HO.dK (((dPutKs n ks).map Sum.inl).zip us)) ≠ .tbl ps := fun _ z => by cases z
    obtain ⟨R3', f3⟩ := R2.pokeO (x' := .dic (dPutKs n ks) (dPutVs n v ks xs)) ex2 no ⟨us, upd_same, e2, z3, e3.fr (R2.ownFr ex2 no)⟩
    refine ⟨oa j, _, rfl, .inl ⟨_, .inl n, h2, rr_int r2.readable, ?_, rfl⟩, ?_⟩
    · rw [List.length_zip, List.length_map, l2, sizeLine_eq]; omega
    · rw [e1]
      exact k.nx _ _ _ _ _ q4 R3' ((f1.trans f2).all.trans f3)
/-- {k: v} -/
def tDOne3 (tk tv : TE3) : TE3 := fun σ M Q => tk σ M fun y M1 => tv σ M1 fun v M2 => intW y fun n => Q (.dic [n] [v]) M2
/-- len(d) -/
def tDLen3 (td : TE3) : TE3 := fun σ M Q => td σ M fun x M1 => dicW x fun ks xs => Q (.int (ks.length : Int)) M1
theorem pe3_dlen (hm : X.mg "len" = none) (hd : PB3 X P o td) (hg : Gl X "len" := by rfl) (hs : starEach [o] X.env = (false, eval o X.env) :: starEach [] X.env := by rfl) (hpl : (backTo pos (starEach [] X.env)).any (·.1) = false := by rfl) : PE3 X P (.Call (.Name "len" p) [o] [] pos) (tDLen3 td) := fun B hB =>
  PE.imp (pe_callB call_lenD hg hm PySem.boot_len (pa_cons (hd B hB) pa_nil hs) (by decide) (by decide) hs hpl) fun τ H Q ⟨σ, M, oa, Q3, R, w, k⟩ => ⟨σ, M, oa, _, R, w, fun x M1 v H1 q1 R1 f1 r1 => by
    obtain ⟨ks, xs, rfl, q2⟩ := dicW_of q1
    obtain ⟨a, vs, rfl, h, l, s, r⟩ := dic_at (r1.readable R1)
    refine ⟨a, _, rfl, h, ?_⟩
    rw [List.length_zip, List.length_map, l, Nat.min_self]
    exact k _ M1 _ H1 q2 R1 f1 Rep.int⟩
/-- sorted(d) -/
def tDSort3 (td : TE3) : TE3 := fun σ M Q => td σ M fun x M1 => dicW x fun ks xs => ks.length < 64 ∧ ∀ ys : List Int, ys.Perm ks → ys.Pairwise (· ≤ ·) → Q (.lst (ys.map .int)) M1
theorem po3_dsort (hm : X.mg "sorted" = none) (hc : X.calm = true) (hd : PB3 X P o td) (hg : Gl X "sorted" := by rfl) (hs : starEach [o] X.env = (false, eval o X.env) :: starEach [] X.env := by rfl) (hpl : (backTo pos (starEach [] X.env)).any (·.1) = false := by rfl) : PO3 X P (.Call (.Name "sorted" p) [o] [] pos) (tDSort3 td) := fun B hB =>
  PE.imp (pe_callB (call_sortedDI hc) hg hm (by rfl) (pa_cons (hd B hB) pa_nil hs) (by decide) (by decide) hs hpl) fun τ H Q ⟨σ, M, oa, Q3, R, w, k⟩ => ⟨σ, M, oa, _, R, w, fun x M1 v H1 q1 R1 f1 r1 => by
    obtain ⟨ks, xs, rfl, hl, q2⟩ := dicW_of q1
    obtain ⟨a, vs, rfl, h, l, s, r⟩ := dic_at (r1.readable R1)
    refine ⟨a, _, ks, rfl, .inl h, ?_, hl, fun ys p pm pw hp => ?_⟩
    · rw [List.map_fst_zip (by simp [l])]
    · have z : (ys.map V.int).length ≤ sizeLine := by
        rw [List.length_map, pm.length_eq, sizeLine_eq]; omega
      obtain ⟨F, f2⟩ := R1.newList hp (ints_reps ys) z
      exact k _ M1 _ _ (q2 ys pm pw) F (f1.trans f2)⟩
end
section
variable {σ : Sl} {M : Mem} {D : D3} {Q : PV → Mem → Prop} {te td tk : TE3} {j : Nat} {ks : List Int} {xs : List PV}
@[simp] theorem e_dget : tDGet3 td tk σ M Q = td σ M fun x M1 => tk σ M1 fun y M2 => dicW x fun ks xs => intW y fun n => optW (dGetP n ks xs) fun z => Q z M2 := rfl
@[simp] theorem e_din : tDIn3 tk td σ M Q = tk σ M fun y M1 => td σ M1 fun x M2 => dicW x fun ks xs => intW y fun n => Q (.bl (decide (n ∈ ks))) M2 := rfl
@[simp] theorem e_dnotin : tDNotIn3 tk td σ M Q = tk σ M fun y M1 => td σ M1 fun x M2 => dicW x fun ks xs => intW y fun n => Q (.bl (!decide (n ∈ ks))) M2 := rfl
@[simp] theorem e_dputO : tDPutO3 j te tk D σ M = ownDic σ j fun _ _ => te σ M fun v M1 => tk σ M1 fun y M2 => ownDic σ j fun ks xs => intW y fun n => ks.length < 16777216 ∧ D.nx (σ.set j (.own (.dic (dPutKs n ks) (dPutVs n v ks xs)))) M2 := rfl
@[simp] theorem e_dlen : tDLen3 td σ M Q = td σ M fun x M1 => dicW x fun ks xs => Q (.int (ks.length : Int)) M1 := rfl
@[simp] theorem e_dsort : tDSort3 td σ M Q = td σ M fun x M1 => dicW x fun ks xs => ks.length < 64 ∧ ∀ ys : List Int, ys.Perm ks → ys.Pairwise (· ≤ ·) → Q (.lst (ys.map .int)) M1 := rfl
@[simp] theorem e_dicW {k : List Int → List PV → Prop} : dicW (.dic ks xs) k = k ks xs := rfl
@[simp] theorem e_od0 {k : List Int → List PV → Prop} : ownDic (.own (.dic ks xs) :: σ) 0 k = k ks xs := rfl
@[simp] theorem e_ods {s : Slot} {k : List Int → List PV → Prop} : ownDic (s :: σ) (j + 1) k = ownDic σ j k := rfl
end
end T3

namespace T3
open PySem PySem.Spec PyProof.Rows L2

/-! ## comprehensions over what lies in the memory; dict comprehensions -/
section
variable {K : PySem.W.Frag} {B : Base} {σ : Sl} {M M' : Mem} {τ : L2.St} {H H' : Hp} {oa : Nat → Addr}
/-- the new thing is written -/
theorem R3.pokeA {a : Addr} {o0 o' : HO} (R : R3 K (B.plus a) σ M τ H oa) (ha : H a = some o0) (n1 : ∀ ps, o0 ≠ .tbl ps) (n2 : ∀ xs, o0 ≠ .tup xs) (n3 : ∀ q c, o0 ≠ LamX.CodeO c q) (n4 : ∀ ps, o' ≠ .tbl ps) (hE : ¬ Th B.HE a) (nd : ¬ Dm B.DE σ M oa a) :
    R3 K (B.plus a) σ M τ (upd H a o') oa ∧ Fr3 H (upd H a o') (Zp B a σ M oa) (Zp B a σ M oa) := by
  have lv : ∀ b, Th H b → Th (upd H a o') b := fun b ⟨u, q, t⟩ => by
    by_cases hb : b = a
    · rw [hb]; exact ⟨_, upd_same, n4⟩
    · exact ⟨u, by rw [upd_ne hb]; exact q, t⟩
  have tp : ∀ b xs, H b = some (.tup xs) → upd H a o' b = some (.tup xs) := fun b xs e => by
    rw [upd_ne fun z => by rw [z, ha] at e; exact n2 _ (Option.some.inj e)]; exact e
  have f : Fr3 H (upd H a o') (Zp B a σ M oa) (Zp B a σ M oa) := ⟨fun b o e n _ => by rw [upd_ne fun z => n (.inr z)]; exact e, lv, tp, fun b d => .inl d, fun b d => .inl d⟩
  have nM : ∀ b mo, M b = some mo → b ≠ a := fun b mo e z => nd (.inr (.inl ⟨mo, by rw [← z]; exact e⟩))
  have nO : ∀ (i : Nat) x, σ[i]? = some (Slot.own x) → oa i ≠ a := fun i x e z => nd (.inr (.inr ⟨i, x, e, z⟩))
  have fA := f.all
  refine ⟨⟨⟨fun b mo e => ?_, R.mem.sub, fun b o e n t => ?_, fun b n => lv b (R.mem.live b n), fun b xs e => tp b xs (R.mem.tups b xs e), R.mem.new, R.mem.newM, fun b d => lv b (R.mem.dom b d), fun p hp => ?_⟩, R.len, fun i x e => ?_, fun i x e => ?_, R.inj, R.nm⟩, f⟩
  · exact (R.mem.mem b mo e).fr fA (by rw [upd_ne (nM b mo e)])
  · have q := R.mem.keep b o e n t
    rw [upd_ne fun z => hE (by
      rw [z, ha] at q; cases q
      exact ⟨_, by rw [← z]; exact e, n1⟩)]
    exact q
  · obtain ⟨ps, h1, h2, h3⟩ := R.mem.tabs p hp
    refine ⟨ps, by rw [upd_ne fun z => by rw [z, ha] at h1; exact n1 _ (Option.some.inj h1)]; exact h1, h2, fun pos cv hc => ?_⟩
    obtain ⟨c, e1, e2⟩ := h3 pos cv hc
    exact ⟨c, e1, by rw [upd_ne fun z => by rw [z, ha] at e2; exact n3 _ _ (Option.some.inj e2)]; exact e2⟩
  · obtain ⟨v, q, r⟩ := R.slot i x e
    exact ⟨v, q, r.fr fA⟩
  · obtain ⟨q, r⟩ := R.own i x e
    exact ⟨q, r.fr fA (by rw [upd_ne (nO i x e)])⟩
end
/-- the rest of the turns, the memory satisfying G at each -/
def compG (G : Mem → Prop) (g : TG3) (tt : TT3) (te : TE3) (vs : List Nat) (σ : Sl) (Q : PV → Mem → Prop) : List PV → List PV → Mem → Prop
  | [], acc, M => G M ∧ Q (.lst acc) M
  | y :: ys, acc, M => G M ∧ g y (wipe3 σ vs) M fun σ1 M1 => tt σ1 M1 fun b M2 => if b = true then te σ1 M2 fun z M3 => compG G g tt te vs σ Q ys (acc ++ [z]) M3 else compG G g tt te vs σ Q ys acc M2
def tCompG3 (wi : TIG3) (g : TG3) (tt : TT3) (te : TE3) (vs : List Nat) : TE3 := fun σ M Q => noOwn σ vs ∧ wi σ M fun ys G M1 => compG G g tt te vs σ Q ys [] M1
/-- a dict that is filled -/
def dcW (g : TG3) (tt : TT3) (tk tv : TE3) (vs : List Nat) (σ : Sl) (Q : PV → Mem → Prop) : List PV → List Int → List PV → Mem → Prop
  | [], ks, xs, M => Q (.dic ks xs) M
  | y :: ys, ks, xs, M => g y (wipe3 σ vs) M fun σ1 M1 => tt σ1 M1 fun b M2 => if b = true then tk σ1 M2 fun k M3 => tv σ1 M3 fun v M4 => intW k fun n => dcW g tt tk tv vs σ Q ys (dPutKs n ks) (dPutVs n v ks xs) M4 else dcW g tt tk tv vs σ Q ys ks xs M2
def tDComp3 (wi : TI3) (g : TG3) (tt : TT3) (tk tv : TE3) (vs : List Nat) : TE3 := fun σ M Q => noOwn σ vs ∧ wi σ M fun ys M1 => dcW g tt tk tv vs σ Q ys [] [] M1
section
variable {X : Cx} {P : BP} {tg iter elt kx vx : Expr} {wi : TIG3} {wj : TI3} {g : TG3} {ws : List Nat} {tt : TT3} {te tk tv : TE3} {scope : Scope} {own : List (Str × Nat)} {ifs : List Expr} {pos : Pos}
/-- the reading of the comprehension -/
theorem compG_lift {K : PySem.W.Frag} {B : Base} {vs : List Nat} {τ : L2.St} {H : Hp} {Q : VK} (hw : ∀ i ∈ ws, i ∈ vs) (h : liftO K B (tCompG3 wi g tt te vs) τ H Q) :
    tLc (liftIG K B wi) (fun v τ H Q => ∃ B, liftG K B g ws v τ H Q) (fun τ H Q => ∃ B, liftT K B tt τ H Q) (fun τ H Q => ∃ B, liftE K B te τ H Q) vs τ H Q := by
  obtain ⟨σ, M, oa, Q3, R, ⟨no, w⟩, k⟩ := h
  refine ⟨σ, M, oa, _, R, w, fun ys G M1 J H1 q1 R1 f1 hz it D hD => ?_⟩
  obtain ⟨F, fF⟩ := R1.newList hD (xs := []) (vs := []) Reps.nil (Nat.zero_le _)
  have hDE := F.hE
  have eD : ∀ M' : Mem, Dm (B.plus D).DE (wipe3 σ vs) M' oa = Dm (B.plus D).DE σ M' oa := fun M' => Dm.wipe_eq no
  have eD0 : ∀ M' : Mem, Dm B.DE (wipe3 σ vs) M' oa = Dm B.DE σ M' oa := fun M' => Dm.wipe_eq no
  -- the invariant
  refine ⟨fun i m H' => m = ys.length - i ∧ i ≤ ys.length ∧ ∃ acc accV M', R3 K (B.plus D) (wipe3 σ vs) M' (wipe τ vs) H' oa ∧ Fr3 H1 H' (Zm B.DE σ M1 oa) (Zp B D (wipe3 σ vs) M' oa) ∧ H' D = some (.lst accV) ∧
      Reps K H' (Dm (B.plus D).DE (wipe3 σ vs) M' oa) acc accV ∧ acc.length ≤ i ∧ ¬ Dm B.DE σ M' oa D ∧ compG G g tt te vs σ Q3 (ys.drop i) acc M', ⟨_, rfl, Nat.zero_le _, [], [], M1, wipe3_R F.st vs, ?_, upd_same, Reps.nil, Nat.zero_le _, F.nd, q1⟩, ?_⟩
  · refine ⟨fun b o e n t => fF.keep b o e n t, fF.live, fF.tups, fun b d => ?_, fun b d => ?_⟩
    · exact fF.new b (Dm.wipe_le b d)
    · rcases d with d | d
      · exact .inl d
      · exact .inr (nth (by rw [d]; exact hD))
  rintro i m H' ⟨rfl, hi', acc, accV, M', R', f', hDl, rA, hA, nD, q'⟩
  have hG : G M' := by
    cases e : ys.drop i with
    | nil => rw [e] at q'; exact q'.1
    | cons y r => rw [e] at q'; exact q'.1
  have I := it H' (Dm (B.plus D).DE (wipe3 σ vs) M' oa) M' i f'.all R'.mem.dom R'.mem.mem hG
  by_cases hlt : i < ys.length
  · obtain ⟨go, yl⟩ := I.1 hlt
    have hd : ys.drop i = ys[i] :: ys.drop (i + 1) := List.drop_eq_getElem_cons hlt
    rw [hd] at q'
    refine .inr ⟨go, fun H5 => ∃ acc accV M', R3 K (B.plus D) (wipe3 σ vs) M' (wipe τ vs) H5 oa ∧ Fr3 H1 H5 (Zm B.DE σ M1 oa) (Zp B D (wipe3 σ vs) M' oa) ∧ H5 D = some (.lst accV) ∧
      Reps K H5 (Dm (B.plus D).DE (wipe3 σ vs) M' oa) acc accV ∧ acc.length ≤ i + 1 ∧ ¬ Dm B.DE σ M' oa D ∧ compG G g tt te vs σ Q3 (ys.drop (i + 1)) acc M', fun H5 n5 => ⟨ys.length - (i + 1), by omega, rfl, hlt, n5⟩, fun x H2 hy => ?_⟩
    obtain ⟨sm, y, ey, ry⟩ := yl x H2 hy
    have ey' : y = ys[i] := by rw [List.getElem?_eq_getElem hlt] at ey; exact (Option.some.inj ey).symm
    subst ey'
    obtain ⟨R2, f2⟩ := R'.same sm
    refine ⟨B.plus D, ys[i], _, M', oa, _, R2, ry, q'.2, fun σ3 M3 τ3 H3 q3 R3' wp f3 => ?_⟩
    obtain ⟨wp1, wp2⟩ := wp vs hw
    rw [wipe_L (wipe τ vs), wipe_L τ, wipeL_idem, ← wipe_L τ] at wp1
    replace wp2 : wipe3 σ3 vs = wipe3 σ vs := wp2.trans wipeL_idem
    refine ⟨wp1, B.plus D, σ3, M3, oa, _, R3', q3, fun b M4 H4 q4 R4 f4 => ?_⟩
    have fa := (f2.trans f3).trans f4
    -- the end of a turn
    have fin : ∀ {M5 : Mem} {H5 : Hp}, R3 K (B.plus D) σ3 M5 τ3 H5 oa → Fr3 H' H5 (Zm (B.plus D).DE (wipe3 σ vs) M' oa) (Zm (B.plus D).DE σ3 M5 oa) →
        R3 K (B.plus D) (wipe3 σ vs) M5 (wipe τ vs) H5 oa ∧ Fr3 H' H5 (Zm (B.plus D).DE (wipe3 σ vs) M' oa) (Zm (B.plus D).DE (wipe3 σ vs) M5 oa) ∧ H5 D = some (.lst accV) ∧ ¬ Dm B.DE σ M5 oa D ∧ (∀ b, Dm (B.plus D).DE (wipe3 σ vs) M5 oa b → Dm (B.plus D).DE σ3 M5 oa b) := fun {M5 H5} R5 f5 => by
      have r := wipe3_R R5 vs
      rw [wp1, wp2] at r
      have le : ∀ b, Dm (B.plus D).DE (wipe3 σ vs) M5 oa b → Dm (B.plus D).DE σ3 M5 oa b := fun b d => by rw [← wp2] at d; exact Dm.wipe_le b d
      have nM : ¬ ∃ mo, M' D = some mo := fun ⟨mo, e⟩ => nD (.inr (.inl ⟨mo, e⟩))
      refine ⟨r, f5.shrink le fun _ d => d, f5.keep D _ hDl nM (fun _ z => by cases z), fun d => ?_, le⟩
      rcases d with d | d | ⟨j, x, e, d⟩
      · exact nD (.inl d)
      · rcases f5.newM D d with z | z
        · exact nM z
        · exact z ⟨_, hDl, fun _ z => by cases z⟩
      · exact nD (.inr (.inr ⟨j, x, e, d⟩))
    cases b with
    | false =>
      obtain ⟨a1, a2, a3, a4, a5⟩ := fin R4 fa
      exact ⟨acc, accV, M4, a1, f'.trans a2.zp, a3, rA.fr a2, Nat.le_succ_of_le hA, a4, q4⟩
    | true =>
      refine ⟨B.plus D, σ3, M4, oa, _, R4, q4, fun z M5 v H5 q5 R5 f5 r5 => ?_⟩
      obtain ⟨a1, a2, a3, a4, a5⟩ := fin R5 (fa.trans f5)
      have hl : accV.length < sizeLine := by
        rw [rA.len]
        exact Nat.lt_of_lt_of_le (Nat.lt_of_le_of_lt hA hlt) hz
      obtain ⟨R6, f6⟩ := a1.poke (us' := accV ++ [v]) a3 hDE (by rw [eD0]; exact a4)
      have r5' : Rep K H5 (Dm (B.plus D).DE (wipe3 σ vs) M5 oa) z v := r5.fr (Fr3.dom a5)
      refine ⟨accV, a3, hl, acc ++ [z], accV ++ [v], M5, R6, (f'.trans a2.zp).trans f6, upd_same, ?_, by simp; omega, a4, q5⟩
      exact Reps.app ((rA.fr a2).fr f6) (Reps.cons (r5'.fr f6) Reps.nil)
  · have e : i = ys.length := by omega
    subst e
    rw [List.drop_length] at q'
    refine .inl ⟨I.2 rfl, k _ M' _ _ q'.2 ⟨⟨?_, ?_, ?_, ?_, ?_, ?_⟩, ?_, hDE, nD⟩ ?_⟩
    · have m := R'.mem
      rw [eD] at m; exact m
    · exact R1.len
    · intro j x e
      obtain ⟨v, q, r⟩ := R1.slot j x e
      have r2 := r.fr f'
      have eZ : (Zp B D (wipe3 σ vs) M' oa).D = Dm (B.plus D).DE σ M' oa := eD M'
      rw [eZ] at r2
      exact ⟨v, q, r2⟩
    · intro j x e
      have hj : j ∉ vs := fun hj => by
        have z := no j hj
        rw [e] at z
        exact z
      obtain ⟨q, r⟩ := R'.own j x (wipe3_keep hj e)
      rw [eD] at r
      exact ⟨(R1.own j x e).1, r⟩
    · exact R1.inj
    · intro j x e
      have hj : j ∉ vs := fun hj => by
        have z := no j hj
        rw [e] at z
        exact z
      exact R'.nm j x (wipe3_keep hj e)
    · refine ⟨accV, hDl, by rw [rA.len]; exact Nat.le_trans hA hz, ?_⟩
      rw [eD] at rA; exact rA
    · have f2 : Fr3 H1 H' (Zm B.DE σ M1 oa) (Zm (B.plus D).DE σ M' oa) := f'.shrink (fun b d => by
        show Dm (B.plus D).DE (wipe3 σ vs) M' oa b
        rw [eD]; exact d) fun b d => .inl d
      exact f1.trans f2
theorem po3_compG (hc : X.calm = true) (hN : X.N.Nodup) (hi : PIG3 X P tg iter wi) (ok : BlkOk X.N X.env.scope scope own) (hw : ∀ i ∈ ws, i ∈ own.map (·.2))
    (hg : ∀ (s : Shared) (H : Hp) (C : Addr) (cl : List (Str × Addr)) (fp : List Addr), PG3 (X.blk s H scope (compEnvC scope cl C X.env) fp) PAll tg g ws)
    (ht : ∀ (s : Shared) (H : Hp) (C : Addr) (cl : List (Str × Addr)) (fp : List Addr), PTs3 (X.blk s H scope (compEnvC scope cl C X.env) fp) PAll ifs tt)
    (he : ∀ (s : Shared) (H : Hp) (C : Addr) (cl : List (Str × Addr)) (fp : List Addr), PE3 (X.blk s H scope (compEnvC scope cl C X.env) fp) PAll elt te) (hs : ∀ x, foldedSetIterable iter X.env x = pure x := by intro _; rfl) :
    PO3 X P (.ListComp elt [⟨tg, iter, ifs, 0⟩] scope pos) (tCompG3 wi g tt te (own.map (·.2))) := fun B hB =>
  PE.imp (pe_lc hc hN (hi B hB) ok (fun s H C cl fp => (hg s H C cl fp).ex) (fun s H C cl fp => (ht s H C cl fp).ex) (fun s H C cl fp => (he s H C cl fp).ex) hs) fun τ H Q h => compG_lift hw h
/-- the reading of the comprehension -/
theorem dcomp_lift {K : PySem.W.Frag} {B : Base} {vs : List Nat} {τ : L2.St} {H : Hp} {Q : VK} (hw : ∀ i ∈ ws, i ∈ vs) (h : liftO K B (tDComp3 wj g tt tk tv vs) τ H Q) :
    tDc (liftIB K B wj) (fun v τ H Q => ∃ B, liftG K B g ws v τ H Q) (fun τ H Q => ∃ B, liftT K B tt τ H Q) (fun τ H Q => ∃ B, liftE K B tk τ H Q) (fun τ H Q => ∃ B, liftE K B tv τ H Q) vs τ H Q := by
  obtain ⟨σ, M, oa, Q3, R, ⟨no, w⟩, k⟩ := h
  refine ⟨σ, M, oa, _, R, w, fun ys M1 J H1 q1 R1 f1 hz it D hD => ?_⟩
  obtain ⟨RF, fF⟩ := R1.alloc hD (.dK []) (fun _ z => by cases z)
  have hFE := R1.none_E hD
  have hFD := R1.none_D hD
  have hDE := hFE
  have eD : ∀ M' : Mem, Dm (B.plus D).DE (wipe3 σ vs) M' oa = Dm (B.plus D).DE σ M' oa := fun M' => Dm.wipe_eq no
  have eD0 : ∀ M' : Mem, Dm B.DE (wipe3 σ vs) M' oa = Dm B.DE σ M' oa := fun M' => Dm.wipe_eq no
  -- the invariant
  refine ⟨fun i m H' => m = ys.length - i ∧ i ≤ ys.length ∧ ∃ ks acc accV M', R3 K (B.plus D) (wipe3 σ vs) M' (wipe τ vs) H' oa ∧ Fr3 H1 H' (Zm B.DE σ M1 oa) (Zp B D (wipe3 σ vs) M' oa) ∧ H' D = some (.dK ((ks.map Sum.inl).zip accV)) ∧
      Reps K H' (Dm (B.plus D).DE (wipe3 σ vs) M' oa) acc accV ∧ ks.length ≤ i ∧ ¬ Dm B.DE σ M' oa D ∧ accV.length = ks.length ∧ dcW g tt tk tv vs σ Q3 (ys.drop i) ks acc M', ⟨_, rfl, Nat.zero_le _, [], [], [], M1, wipe3_R RF vs, ?_, upd_same, Reps.nil, Nat.zero_le _, hFD, rfl, q1⟩, ?_⟩
  · refine ⟨fun b o e n t => fF.keep b o e n t, fF.live, fF.tups, fun b d => ?_, fun b d => ?_⟩
    · exact fF.new b (Dm.wipe_le b d)
    · rcases d with d | d
      · exact .inl d
      · exact .inr (nth (by rw [d]; exact hD))
  rintro i m H' ⟨rfl, hi', ks, acc, accV, M', R', f', hDl, rA, hA, nD, hL, q'⟩
  have I := it H' (Dm (B.plus D).DE (wipe3 σ vs) M' oa) i f'.all R'.mem.dom (fun j x e => ?_)
  rotate_left
  · have hj : j ∉ vs := fun hj => by
      have z := no j hj
      rw [e] at z
      exact z
    exact (R'.own j x (wipe3_keep hj e)).2
  by_cases hlt : i < ys.length
  · obtain ⟨go, yl⟩ := I.1 hlt
    have hd : ys.drop i = ys[i] :: ys.drop (i + 1) := List.drop_eq_getElem_cons hlt
    rw [hd] at q'
    refine .inr ⟨go, fun H5 => ∃ ks acc accV M', R3 K (B.plus D) (wipe3 σ vs) M' (wipe τ vs) H5 oa ∧ Fr3 H1 H5 (Zm B.DE σ M1 oa) (Zp B D (wipe3 σ vs) M' oa) ∧ H5 D = some (.dK ((ks.map Sum.inl).zip accV)) ∧
      Reps K H5 (Dm (B.plus D).DE (wipe3 σ vs) M' oa) acc accV ∧ ks.length ≤ i + 1 ∧ ¬ Dm B.DE σ M' oa D ∧ accV.length = ks.length ∧ dcW g tt tk tv vs σ Q3 (ys.drop (i + 1)) ks acc M', fun H5 n5 => ⟨ys.length - (i + 1), by omega, rfl, hlt, n5⟩, fun x H2 hy => ?_⟩
    obtain ⟨sm, y, ey, ry⟩ := yl x H2 hy
    have ey' : y = ys[i] := by rw [List.getElem?_eq_getElem hlt] at ey; exact (Option.some.inj ey).symm
    subst ey'
    obtain ⟨R2, f2⟩ := R'.same sm
    refine ⟨B.plus D, ys[i], _, M', oa, _, R2, ry, q', fun σ3 M3 τ3 H3 q3 R3' wp f3 => ?_⟩
    obtain ⟨wp1, wp2⟩ := wp vs hw
    rw [wipe_L (wipe τ vs), wipe_L τ, wipeL_idem, ← wipe_L τ] at wp1
    replace wp2 : wipe3 σ3 vs = wipe3 σ vs := wp2.trans wipeL_idem
    refine ⟨wp1, B.plus D, σ3, M3, oa, _, R3', q3, fun b M4 H4 q4 R4 f4 => ?_⟩
    have fa := (f2.trans f3).trans f4
    -- the end of a turn
    have fin : ∀ {M5 : Mem} {H5 : Hp}, R3 K (B.plus D) σ3 M5 τ3 H5 oa → Fr3 H' H5 (Zm (B.plus D).DE (wipe3 σ vs) M' oa) (Zm (B.plus D).DE σ3 M5 oa) →
        R3 K (B.plus D) (wipe3 σ vs) M5 (wipe τ vs) H5 oa ∧ Fr3 H' H5 (Zm (B.plus D).DE (wipe3 σ vs) M' oa) (Zm (B.plus D).DE (wipe3 σ vs) M5 oa) ∧ H5 D = some (.dK ((ks.map Sum.inl).zip accV)) ∧ ¬ Dm B.DE σ M5 oa D ∧ (∀ b, Dm (B.plus D).DE (wipe3 σ vs) M5 oa b → Dm (B.plus D).DE σ3 M5 oa b) := fun {M5 H5} R5 f5 => by
      have r := wipe3_R R5 vs
      rw [wp1, wp2] at r
      have le : ∀ b, Dm (B.plus D).DE (wipe3 σ vs) M5 oa b → Dm (B.plus D).DE σ3 M5 oa b := fun b d => by rw [← wp2] at d; exact Dm.wipe_le b d
      have nM : ¬ ∃ mo, M' D = some mo := fun ⟨mo, e⟩ => nD (.inr (.inl ⟨mo, e⟩))
      refine ⟨r, f5.shrink le fun _ d => d, f5.keep D _ hDl nM (fun _ z => by cases z), fun d => ?_, le⟩
      rcases d with d | d | ⟨j, x, e, d⟩
      · exact nD (.inl d)
      · rcases f5.newM D d with z | z
        · exact nM z
        · exact z ⟨_, hDl, fun _ z => by cases z⟩
      · exact nD (.inr (.inr ⟨j, x, e, d⟩))
    cases b with
    | false =>
      obtain ⟨a1, a2, a3, a4, a5⟩ := fin R4 fa
      exact ⟨ks, acc, accV, M4, a1, f'.trans a2.zp, a3, rA.fr a2, Nat.le_succ_of_le hA, a4, hL, q4⟩
    | true =>
      refine ⟨B.plus D, σ3, M4, oa, _, R4, q4, fun kz M5 kv H5 q5 R5 f5 r5 => ⟨B.plus D, σ3, M5, oa, _, R5, q5, fun z M6 v H6 q6 R6 f6 r6 => ?_⟩⟩
      obtain ⟨n, rfl, q7⟩ := intW_of q6
      obtain ⟨a1, a2, a3, a4, a5⟩ := fin R6 ((fa.trans f5).trans f6)
      have hl : ((ks.map Sum.inl).zip accV : List (Key × V)).length < sizeLine := by
        rw [List.length_zip, List.length_map, hL, Nat.min_self]
        exact Nat.lt_of_lt_of_le (Nat.lt_of_le_of_lt hA hlt) hz
      have r6' : Rep K H6 (Dm (B.plus D).DE (wipe3 σ vs) M6 oa) z v := r6.fr (Fr3.dom a5)
      obtain ⟨us, e1, e2, e3⟩ := dPut_rep (n := n) r6' hL (rA.fr a2)
      obtain ⟨R7, f7⟩ := a1.pokeA (o' := .dK (((dPutKs n ks).map Sum.inl).zip us)) a3 (fun _ z => by cases z) (fun _ z => by cases z) (fun _ _ z => by unfold LamX.CodeO at z; cases z) (fun _ z => by cases z) hDE (by rw [eD0]; exact a4)
      refine ⟨_, .inl n, rr_int r5.readable, a3, hl, dPutKs n ks, dPutVs n z ks acc, us, M6, ?_, ?_, ?_, ?_, ?_, a4, e2, q7⟩
      · rw [e1]; exact R7
      · rw [e1]; exact (f'.trans a2.zp).trans f7
      · rw [e1]; exact upd_same
      · rw [e1]; exact e3.fr f7
      · have := dPutKs_len (n := n) (ks := ks); omega
  · have e : i = ys.length := by omega
    subst e
    rw [List.drop_length] at q'
    refine .inl ⟨I.2 rfl, k _ M' _ _ q' ⟨⟨?_, ?_, ?_, ?_, ?_, ?_⟩, ?_, hDE, nD⟩ ?_⟩
    · have m := R'.mem
      rw [eD] at m; exact m
    · exact R1.len
    · intro j x e
      obtain ⟨v, q, r⟩ := R1.slot j x e
      have r2 := r.fr f'
      have eZ : (Zp B D (wipe3 σ vs) M' oa).D = Dm (B.plus D).DE σ M' oa := eD M'
      rw [eZ] at r2
      exact ⟨v, q, r2⟩
    · intro j x e
      have hj : j ∉ vs := fun hj => by
        have z := no j hj
        rw [e] at z
        exact z
      obtain ⟨q, r⟩ := R'.own j x (wipe3_keep hj e)
      rw [eD] at r
      exact ⟨(R1.own j x e).1, r⟩
    · exact R1.inj
    · intro j x e
      have hj : j ∉ vs := fun hj => by
        have z := no j hj
        rw [e] at z
        exact z
      exact R'.nm j x (wipe3_keep hj e)
    · refine ⟨accV, hDl, hL, by rw [hL]; exact Nat.le_trans hA hz, ?_⟩
      rw [eD] at rA; exact rA
    · have f2 : Fr3 H1 H' (Zm B.DE σ M1 oa) (Zm (B.plus D).DE σ M' oa) := f'.shrink (fun b d => by
        show Dm (B.plus D).DE (wipe3 σ vs) M' oa b
        rw [eD]; exact d) fun b d => .inl d
      exact f1.trans f2
theorem po3_dcomp (hc : X.calm = true) (hN : X.N.Nodup) (hi : PIB3 X P tg iter wj) (ok : BlkOk X.N X.env.scope scope own) (hw : ∀ i ∈ ws, i ∈ own.map (·.2))
    (hg : ∀ (s : Shared) (H : Hp) (C : Addr) (cl : List (Str × Addr)) (fp : List Addr), PG3 (X.blk s H scope (compEnvC scope cl C X.env) fp) PAll tg g ws)
    (ht : ∀ (s : Shared) (H : Hp) (C : Addr) (cl : List (Str × Addr)) (fp : List Addr), PTs3 (X.blk s H scope (compEnvC scope cl C X.env) fp) PAll ifs tt)
    (hk : ∀ (s : Shared) (H : Hp) (C : Addr) (cl : List (Str × Addr)) (fp : List Addr), PE3 (X.blk s H scope (compEnvC scope cl C X.env) fp) PAll kx tk)
    (he : ∀ (s : Shared) (H : Hp) (C : Addr) (cl : List (Str × Addr)) (fp : List Addr), PE3 (X.blk s H scope (compEnvC scope cl C X.env) fp) PAll vx tv) (hs : ∀ x, foldedSetIterable iter X.env x = pure x := by intro _; rfl) :
    PO3 X P (.DictComp kx vx [⟨tg, iter, ifs, 0⟩] scope pos) (tDComp3 wj g tt tk tv (own.map (·.2))) := fun B hB =>
  PE.imp (pe_dc hc hN (hi B hB) ok (fun s H C cl fp => (hg s H C cl fp).ex) (fun s H C cl fp => (ht s H C cl fp).ex) (fun s H C cl fp => (hk s H C cl fp).ex) (fun s H C cl fp => (he s H C cl fp).ex) hs) fun τ H Q h => dcomp_lift hw h
end
section
variable {σ : Sl} {M : Mem} {Q : PV → Mem → Prop} {te tk tv : TE3} {tt : TT3} {g : TG3} {vs : List Nat}
@[simp] theorem e_compG {wi : TIG3} : tCompG3 wi g tt te vs σ M Q = (noOwn σ vs ∧ wi σ M fun ys G M1 => compG G g tt te vs σ Q ys [] M1) := rfl
@[simp] theorem e_dcomp {wi : TI3} : tDComp3 wi g tt tk tv vs σ M Q = (noOwn σ vs ∧ wi σ M fun ys M1 => dcW g tt tk tv vs σ Q ys [] [] M1) := rfl
end
end T3

namespace T3
open PySem PySem.Spec PyProof.Rows L2

/-! ## tuple * int -/
theorem tuple_mul1 (l : Addr) (items : Array Value) (n : Nat) (dd : Option Addr) (sl : Array (Option Value)) (x : Int) (u : Tok) (c0 : (decide (x < -(2 ^ 63)) || decide (x ≥ 2 ^ 63)) = false) (c1 : (items.isEmpty || x == 1) = true) :
    Meets (Builtin.«tuple.__mul__» ⟨[.ref l, .int x u], []⟩) (fun _ R s => s.heap.get? l = some { cls := .type "tuple", dict := dd, data := .seq items n, slots := sl } ∧ R (.ok (.ret (Value.ref l))) s) :=
  .of_wp fun prog w A R s h => by
    obtain ⟨hp, g, d, tk, os⟩ := s
    obtain ⟨hl, h⟩ := h
    have f1 := AutoSeq1.idx_int
    wp_walk using wpAny_loadPart' hl
    repeat (first
      | (refine wpAny_ite_false (decide_eq_false (by rw [c0]; exact Bool.false_ne_true)) ?_; wp_walk using wpAny_loadPart' hl)
      | (refine wpAny_ite_true (decide_eq_true (by rw [c1])) ?_; wp_walk using wpAny_loadPart' hl))
    exact ⟨_, rfl, h⟩
theorem tuple_mul0 (l : Addr) (items : Array Value) (n : Nat) (dd : Option Addr) (sl : Array (Option Value)) (x : Int) (u : Tok) (c0 : (decide (x < -(2 ^ 63)) || decide (x ≥ 2 ^ 63)) = false) (c1 : (items.isEmpty || x == 1) = false) (c2 : (decide (x ≤ 0) || items.isEmpty) = true) :
    Meets (Builtin.«tuple.__mul__» ⟨[.ref l, .int x u], []⟩) (fun _ R s => s.heap.get? l = some { cls := .type "tuple", dict := dd, data := .seq items n, slots := sl } ∧
      R (.ok (.ret (Value.ref s.heap.objs.size))) { s with heap := s.heap.push { cls := Value.type "tuple", data := Data.seq #[] }, toks := s.toks }) :=
  .of_wp fun prog w A R s h => by
    obtain ⟨hp, g, d, tk, os⟩ := s
    obtain ⟨hl, h⟩ := h
    have f1 := AutoSeq1.idx_int
    wp_walk using wpAny_loadPart' hl
    repeat (first
      | (refine wpAny_ite_false (decide_eq_false (by rw [c0]; exact Bool.false_ne_true)) ?_; wp_walk using wpAny_loadPart' hl)
      | (refine wpAny_ite_false (decide_eq_false (by rw [c1]; exact Bool.false_ne_true)) ?_; wp_walk using wpAny_loadPart' hl)
      | (refine wpAny_ite_true (decide_eq_true (by rw [c2])) ?_; wp_walk using wpAny_loadPart' hl))
    exact ⟨_, rfl, h⟩
section
variable {X : Cx}
/-- the same object -/
def rRepT1 (K : PySem.W.Frag) : R2 := fun x y H Q => ∃ l k xs, x = .ref l ∧ y = .int k ∧ SqT K H l xs ∧ (xs = [] ∨ k = 1) ∧ -1000 ≤ k ∧ k ≤ 1000 ∧ Q (.ref l) H
def rRepT0 (K : PySem.W.Frag) : R2 := fun x y H Q => ∃ l k xs, x = .ref l ∧ y = .int k ∧ SqT K H l xs ∧ xs ≠ [] ∧ k ≤ 0 ∧ -1000 ≤ k ∧ ∀ p, H p = none → Q (.ref p) (upd H p (.tup []))
theorem op_repT1 : OpR X (binaryOp .Mult) (rRepT1 X.K) := by
  intro pins s σ H x y v u Q I rx ry h
  obtain ⟨l, k, xs, rfl, rfl, hT, hc1, h1, h2, q⟩ := h
  cases rx
  obtain ⟨t, rfl⟩ := ry
  obtain ⟨its, r, ⟨⟨cls, dd, data, sl⟩, ho, hc, n, hd⟩, hs⟩ := I.tuple hT
  simp only at hc hd
  subst hc hd
  have hle : its.length = xs.length := r.length.symm
  have c0 : (decide (k < -(2 ^ 63)) || decide (k ≥ 2 ^ 63)) = false := by
    rw [decide_eq_false (by omega), decide_eq_false (by omega)] <;> rfl
  have c1 : (its.toArray.isEmpty || k == 1) = true := by
    rcases hc1 with e | e
    · rw [e] at hle
      have : its = [] := List.eq_nil_of_length_eq_zero hle
      rw [this]; rfl
    · rw [e]; simp
  refine wpAny_binaryOp_repeat_ref (T := "tuple") (U := "int") (by decide) ⟨_, ho, rfl⟩ (fun s' => typeIs_int s' k t) noFill_tuple_mul F.fills_int_mul F.slot_int_rmul repeat_tuple F.slot_int_index.lookup
    (call_meets F.slot_int_rmul (typeIs_int s k t) F.entry_int_rmul (F.args_int_rmul_2 _ _) (int_rmul_tuple k t l its.toArray n dd sl)
      ⟨ho, rfl, ⟨_, ho, rfl⟩, call_meets F.slot_tuple_mul ⟨_, ho, rfl⟩ F.entry_tuple_mul (F.args_tuple_mul_2 _ _) (tuple_mul1 l its.toArray n dd sl k t c0 c1) ⟨ho, ?_⟩⟩)
  exact ⟨.ref l, _, I, rfl, q⟩
theorem op_repT0 : OpR X (binaryOp .Mult) (rRepT0 X.K) := by
  intro pins s σ H x y v u Q I rx ry h
  obtain ⟨l, k, xs, rfl, rfl, hT, hne, h1, h2, q⟩ := h
  cases rx
  obtain ⟨t, rfl⟩ := ry
  obtain ⟨its, r, ⟨⟨cls, dd, data, sl⟩, ho, hc, n, hd⟩, hs⟩ := I.tuple hT
  simp only at hc hd
  subst hc hd
  have hle : its.length = xs.length := r.length.symm
  have hn : its ≠ [] := fun e => hne (by
    rw [e] at hle
    exact List.eq_nil_of_length_eq_zero hle.symm)
  have hi : its.toArray.isEmpty = false := by
    cases its with
    | nil => exact absurd rfl hn
    | cons a b => rfl
  have c0 : (decide (k < -(2 ^ 63)) || decide (k ≥ 2 ^ 63)) = false := by
    rw [decide_eq_false (by omega), decide_eq_false (by omega)] <;> rfl
  have c1 : (its.toArray.isEmpty || k == 1) = false := by
    rw [hi, Bool.false_or]
    exact beq_eq_false_iff_ne.mpr (by omega)
  have c2 : (decide (k ≤ 0) || its.toArray.isEmpty) = true := by
    rw [hi, Bool.or_false]
    exact decide_eq_true h1
  refine wpAny_binaryOp_repeat_ref (T := "tuple") (U := "int") (by decide) ⟨_, ho, rfl⟩ (fun s' => typeIs_int s' k t) noFill_tuple_mul F.fills_int_mul F.slot_int_rmul repeat_tuple F.slot_int_index.lookup
    (call_meets F.slot_int_rmul (typeIs_int s k t) F.entry_int_rmul (F.args_int_rmul_2 _ _) (int_rmul_tuple k t l its.toArray n dd sl)
      ⟨ho, rfl, ⟨_, ho, rfl⟩, call_meets F.slot_tuple_mul ⟨_, ho, rfl⟩ F.entry_tuple_mul (F.args_tuple_mul_2 _ _) (tuple_mul0 l its.toArray n dd sl k t c0 c1 c2) ⟨ho, ?_⟩⟩)
  refine ⟨.ref s.heap.objs.size, _, I.laid (t' := s.toks) (o := .tup []) (fun b ob q => Heap.get?_push_of_some _ q) (Nat.le_refl _) ?_, rfl, q _ (I.hok.fresh (Nat.le_refl _))⟩
  exact ⟨Nat.zero_le _, [], .nil, IsTup.new _ _⟩
def rTMul3 : R2T := fun x y k => match x, y with
  | .tup xs, .int n => (xs.length ≤ 1000 ∧ -1000 ≤ n ∧ n ≤ 1000) ∧ k (.tup (List.replicate n.toNat xs).flatten)
  | _, _ => False
theorem op3_tmul : Op3 X (binaryOp .Mult) rTMul3 := OpR.imp (op_repT.or (op_repT1.or op_repT0)) fun x y H Q ⟨D, px, py, Q3, dD, rx, ry, w, k⟩ => by
  unfold rTMul3 at w
  split at w
  · rename_i xs n
    obtain ⟨⟨h1, h2, h3⟩, q⟩ := w
    obtain ⟨a, vs, rfl, t, z, r⟩ := rr_tup rx
    have ey := rr_int ry
    have lv := r.len
    by_cases c : xs = []
    · subst c
      have ev : vs = [] := List.eq_nil_of_length_eq_zero lv
      subst ev
      have e : (List.replicate n.toNat ([] : List PV)).flatten = [] := by simp
      rw [e] at q
      exact .inr (.inl ⟨a, n, [], rfl, ey, t, .inl rfl, h2, h3, k.here q (tup_rep rx)⟩)
    · have hv : vs ≠ [] := fun e => by
        rw [e] at lv
        exact c (List.eq_nil_of_length_eq_zero lv.symm)
      by_cases c1 : n = 1
      · subst c1
        have e : (List.replicate (1 : Int).toNat xs).flatten = xs := by simp
        rw [e] at q
        exact .inr (.inl ⟨a, 1, vs, rfl, ey, t, .inr rfl, by omega, by omega, k.here q (tup_rep rx)⟩)
      · by_cases c2 : n ≤ 0
        · have e : (List.replicate n.toNat xs).flatten = [] := by rw [show n.toNat = 0 by omega]; simp
          rw [e] at q
          exact .inr (.inr ⟨a, n, vs, rfl, ey, t, hv, c2, h2, fun p hp => k.tup q Reps.nil (Nat.zero_le _) hp⟩)
        · refine .inl ⟨a, n, vs, rfl, ey, t, hv, by omega, h3, by omega, fun p hp => k.tup q (r.rep n.toNat) ?_ hp⟩
          rw [len_rep, sizeLine_eq]
          have a1 : vs.length * n.toNat ≤ 1000 * 1000 := Nat.mul_le_mul (by omega) (by omega)
          omega
  · exact w.elim
@[simp] theorem e_tmul {xs : List PV} {n : Int} {k : PV → Prop} : rTMul3 (.tup xs) (.int n) k = ((xs.length ≤ 1000 ∧ -1000 ≤ n ∧ n ≤ 1000) ∧ k (.tup (List.replicate n.toNat xs).flatten)) := rfl
end
end T3

namespace T3
open PySem PySem.Spec PyProof.Rows L2

/-! ## max(list, default = d) -/
section
variable {X : Cx} {P : BP} {e o : Expr} {te td : TE3} {pos p kp : Pos}
theorem max_dfl (hc : X.calm = true) (hu : X.A.units + 64 < cLine) : CallRK X (.builtin "max") [Str.ofString "default"] (fun vs zs H Q => ∃ (D : Addr → Prop) (xs : List PV) (v d : V), vs = [v] ∧ zs = [d] ∧ RepR X.K H D (.lst xs) v ∧ alikeP xs ∧ (xs = [] → Q d H) ∧ ∀ y ys, xs = y :: ys → ∀ w, Rep X.K H D (maxP y ys) w → Q w H) := fun pins s σ H vs zs us ws Q I r rz ⟨D, xs, v, d, e, ez, rp, al, q0, q1⟩ => by
  subst e
  subst ez
  obtain ⟨u, rfl, ru⟩ := vals1 r
  obtain ⟨ud, rfl, rd⟩ := vals1 rz
  obtain ⟨a, us', rfl, t, z, rr⟩ := rr_lst rp
  cases ru
  obtain ⟨its, rv, pl, hz⟩ := I.list t
  obtain ⟨as, ra⟩ := data_all I (fun x hx => (al.1 x hx).1) rr rv
  refine PySem.W.max_list_default (I.ok.hd hc) pl.isList (xs := pdsOf xs) (by simpa using ra) (alikeP.all al) ?_ (fun e h' tk hk => ?_) fun y ys i v h' tk bs e hv hr hk => ?_
  · have := depth_pds (xs := xs) fun x hx => (al.1 x hx).1
    omega
  · have ex : xs = [] := by cases xs with | nil => rfl | cons => simp [pdsOf] at e
    exact ⟨d, H, I.kept hk, rd, q0 ex⟩
  · cases xs with
    | nil => simp [pdsOf] at e
    | cons x xs =>
      have e2 : pdsOf (x :: xs) = pdOf x :: pdsOf xs := by simp [pdsOf]
      rw [e2] at e
      cases e
      rw [pdsOf_map, ← maxP_pd] at hr
      obtain ⟨w, rw', rp'⟩ := item_of I (fun x hx => (al.1 x hx).1) rr rv (by simpa using hv) hk (maxP_mem xs x) hr
      exact ⟨w, H, I.kept hk, rw', q1 x xs rfl w rp'⟩
def tMaxD3 (te td : TE3) : TE3 := fun σ M Q => te σ M fun x M1 => td σ M1 fun d M2 => lstW (look M2 x) fun xs => alikeP xs ∧ match xs with
  | [] => Q d M2
  | y :: ys => Q (maxP y ys) M2
theorem pe3_maxD (hm : X.mg "max" = none) (hc : X.calm = true) (hu : X.A.units + 64 < cLine) (he : PB3 X P e te) (hd : PE3 X P o td) (hg : Gl X "max" := by rfl) (hs : starEach [e] X.env = (false, eval e X.env) :: starEach [] X.env := by rfl)
    (he2 : backTo pos (starEach [e] X.env) = (false, eval e X.env) :: backTo pos (starEach [] X.env) := by rfl) (hpl : (backTo pos (starEach [e] X.env)).any (·.1) = false := by rfl)
    (hall : (backToKw pos (keywordEach [⟨some "default", o, kp⟩] X.env)).all (·.1.isSome) = true := by rfl) (hnone : (backToKw pos (keywordEach [⟨some "default", o, kp⟩] X.env)).any (·.1.isNone) = false := by rfl) (hks : (backToKw pos (keywordEach [⟨some "default", o, kp⟩] X.env)).filterMap (·.1) = [Str.ofString "default"] := by rfl) :
    PE3 X P (.Call (.Name "max" p) [e] [⟨some "default", o, kp⟩] pos) (tMaxD3 te td) := fun B hB =>
  PE.imp (pe_callBK (max_dfl hc hu) hg hm (by rfl) (pa_cons (he B hB) pa_nil hs) (pk_cons (hd B hB) pk_nil) (by decide) (by decide) he2 hpl hall hnone hks) fun τ H Q ⟨σ, M, oa, Q3, R, w, k⟩ => ⟨σ, M, oa, _, R, w, fun x M1 v H1 q1 R1 f1 r1 => ⟨σ, M1, oa, _, R1, q1, fun d M2 u H2 q2 R2 f2 r2 => by
    obtain ⟨xs, ex, al, q3⟩ := lstW_of q2
    have rx := (r1.fr f2).readable R2
    rw [ex] at rx
    refine ⟨_, xs, v, u, rfl, rfl, rx, al, fun e0 => ?_, fun y ys e0 w rw' => ?_⟩
    · subst e0
      exact k d M2 u H2 q3 R2 (f1.trans f2) r2
    · subst e0
      exact k _ M2 w H2 q3 R2 (f1.trans f2) rw'⟩⟩
@[simp] theorem e_maxD {te td : TE3} {σ : Sl} {M : Mem} {Q : PV → Mem → Prop} : tMaxD3 te td σ M Q = te σ M fun x M1 => td σ M1 fun d M2 => lstW (look M2 x) fun xs => alikeP xs ∧ match xs with
  | [] => Q d M2
  | y :: ys => Q (maxP y ys) M2 := rfl
end
end T3

namespace T3
open PySem PySem.Spec PyProof.Rows L2

/-! ## a dict of one's own, walked by items() while it stands -/
section
variable {K : PySem.W.Frag} {H : Hp} {D : Addr → Prop} {d : Addr} {od : Obj} {kvs : List (Key × V)}
mutual
theorem Rep.thaw (e : H d = some (.frz od (.dK kvs))) : ∀ (x : PV) {v : V}, Rep K H D x v → Rep K (upd H d (.dK kvs)) (fun b => D b ∨ b = d) x v
  | .non, _, h => h
  | .bl _, _, h => h
  | .int _, _, h => h
  | .str _, _, h => h
  | .tup xs, _, h => by
    unfold Rep at h ⊢
    obtain ⟨a, vs, e1, t, z, r⟩ := h
    refine ⟨a, vs, e1, ?_, z, Reps.thaw e xs r⟩
    rcases t with t | t
    · exact .inl (by rw [upd_ne fun z => by rw [z, e] at t; cases t]; exact t)
    · exact .inr t
  | .lst xs, _, h => by
    unfold Rep at h ⊢
    obtain ⟨a, vs, e1, t, z, r⟩ := h
    refine ⟨a, vs, e1, ?_, z, Reps.thaw e xs r⟩
    rcases t with ⟨n, t⟩ | t
    · have ne : a ≠ d := fun z => by
        rcases t with t | ⟨o, t⟩
        · rw [z, e] at t; cases t
        · rw [z, e] at t; cases t
      refine .inl ⟨fun z => z.elim n ne, ?_⟩
      rcases t with t | ⟨o, t⟩
      · exact .inl (by rw [upd_ne ne]; exact t)
      · exact .inr ⟨o, by rw [upd_ne ne]; exact t⟩
    · exact .inr t
  | .dic ks xs, _, h => by
    unfold Rep at h ⊢
    obtain ⟨a, vs, e1, n, t, l, z, r⟩ := h
    have ne : a ≠ d := fun z => by rw [z, e] at t; cases t
    exact ⟨a, vs, e1, fun z => z.elim n ne, by rw [upd_ne ne]; exact t, l, z, Reps.thaw e xs r⟩
  | .ins C fs xs, _, h => by
    unfold Rep at h ⊢
    obtain ⟨a, dx, vs, e1, n, t, l, r⟩ := h
    have ne : a ≠ d := fun z => by rw [z, e] at t; cases t
    exact ⟨a, dx, vs, e1, fun z => z.elim n ne, by rw [upd_ne ne]; exact t, l, Reps.thaw e xs r⟩
  | .raw _, _, h => h
theorem Reps.thaw (e : H d = some (.frz od (.dK kvs))) : ∀ (xs : List PV) {vs : List V}, Reps K H D xs vs → Reps K (upd H d (.dK kvs)) (fun b => D b ∨ b = d) xs vs
  | [], _, h => h
  | x :: xs, _, h => by
    unfold Reps at h ⊢
    obtain ⟨v, r, e1, h1, h2⟩ := h
    exact ⟨v, r, e1, Rep.thaw e x h1, Reps.thaw e xs h2⟩
end
theorem RepM.thaw (e : H d = some (.frz od (.dK kvs))) {a : Addr} {mo : MO} (h : RepM K H D a mo) : RepM K (upd H d (.dK kvs)) (fun b => D b ∨ b = d) a mo ∧ a ≠ d := by
  cases mo with
  | lst xs =>
    obtain ⟨vs, q, z, r⟩ := h
    have ne : a ≠ d := fun z => by rw [z, e] at q; cases q
    exact ⟨⟨vs, by rw [upd_ne ne]; exact q, z, Reps.thaw e _ r⟩, ne⟩
  | ins C fs =>
    obtain ⟨dx, vs, q, z, r⟩ := h
    have ne : a ≠ d := fun z => by rw [z, e] at q; cases q
    exact ⟨⟨dx, vs, by rw [upd_ne ne]; exact q, z, Reps.thaw e _ r⟩, ne⟩
theorem RepO.thaw (e : H d = some (.frz od (.dK kvs))) {a : Addr} {x : PV} (h : RepO K H D x a) : RepO K (upd H d (.dK kvs)) (fun b => D b ∨ b = d) x a ∧ a ≠ d := by
  cases x with
  | lst xs =>
    obtain ⟨vs, q, z, r⟩ := h
    have ne : a ≠ d := fun z => by rw [z, e] at q; cases q
    exact ⟨⟨vs, by rw [upd_ne ne]; exact q, z, Reps.thaw e _ r⟩, ne⟩
  | dic ks xs =>
    obtain ⟨vs, q, l, z, r⟩ := h
    have ne : a ≠ d := fun z => by rw [z, e] at q; cases q
    exact ⟨⟨vs, by rw [upd_ne ne]; exact q, l, z, Reps.thaw e _ r⟩, ne⟩
  | _ => exact h.elim
end
section
variable {K : PySem.W.Frag} {B : Base} {σ : Sl} {M M' : Mem} {τ : L2.St} {H H' : Hp} {oa : Nat → Addr} {j : Nat} {x : PV} {od : Obj} {kvs : List (Key × V)} {p : Addr} {z : PV}
theorem set_un {s : Slot} {i : Nat} (e : (σ.set j Slot.un)[i]? = some s) (h : s ≠ .un) : i ≠ j ∧ σ[i]? = some s := by
  by_cases c : j = i
  · subst c
    by_cases l : j < σ.length
    · rw [List.getElem?_set_self l] at e
      cases e; exact absurd rfl h
    · rw [List.getElem?_eq_none (by simp; omega)] at e; cases e
  · rw [List.getElem?_set_ne c] at e; exact ⟨fun z => c z.symm, e⟩
theorem Dm.own_set {DE : Addr → Prop} (e : σ[j]? = some (Slot.own x)) : Dm DE σ M oa = fun b => Dm DE (σ.set j .un) M oa b ∨ b = oa j := by
  funext b
  apply propext
  constructor
  · rintro (d | d | ⟨i, y, q, d⟩)
    · exact .inl (.inl d)
    · exact .inl (.inr (.inl d))
    · by_cases c : i = j
      · subst c; exact .inr d.symm
      · exact .inl (.inr (.inr ⟨i, y, by rw [List.getElem?_set_ne (fun z => c z.symm)]; exact q, d⟩))
  · rintro ((d | d | ⟨i, y, q, d⟩) | d)
    · exact .inl d
    · exact .inr (.inl d)
    · exact .inr (.inr ⟨i, y, (set_un q (fun z => by cases z)).2, d⟩)
    · exact .inr (.inr ⟨j, x, e, d.symm⟩)
theorem R3.lockOwn (R : R3 K B σ M τ H oa) (e : σ[j]? = some (Slot.own x)) (hd : H (oa j) = some (.dK kvs)) : R3 K B (σ.set j .un) M τ (upd H (oa j) (.frz od (.dK kvs))) oa ∧ Fr3 H (upd H (oa j) (.frz od (.dK kvs))) (.all (Dm B.DE σ M oa)) (.all (Dm B.DE (σ.set j .un) M oa)) := by
  have le : ∀ b, Dm B.DE (σ.set j .un) M oa b → Dm B.DE σ M oa b := fun b d => by rw [Dm.own_set e]; exact .inl d
  have Dj : Dm B.DE σ M oa (oa j) := .inr (.inr ⟨j, x, e, rfl⟩)
  have lv : ∀ b, Th H b → Th (upd H (oa j) (.frz od (.dK kvs))) b := fun b ⟨u, q, t⟩ => by
    by_cases hb : b = oa j
    · rw [hb]; exact ⟨_, upd_same, fun _ z => by cases z⟩
    · exact ⟨u, by rw [upd_ne hb]; exact q, t⟩
  have tp : ∀ b xs, H b = some (.tup xs) → upd H (oa j) (.frz od (.dK kvs)) b = some (.tup xs) := fun b xs q => by
    rw [upd_ne fun z => by rw [z, hd] at q; cases q]; exact q
  have f : Fr3 H (upd H (oa j) (.frz od (.dK kvs))) (.all (Dm B.DE σ M oa)) (.all (Dm B.DE (σ.set j .un) M oa)) :=
    ⟨fun b o q n _ => by rw [upd_ne fun z => n (by rw [z]; exact Dj)]; exact q, lv, tp, fun b d => .inl (le b d), fun b d => .inl (le b d)⟩
  have hE : ¬ Th B.HE (oa j) := (R.mem.new _ Dj).resolve_left (R.nm j x e).2
  refine ⟨⟨⟨fun a mo q => ?_, fun b d => ?_, fun b o q n t => ?_, fun b n => lv b (R.mem.live b n), fun b xs q => tp b xs (R.mem.tups b xs q), fun b d => R.mem.new b (le b d), R.mem.newM, fun b d => lv b (R.mem.dom b (le b d)), fun q hq => ?_⟩, by simpa using R.len, fun i y q => ?_, fun i y q => ?_, fun i i' y y' q q' => R.inj i i' y y' (set_un q (fun z => by cases z)).2 (set_un q' (fun z => by cases z)).2, fun i y q => R.nm i y (set_un q (fun z => by cases z)).2⟩, f⟩
  · exact (R.mem.mem a mo q).fr f (by rw [upd_ne fun z => by rw [z, (R.nm j x e).1] at q; cases q])
  · rcases d with d | d
    · exact .inl d
    · exact .inr (.inl d)
  · have w := R.mem.keep b o q n t
    rw [upd_ne fun z => hE (by
      rw [z, hd] at w; cases w
      exact ⟨_, by rw [← z]; exact q, fun _ z => by cases z⟩)]
    exact w
  · obtain ⟨ps, h1, h2, h3⟩ := R.mem.tabs q hq
    refine ⟨ps, by rw [upd_ne fun z => by rw [z, hd] at h1; cases h1]; exact h1, h2, fun pos cv hc => ?_⟩
    obtain ⟨c, e1, e2⟩ := h3 pos cv hc
    exact ⟨c, e1, by rw [upd_ne fun z => by rw [z, hd] at e2; unfold LamX.CodeO at e2; cases e2]; exact e2⟩
  · obtain ⟨v, w, r⟩ := R.slot i y (set_un q (fun z => by cases z)).2
    exact ⟨v, w, r.fr f⟩
  · obtain ⟨n, q⟩ := set_un q (fun z => by cases z)
    obtain ⟨w, r⟩ := R.own i y q
    exact ⟨w, r.fr f (by rw [upd_ne fun z => n (R.inj i j y x q e z)])⟩
theorem R3.thawOwn {ks : List Int} {ns : List Int} (R : R3 K B σ M τ H oa) (e : σ[j]? = some (Slot.own (.dic ks (ns.map .int)))) (ek : kvs = (ks.map Sum.inl).zip (ns.map V.int)) (el : ns.length = ks.length) (ez : ns.length ≤ sizeLine)
    (F : Fresh K B (σ.set j .un) M' τ H' oa z p) (hd : H' (oa j) = some (.frz od (.dK kvs))) (nM : M' (oa j) = none) : Fresh K B σ M' τ (upd H' (oa j) (.dK kvs)) oa z p := by
  have Dj : Dm B.DE σ M oa (oa j) := .inr (.inr ⟨j, _, e, rfl⟩)
  have hE : ¬ Th B.HE (oa j) := (R.mem.new _ Dj).resolve_left (R.nm j _ e).2
  have S := F.st
  obtain ⟨rp, np⟩ := F.rep.thaw hd
  have eD : (fun b => Dm (B.plus p).DE (σ.set j .un) M' oa b ∨ b = oa j) = Dm (B.plus p).DE σ M' oa := (Dm.own_set e).symm
  rw [eD] at rp
  have lv : ∀ b, Th H' b → Th (upd H' (oa j) (.dK kvs)) b := fun b ⟨u, q, t⟩ => by
    by_cases hb : b = oa j
    · rw [hb]; exact ⟨_, upd_same, fun _ z => by cases z⟩
    · exact ⟨u, by rw [upd_ne hb]; exact q, t⟩
  refine ⟨⟨⟨fun a mo q => ?_, fun b d => ?_, fun b o q n t => ?_, fun b n => lv b (S.mem.live b n), fun b xs q => ?_, fun b d => ?_, S.mem.newM, fun b d => ?_, fun q hq => ?_⟩, R.len, fun i y q => ?_, fun i y q => ?_, R.inj, fun i y q => ?_⟩, rp, F.hE, fun d => ?_⟩
  · have := ((S.mem.mem a mo q).thaw hd).1
    rw [eD] at this; exact this
  · rcases d with d | d
    · exact .inl d
    · exact .inr (.inl d)
  · have w := S.mem.keep b o q n t
    rw [upd_ne fun z => hE (by
      rw [z, hd] at w; cases w
      exact ⟨_, by rw [← z]; exact q, fun _ z => by cases z⟩)]
    exact w
  · have w := S.mem.tups b xs q
    rw [upd_ne fun z => by rw [z, hd] at w; cases w]; exact w
  · rw [← eD] at d
    rcases d with d | d
    · exact S.mem.new b d
    · exact .inr (by rw [d]; exact hE)
  · rw [← eD] at d
    rcases d with d | d
    · exact lv b (S.mem.dom b d)
    · rw [d]; exact ⟨_, upd_same, fun _ z => by cases z⟩
  · obtain ⟨ps, h1, h2, h3⟩ := S.mem.tabs q hq
    refine ⟨ps, by rw [upd_ne fun z => by rw [z, hd] at h1; cases h1]; exact h1, h2, fun pos cv hc => ?_⟩
    obtain ⟨c, e1, e2⟩ := h3 pos cv hc
    exact ⟨c, e1, by rw [upd_ne fun z => by rw [z, hd] at e2; unfold LamX.CodeO at e2; cases e2]; exact e2⟩
  · have ij : i ≠ j := fun z => by rw [z, e] at q; cases q
    obtain ⟨v, w, r⟩ := S.slot i y (by rw [List.getElem?_set_ne (fun z => ij z.symm)]; exact q)
    have := Rep.thaw hd y r
    rw [eD] at this
    exact ⟨v, w, this⟩
  · by_cases ij : i = j
    · subst ij
      rw [e] at q; cases q
      refine ⟨(R.own i _ e).1, ns.map V.int, ?_, by simpa using el, by simpa using ez, ints_reps ns⟩
      rw [upd_same, ek]
    · obtain ⟨w, r⟩ := S.own i y (by rw [List.getElem?_set_ne (fun z => ij z.symm)]; exact q)
      have := (r.thaw hd).1
      rw [eD] at this
      exact ⟨w, this⟩
  · by_cases ij : i = j
    · subst ij
      refine ⟨nM, ?_⟩
      rintro (d | d)
      · exact (R.nm i _ e).2 d
      · exact np d.symm
    · exact S.nm i y (by rw [List.getElem?_set_ne (fun z => ij z.symm)]; exact q)
  · rw [Dm.own_set e] at d
    rcases d with d | d
    · exact F.nd d
    · exact np d
end
def pairsP (ks ns : List Int) : List PV := List.zipWith (fun k n => .tup [.int k, .int n]) ks ns
section
variable {K : PySem.W.Frag} {B : Base} {σ : Sl} {M : Mem} {τ : L2.St} {H : Hp} {oa : Nat → Addr} {d : Addr} {od : Obj} {kvs : List (Key × V)} {ks ns : List Int}
theorem it_items (R : R3 K B σ M τ H oa) (hd : H d = some (.frz od (.dK kvs))) (nd : ¬ B.DE d) (ek : kvs = (ks.map Sum.inl).zip (ns.map V.int)) (el : ns.length = ks.length) : ItOkB K (Iti d od kvs) (pairsP ks ns) σ oa H (Dm B.DE σ M oa) := fun H' D' i f dm _ => by
  have hn : ¬ Dm B.DE σ M oa d := by
    rintro (z | ⟨mo, z⟩ | ⟨j, x, q, z⟩)
    · exact nd z
    · have r := R.mem.mem d mo z
      cases mo with
      | lst xs => obtain ⟨vs, q, _⟩ := r; rw [hd] at q; cases q
      | ins C fs => obtain ⟨dx, vs, q, _⟩ := r; rw [hd] at q; cases q
    · obtain ⟨_, r⟩ := R.own j x q
      rw [z] at r
      cases x with
      | lst xs => obtain ⟨vs, q, _⟩ := r; rw [hd] at q; cases q
      | dic ks xs => obtain ⟨vs, q, _⟩ := r; rw [hd] at q; cases q
      | _ => exact r.elim
  have hd' : H' d = some (.frz od (.dK kvs)) := f.keep d _ hd hn (fun _ z => by cases z)
  have lk : kvs.length = ks.length := by rw [ek]; simp [el]
  have lp : (pairsP ks ns).length = ks.length := by simp [pairsP, el]
  refine ⟨fun hi => ⟨⟨hd', by omega⟩, fun x H2 ⟨T, k, v, e1, e2, e3, e4⟩ => ?_⟩, fun hi => ⟨hd', by omega⟩⟩
  subst e2; subst e4
  have hi' : i < ks.length := by omega
  have sm : Same H' (upd H' T (.tup [kV k, v])) := fun b o eb => by rw [upd_ne (ne_of_none eb e3)]; exact eb
  have ek1 : k = .inl ks[i] ∧ v = .int (ns[i]'(by omega)) := by
    rw [ek] at e1
    simp [List.getElem?_zip_eq_some, hi', el] at e1
    obtain ⟨a, b⟩ := e1
    exact ⟨a.symm, b.symm⟩
  obtain ⟨rfl, rfl⟩ := ek1
  refine ⟨sm, .tup [.int ks[i], .int (ns[i]'(by omega))], ?_, ?_⟩
  · unfold pairsP
    simp [hi', el]
  · unfold Rep
    exact ⟨T, _, rfl, .of upd_same, by show 2 ≤ sizeLine; decide, Reps.cons Rep.int (Reps.cons Rep.int Reps.nil)⟩
end
/-- y = [.. for a, b in d.items() if ..], d a dict of one's own, its values numbers -/
def tSetI3 (i j : Nat) (g : TG3) (tt : TT3) (te : TE3) (vs : List Nat) : TS3 := fun D σ M => noOwn σ vs ∧ ∃ ks ns : List _, σ[j]? = some (Slot.own (.dic ks (ns.map .int))) ∧ compW g tt te vs (σ.set j .un) (fun z M' => D.nx (σ.set i (.val z)) M') (pairsP ks ns) [] M
section
variable {X : Cx} {P : BP} {elt : Expr} {g : TG3} {ws : List Nat} {tt : TT3} {te : TE3} {scope : Scope} {own : List (Str × Nat)} {ifs elts : List Expr} {pos tpos pf apos cpos : Pos} {kk : Nat}
theorem ps3_setLcI (i j : Nat) {y fn : Str} {py spos : Pos} (hc : X.calm = true) (hN : X.N.Nodup) (hsw : swapsWith (.ListComp elt [⟨.Tuple elts kk tpos, .Call (.Attribute (.Name fn pf) "items" apos) [] [] cpos, ifs, 0⟩] scope pos) (some (.Name y py)) spos.line X.env = pure true) (ok : BlkOk X.N X.env.scope scope own) (hw : ∀ i ∈ ws, i ∈ own.map (·.2))
    (hg : ∀ (s : Shared) (H : Hp) (C : Addr) (cl : List (Str × Addr)) (fp : List Addr), PG3 (X.blk s H scope (compEnvC scope cl C X.env) fp) PAll (.Tuple elts kk tpos) g ws)
    (ht : ∀ (s : Shared) (H : Hp) (C : Addr) (cl : List (Str × Addr)) (fp : List Addr), PTs3 (X.blk s H scope (compEnvC scope cl C X.env) fp) PAll ifs tt)
    (he : ∀ (s : Shared) (H : Hp) (C : Addr) (cl : List (Str × Addr)) (fp : List Addr), PE3 (X.blk s H scope (compEnvC scope cl C X.env) fp) PAll elt te)
    (hy : X.N[i]? = some y := by rfl) (hyl : X.env.scope.names.lookup y = some .local := by rfl) (hs : ∀ x, foldedSetIterable (.Call (.Attribute (.Name fn pf) "items" apos) [] [] cpos) X.env x = pure x := by intro _; rfl)
    (hj : X.N[j]? = some fn := by rfl) (hv : Vis X.env.scope fn := by first | exact Or.inl rfl | exact Or.inr (Or.inl rfl) | exact Or.inr (Or.inr rfl)) (hdb : (fn == ("__debug__" : Str)) = false := by decide) (hcd : (fn == ("__classdict__" : Str)) = false := by decide)
    (hbase : attributeBase (.Name fn pf) "items" X.env (eval (.Name fn pf) X.env) = eval (.Name fn pf) X.env := by rfl) (hline : (apos.endLine == cpos.line) = true := by rfl) :
    PS3 X P (.Assign [.Name y py] (.ListComp elt [⟨.Tuple elts kk tpos, .Call (.Attribute (.Name fn pf) "items" apos) [] [] cpos, ifs, 0⟩] scope pos) spos) (tSetI3 i j g tt te (own.map (·.2))) := fun B hB =>
  by
    have L := ps_lock (ps_setLc (g := fun v τ H Q => ∃ B, liftG X.K B g ws v τ H Q) (tt := fun τ H Q => ∃ B, liftT X.K B tt τ H Q) (te := fun τ H Q => ∃ B, liftE X.K B te τ H Q) hc hN hy hyl hsw (pi_items (elts := elts) (kk := kk) (tpos := tpos) (pe_var hj hv hdb hcd) hbase hline) ok (fun s H C cl fp => (hg s H C cl fp).ex) (fun s H C cl fp => (ht s H C cl fp).ex) (fun s H C cl fp => (he s H C cl fp).ex) hs)
    refine PS.imp L fun D τ H ⟨σ, M, oa, E, R, ⟨no, ks, ns, ej, w⟩, k⟩ => ?_
    obtain ⟨q, r⟩ := R.own j _ ej
    obtain ⟨vs', hd, l1, l2, rr⟩ := r
    have ev := reps_ints rr
    subst ev
    have el : ns.length = ks.length := by simpa using l1
    have ez : ns.length ≤ sizeLine := by simpa using l2
    have Dj : Dm B.DE σ M oa (oa j) := .inr (.inr ⟨j, _, ej, rfl⟩)
    refine ⟨oa j, _, hd, trivial, fun od => ?_⟩
    obtain ⟨R1, f1⟩ := R.lockOwn (od := od) ej hd
    have no' : noOwn (σ.set j .un) (own.map (·.2)) := fun i hi => by
      have := no i hi
      by_cases c : j = i
      · subst c
        by_cases l : j < σ.length
        · rw [List.getElem?_set_self l]; trivial
        · rw [List.getElem?_eq_none (by simp; omega)]; trivial
      · rw [List.getElem?_set_ne c]; exact this
    have h2 := comp_lift (K := X.K) (B := B) (τ := τ) (H := upd H (oa j) (.frz od (.dK ((ks.map Sum.inl).zip (ns.map V.int))))) (wi := fun σ M Q => Q (pairsP ks ns) M) (g := g) (tt := tt) (te := te) (Q := fun v H' => H' (oa j) = some (.frz od (.dK ((ks.map Sum.inl).zip (ns.map V.int)))) ∧ D.nx (τ.set i (some v)) (upd H' (oa j) (.dK ((ks.map Sum.inl).zip (ns.map V.int))))) hw ⟨σ.set j .un, M, oa, _, R1, ⟨no', w⟩, fun z M' p H' q2 F f => by
      have hd' := f.keep _ _ upd_same (fun ⟨mo, z⟩ => by rw [(R.nm j _ ej).1] at z; cases z) (fun _ z => by cases z)
      have nM : M' (oa j) = none := by
        cases em : M' (oa j) with
        | none => rfl
        | some mo =>
          rcases f.newM _ ⟨mo, em⟩ with ⟨mo', z⟩ | z
          · rw [(R.nm j _ ej).1] at z; cases z
          · exact absurd ⟨_, upd_same, fun _ z => by cases z⟩ z
      have F2 := R.thawOwn ej rfl el ez F hd' nM
      obtain ⟨R2, r2⟩ := F2.frozen
      have gg := f1.trans f.all
      have fin : Fr3 H (upd H' (oa j) (.dK ((ks.map Sum.inl).zip (ns.map V.int)))) (.all (Dm B.DE σ M oa)) (.all (Dm B.DE σ M' oa)) := by
        have lv : ∀ b, Th H b → Th (upd H' (oa j) (.dK ((ks.map Sum.inl).zip (ns.map V.int)))) b := fun b t => by
          obtain ⟨u, q, t⟩ := gg.live b t
          by_cases hb : b = oa j
          · rw [hb]; exact ⟨_, upd_same, fun _ z => by cases z⟩
          · exact ⟨u, by rw [upd_ne hb]; exact q, t⟩
        have nw : ∀ b, Dm B.DE σ M' oa b → Dm B.DE σ M oa b ∨ ¬ Th H b := fun b d => by
          rw [Dm.own_set ej] at d
          rcases d with d | d
          · exact gg.new b (Dm.plus.mpr (.inl d))
          · exact .inl (by rw [d]; exact Dj)
        exact ⟨fun b o q n t => by rw [upd_ne fun z => n (by rw [z]; exact Dj)]; exact gg.keep b o q n t, lv, fun b xs q => by rw [upd_ne fun z => by rw [z, hd] at q; cases q]; exact gg.tups b xs q, nw, nw⟩
      exact ⟨hd', k.nx _ _ _ _ _ q2 (R2.put r2).1 (fin.trans (R2.put r2).2.all)⟩⟩
    obtain ⟨σ2, M2, oa2, Q3, R2, w2, k2⟩ := h2
    exact ⟨_, q, oa j, od, _, rfl, upd_same, k2 _ M2 _ _ w2 R2 (Fr3.refl _ _) (by unfold pairsP; simp [el]; omega) (it_items R2 upd_same (R.nm j _ ej).2 rfl el)⟩
end
end T3

namespace T3
open PySem PySem.Spec PyProof.Rows L2

/-! ## list.remove of a number -/
def wRem : W1 := fun xs ps k => match ps with
  | [.int p] => optW (intsOf xs) fun ns => p ∈ ns ∧ k ((ns.erase p).map .int)
  | _ => False
theorem erase_at {p : Int} : ∀ {ns : List Int}, p ∈ ns → ∃ j, ns[j]? = some p ∧ (∀ m : Nat, m < j → ns[m]? ≠ some p) ∧ ns.erase p = ns.eraseIdx j
  | n :: ns, h => by
    by_cases c : n = p
    · subst c
      exact ⟨0, by simp, fun m hm => by omega, by simp⟩
    · obtain ⟨j, h1, h2, h3⟩ := erase_at ((List.mem_cons.mp h).resolve_left fun z => c z.symm)
      refine ⟨j + 1, by simpa using h1, fun m hm => ?_, ?_⟩
      · cases m with
        | zero => simpa using c
        | succ m => simpa using h2 m (by omega)
      · rw [List.erase_cons_tail (by simpa using c), h3]; rfl
section
variable {X : Cx}
theorem mt3_remove : MtR X "list.remove" (lM X.K wRem) := MtR.imp (r := rRemI) mt_remove fun x vs H Q ⟨D, l, xs, us, ps, Q3, ex, hl, z, r, rp, w, k⟩ => by
  unfold wRem at w
  split at w
  · rename_i p
    obtain ⟨v, rfl, rv⟩ := reps1 rp
    have ev : v = .int p := rv
    subst ev
    obtain ⟨ns, en, hp, w⟩ := optW_of w
    have ex2 := intsOf_eq en
    subst ex2
    have eu := reps_ints r
    subst eu
    obtain ⟨j, h1, h2, h3⟩ := erase_at hp
    refine ⟨l, ns, p, j, ex, rfl, hl, h1, h2, ?_⟩
    rw [← h3]
    rw [intsOf_map] at w
    refine k _ _ w.2 (ints_reps _) ?_
    have := List.length_erase_le (a := p) (l := ns)
    simp at z ⊢
    omega
  · exact w.elim
end
@[simp] theorem e_wRem {xs : List PV} {p : Int} {k : List PV → Prop} : wRem xs [.int p] k = optW (intsOf xs) fun ns => p ∈ ns ∧ k ((ns.erase p).map .int) := rfl
@[simp] theorem e_setI {i j : Nat} {g : TG3} {tt : TT3} {te : TE3} {vs : List Nat} {D : D3} {σ : Sl} {M : Mem} : tSetI3 i j g tt te vs D σ M = (noOwn σ vs ∧ ∃ ks ns : List _, σ[j]? = some (Slot.own (.dic ks (ns.map .int))) ∧ compW g tt te vs (σ.set j .un) (fun z M' => D.nx (σ.set i (.val z)) M') (pairsP ks ns) [] M) := rfl
end T3

namespace T3
open PySem PySem.Spec PyProof.Rows L2

/-! ## {name: constant} -/
def tDOneC3 (i : Nat) (c : PV) : TE3 := fun σ M Q => slotW σ i fun y => intW y fun n => Q (.dic [n] [c]) M
section
variable {X : Cx} {P : BP} {e o : Expr} {te to : TE3} {pos p apos cpos : Pos} {x : Str}
theorem po3_doneC (i : Nat) {c : PV} {vc : V} (hc : PE X e (fun _ H Q => Q vc H)) (rc : ∀ (K : PySem.W.Frag) (H : Hp) (D : Addr → Prop), Rep K H D c vc) (hN : X.N[i]? = some x := by rfl) (hv : Vis X.env.scope x := by first | exact Or.inl rfl | exact Or.inr (Or.inl rfl) | exact Or.inr (Or.inr rfl)) (hd : (x == ("__debug__" : Str)) = false := by decide)
    (hcd : (x == ("__classdict__" : Str)) = false := by decide) : PO3 X P (.Dict [some (.Name x p)] [e] pos) (tDOneC3 i c) := fun B hB =>
  PE.imp (pe_disp (pps_cons (pe_var hN hv hd hcd) hc pps_nil) rfl rfl (by simp) (by simp)) fun τ H Q ⟨σ, M, oa, Q3, R, w, k⟩ a ha => by
    unfold tDOneC3 slotW at w
    split at w
    · rename_i y ey
      obtain ⟨n, rfl, w⟩ := intW_of w
      obtain ⟨v, q, r⟩ := R.slot i _ ey
      have ev : v = .int n := r
      subst ev
      refine ⟨_, q, upd_same, [(.inl n, vc)], rfl, by simp, ?_⟩
      have eu : upd (upd H a (.dK [])) a (.dK (mergeK [] [(Sum.inl n, vc)])) = upd H a (.dK [(Sum.inl n, vc)]) := by
        funext b
        by_cases hb : b = a
        · subst hb; rw [upd_same, upd_same]; rfl
        · rw [upd_ne hb, upd_ne hb, upd_ne hb]
      rw [eu]
      obtain ⟨R', f⟩ := R.alloc ha (.dK [(Sum.inl n, vc)]) (fun _ z => by cases z)
      exact k (.dic [n] [c]) M a _ w ⟨R', ⟨[vc], upd_same, rfl, by show 1 ≤ sizeLine; decide, Reps.cons (rc _ _ _) Reps.nil⟩, R.none_E ha, R.none_D ha⟩ f
    · exact w.elim
/-- o.extend(e), e a fresh list, o a list of the memory -/
def tExtM3 (to te : TE3) : TS3 := fun D σ M => to σ M fun r M0 => memLst r M0 fun _ _ => te σ M0 fun v M1 => memLst r M1 fun a xs => lstW v fun ys => szW (xs ++ ys) ∧ D.nx σ (M1.put a (.lst (xs ++ ys)))
theorem ps3_extM (ho : PE3 X P o to) (ha : PO3 X P e te)
    (hbase : attributeBase o "extend" X.env (eval o X.env) = eval o X.env := by rfl)
    (hfew : ((backTo cpos (starEach [e] X.env)).all (fun x => !x.1) && (backToKw cpos (keywordEach [] X.env)).all (fun x => x.1.isSome)
      && decide ([e].length + ([] : List Keyword).length + (if ([] : List Keyword).isEmpty then 0 else 1) < 30)) = true := by rfl)
    (hline : (apos.endLine == cpos.line) = true := by rfl) (hs : starEach [e] X.env = (false, eval e X.env) :: starEach [] X.env := by rfl) (hplain : (backTo cpos (starEach [] X.env)).any (·.1) = false := by rfl)
    (hsw : swapsWith (.Call (.Attribute o "extend" apos) [e] [] cpos) none pos.line X.env = pure false := by rfl) :
    PS3 X P (.Expr (.Call (.Attribute o "extend" apos) [e] [] cpos) pos) (tExtM3 to te) := fun B hB =>
  PS.imp (ps_expr (pe_bm (r := rExtend) PySem.F.plainAttrs_list PySem.F.slot_list_extend PySem.F.type_list_extend mt_extend (ho B hB) (pa_cons (ha B hB) pa_nil hs) hbase hfew hline hs hplain) hsw) fun D τ H ⟨σ, M, oa, E, R, q, k⟩ => ⟨σ, M, oa, _, R, q, fun r M0 v H0 q0 R0 f0 r0 => by
    obtain ⟨a, xs, e1, e2, q0⟩ := memLst_of q0
    subst e1
    have ev : v = .ref a := r0
    subst ev
    obtain ⟨us, h1, z1, _⟩ := R0.mem.mem a _ e2
    refine ⟨.inl ⟨rfl, us, .of h1⟩, σ, M0, oa, _, R0, q0, fun w M1 b H1 q1 F f1 => ?_⟩
    obtain ⟨a', xs, e3, e4, q1⟩ := memLst_of q1
    cases e3
    obtain ⟨ys, rfl, sz, q2⟩ := lstW_of q1
    obtain ⟨zs, g1, g2, g3⟩ := F.rep
    obtain ⟨us, h1, z1, r2⟩ := F.st.mem.mem a _ e4
    obtain ⟨R1, rf⟩ := F.frozen
    have mn := F.st.minus F.hE
    have r2' := r2.fr mn.2
    have g3' := g3.fr mn.2
    have hz : us.length + zs.length ≤ sizeLine := szW_app sz r2.len g3.len
    refine ⟨a, b, us, zs, rfl, rfl, h1, g1, hz, ?_⟩
    obtain ⟨R2, f2⟩ := R1.setMem e4 (r2'.app g3') (by rw [List.length_append]; exact hz)
    exact k.nx _ _ _ _ _ q2 R2 ((f0.all.trans f1.all).trans (mn.2.all.trans f2.all))⟩
end
section
variable {σ : Sl} {M : Mem} {D : D3} {Q : PV → Mem → Prop} {i : Nat} {c : PV} {to te : TE3}
@[simp] theorem e_doneC : tDOneC3 i c σ M Q = slotW σ i fun y => intW y fun n => Q (.dic [n] [c]) M := rfl
@[simp] theorem e_extM : tExtM3 to te D σ M = to σ M fun r M0 => memLst r M0 fun _ _ => te σ M0 fun v M1 => memLst r M1 fun a xs => lstW v fun ys => szW (xs ++ ys) ∧ D.nx σ (M1.put a (.lst (xs ++ ys))) := rfl
end
end T3

namespace T3
open PySem PySem.Spec PyProof.Rows L2

/-! ## range(i, j, -1) -/
def intsDown (lo : Int) (n : Nat) : List PV := (List.range n).map fun (i : Nat) => PV.int (lo - (i : Int))
theorem intsDown_len {lo : Int} {n : Nat} : (intsDown lo n).length = n := by simp [intsDown]
theorem intsDown_get {lo : Int} {n i : Nat} (h : i < n) : (intsDown lo n)[i]? = some (.int (lo - i)) := by simp [intsDown, h]
theorem it_down {K : PySem.W.Frag} {lo : Int} {n : Nat} {H0 : Hp} {D0 : Addr → Prop} : ItOk K (Itc lo (-1) n) (intsDown lo n) H0 D0 := fun H D i f d => by
  rw [intsDown_len]
  refine ⟨fun hi => ⟨hi, fun x H' ⟨e1, e2⟩ => ?_⟩, fun hi => Nat.le_of_eq hi⟩
  subst e1; subst e2
  refine ⟨fun _ _ z => z, _, intsDown_get hi, ?_⟩
  have e : lo + (i : Nat) * (-1 : Int) = lo - (i : Int) := by omega
  rw [e]
  exact Rep.int
def iRangeD (ta : TA3) : TI3 := fun σ M Q => ta σ M fun xs M1 => match xs with
  | [x, y, z] => intW x fun i => intW y fun j => z = .int (-1) ∧ (smW i ∧ smW j ∧ i - j ≤ 16777216) ∧ Q (intsDown i (i - j).toNat) M1
  | _ => False
section
variable {X : Cx} {P : BP} {tg a b c : Expr} {ta : TA3} {p pos : Pos}
theorem pi3_rangeD (hm : X.mg "range" = none) (ha : PA3 X P [a, b, c] ta) (hg : Gl X "range" := by rfl) (hs : starEach [a, b, c] X.env = (false, eval a X.env) :: starEach [b, c] X.env := by rfl) (hpl : (backTo pos (starEach [b, c] X.env)).any (·.1) = false := by rfl) :
    PI3 X P tg (.Call (.Name "range" p) [a, b, c] [] pos) (iRangeD ta) := fun B hB =>
  PI.imp (pi_range3 hg hm (ha B hB) hs hpl) fun τ H R ⟨σ, M, oa, Q3, RR, w, k⟩ => ⟨σ, M, oa, _, RR, w, fun xs M1 vs H1 q1 R1 f1 r1 => by
    match xs, q1 with
    | [x, y, z], q1 =>
      obtain ⟨i, ex, q2⟩ := intW_of q1
      obtain ⟨j, ey, ez, ⟨⟨s1, s2⟩, ⟨s3, s4⟩, s5⟩, q⟩ := intW_of q2
      subst ex; subst ey; subst ez
      unfold Reps at r1
      obtain ⟨v1, r, e1, h1, r1⟩ := r1
      obtain ⟨v2, v3, e2, h2, h3⟩ := reps2 r1
      have g1 : v1 = .int i := h1
      have g2 : v2 = .int j := h2
      have g3 : v3 = .int (-1) := h3
      subst g1; subst g2; subst g3; subst e2; subst e1
      exact ⟨i, j, -1, _, rfl, RgC.neg (by omega) (by omega) (by omega) (by omega), k _ M1 _ H1 q R1 f1 (by rw [intsDown_len, sizeLine_eq]; omega) it_down⟩⟩
end
@[simp] theorem e_iRgD {tr : TA3} {σ : Sl} {M : Mem} {QI : List PV → Mem → Prop} : iRangeD tr σ M QI = tr σ M fun xs M1 => match xs with
  | [x, y, z] => intW x fun i => intW y fun j => z = .int (-1) ∧ (smW i ∧ smW j ∧ i - j ≤ 16777216) ∧ QI (intsDown i (i - j).toNat) M1
  | _ => False := rfl
/-! ## a comprehension within one -/
theorem lookup_keys {f : Str → NameKind → NameKind} : ∀ {names : List (Str × NameKind)} {x : Str}, (names.map fun p => (p.1, f p.1 p.2)).lookup x = (names.lookup x).map (f x)
  | [], _ => rfl
  | (n, k) :: r, x => by
    rw [List.map_cons, List.lookup_cons, List.lookup_cons, lookup_keys (names := r) (x := x)]
    by_cases c : x = n
    · subst c; simp
    · have c' : (x == n) = false := by simpa using c
      rw [c']
def rlb (env : Env) (n : Str) (k : NameKind) : NameKind := if (k == NameKind.free && env.scope.kind == .function && env.kindOf n == some .cell) = true then .cell else k
theorem rlb_look {scope : Scope} {cl : List (Str × Addr)} {C : Addr} {env : Env} {x : Str} : (compEnvC scope cl C env).scope.names.lookup x = (scope.names.lookup x).map (rlb env x) := by
  have e : (compEnvC scope cl C env).scope.names = scope.names.map fun p => (p.1, rlb env p.1 p.2) := by
    show (scope.names.map _) = _
    refine List.map_congr_left fun p _ => ?_
    obtain ⟨n, k⟩ := p
    unfold rlb
    dsimp only
    split <;> rfl
  rw [e]
  exact lookup_keys
theorem rlb_good {o : Option NameKind} {env : Env} {x : Str} (h : (match o with | some .cell => true | some .free => true | _ => false) = true) : (match o.map (rlb env x) with | some .cell => true | some .free => true | _ => false) = true := by
  cases o with
  | none => cases h
  | some k =>
    cases k with
    | cell => rfl
    | free =>
      show (match some (rlb env x .free) with | some .cell => true | some .free => true | _ => false) = true
      have e : rlb env x .free = .cell ∨ rlb env x .free = .free := by
        unfold rlb
        split
        · exact .inl rfl
        · exact .inr rfl
      rcases e with e | e <;> rw [e]
    | _ => cases h
theorem blkC_nest {N : List Str} {scope inner : Scope} {cl : List (Str × Addr)} {C : Addr} {env : Env} {own : List (Str × Nat)} (h : blkC N scope inner own = true) : blkC N (compEnvC scope cl C env).scope inner own = true := by
  unfold blkC at h ⊢
  simp only [Bool.and_eq_true] at h ⊢
  refine ⟨h.1, ?_⟩
  have h4 := h.2
  rw [List.all_eq_true] at h4 ⊢
  intro y hy
  have q := h4 y hy
  obtain ⟨n, k⟩ := y
  cases k with
  | free =>
    show (match (compEnvC scope cl C env).scope.names.lookup n with | some .cell => true | some .free => true | _ => false) = true
    rw [rlb_look]
    exact rlb_good q
  | _ => exact q
end T3

/-! list(range(..)) -/
namespace T3
open PySem PySem.Spec PyProof.Rows L2
section
variable {X : Cx} {P : BP} {e : Expr} {pos : Pos}
def tLstRg3 (t : TA3) : TE3 := fun σ M Q => t σ M fun xs M1 => match xs with
  | [.int i, .int j] => (smW i ∧ smW j ∧ j - i ≤ 16777216) ∧ Q (.lst (intsFrom i (j - i).toNat)) M1
  | _ => False
theorem po3_lstRg {t : TA3} {p2 : Pos} (hc : X.calm = true) (hm : X.mg "list" = none) (he : ∀ B, P B → PRg X e (fun τ H Q => liftA X.K B t τ H fun vs H1 => ∃ i j, vs = [.int i, .int j] ∧ Q i j H1)) (hg : Gl X "list" := by rfl)
    (na : starEach [e] X.env = (false, eval e X.env) :: starEach [] X.env := by rfl) : PO3 X P (.Call (.Name "list" p2) [e] [] pos) (tLstRg3 t) := fun B hB =>
  PE.imp (pe_listRg hc hg hm (he B hB) na) fun τ H Q ⟨σ, M, oa, Q3, R, w, k⟩ => ⟨σ, M, oa, _, R, w, fun xs M1 vs H1 q1 R1 f1 r1 => by
    split at q1
    · rename_i i j
      obtain ⟨v, u, rfl, h1, h2⟩ := reps2 r1
      have e1 := rr_int h1.readable
      have e2 := rr_int h2.readable
      subst e1; subst e2
      obtain ⟨⟨s1, s2, s3⟩, q⟩ := q1
      have s1' := s1.1; have s1'' := s1.2; have s2' := s2.1; have s2'' := s2.2
      refine ⟨i, j, rfl, ⟨by omega, by omega, by omega, by omega, by omega⟩, fun p hp => ?_⟩
      have er : rgV i j = ((List.range (j - i).toNat).map fun (n : Nat) => i + (n : Int)).map V.int := by unfold rgV; rw [List.map_map]; rfl
      have rr : Reps X.K H1 (Dm B.DE σ M1 oa) (intsFrom i (j - i).toNat) (rgV i j) := by
        rw [intsFrom_eq, er]
        exact ints_reps _
      obtain ⟨F, f2⟩ := R1.newList hp rr (by rw [rgV_length, sizeLine_eq]; omega)
      exact k _ M1 _ _ q F (f1.trans f2)
    · exact q1.elim⟩
end
end T3

/-! ## dicts whose keys are tuples: how many entries a dict comprehension makes -/
namespace T3
open PySem PySem.Spec PyProof.Rows L2
section
variable {X : Cx}
/-- what is to be shown of a dict comprehension with tuples as keys -/
def dtTurns (J : It) (g : TG) (tt : TT) (tk tv : TE) (vs : List Nat) (σ : L2.St) (N : Addr) (Fin : Hp → Prop) (h0 : Hp) : Prop :=
  ∃ W : Nat → Nat → Hp → Prop, (∃ m, W 0 m (upd h0 N (.dT []))) ∧ ∀ i m G, W i m G → (J.stop i G ∧ Fin G) ∨ (J.go i G ∧ ∃ Up : Hp → Prop, (∀ G', Up G' → ∃ m', m' < m ∧ W (i + 1) m' G') ∧
    ∀ x G', J.yld i G x G' → g x (wipe σ vs) G' fun σ2 G2 => wipe σ2 vs = wipe σ vs ∧ tt σ2 G2 fun b G3 => if b = true then
      tk σ2 G3 fun y G4 => tv σ2 G4 fun z G5 => ∃ kvs ks c, y = .ref c ∧ G5 N = some (.dT kvs) ∧ G5 c = some (.tup (ks.map kV)) ∧ kvs.length < sizeLine ∧ Up (upd G5 N (.dT (putK kvs ks z))) else Up G3)
def tDcT (wi : TI) (g : TG) (tt : TT) (tk tv : TE) (vs : List Nat) : TE := fun σ H Q => wi σ H fun J H1 => ∀ N, H1 N = none → dtTurns J g tt tk tv vs σ N (Q (.ref N)) H1
/-- one entry stored under a tuple -/
theorem storeT {pins : List (Addr × Obj)} {σ : L2.St} {H : Hp} {s : Shared} {E : Value → Shared → Prop} {N c : Addr} {kvs : List (List Key × V)} {ks : List Key} {z : V} {kv vv : Value} {Q : Unit → Shared → Prop}
    (room : X.A.units + 1 < cLine) (I : Inv X pins σ H s) (hN : H N = some (.dT kvs)) (hc : H c = some (.tup (ks.map kV))) (few : kvs.length < sizeLine) (rk : RelV (.ref c) kv) (rz : RelV z vv)
    (q : ∀ s', Inv X pins σ (upd H N (.dT (putK kvs ks z))) s' → Q () s') : wpAny (model X.prog X.w) X.A (dictSet N kv vv) Q E s := by
  have ek : kv = Value.ref c := rk
  subst ek
  obtain ⟨most, other, entries, same, dict⟩ := dt_of I.hok hN
  have many : entries.length ≤ sizeLine := Paired.length same ▸ most
  refine wpAny_dictSet_heap (hsz := many) (show (tupleKind (mixKind X.prog X.w)).room X.A from Nat.lt_of_succ_lt room) (key_of I.hok hc) dict fun heap' dict' but => q _ ?_
  obtain ⟨ob, es, ep, got, exact', data', toL, -, nod⟩ := dict'
  have fits : (putK kvs ks z).length ≤ sizeLine := by
    have := length_putK kvs ks z
    omega
  refine d_write I (by rw [hN]; trivial) but ⟨ob, got⟩ ⟨fits, other, _, ?_, ob, es, ep, got, exact', data', toL, nod⟩
  refine (same.put ks hc rz).keeps fun t ys et => ?_
  have ne : t ≠ N := fun e => by rw [e, hN] at et; cases et
  rw [upd_ne ne]
  exact et
section
variable {pins : List (Addr × Obj)} {σ : L2.St} {H0 : Hp} {s0 : Shared} {N : Addr} {Fin : Hp → Prop} {kx vx tg it : Expr} {fs : List Expr} {scope : Scope} {own : List (Str × Nat)} {pos : Pos} {g : TG} {tt : TT} {tk tv : TE} {fp : List Addr} {tn : Nat → Heap → Prop} {J : It} {a : Addr} {cenv : Env}
abbrev Blk (X : Cx) (s0 : Shared) (H0 : Hp) (scope : Scope) (cenv : Env) (fp : List Addr) : Cx := X.blk s0 H0 scope cenv fp
/-- the turns of the block -/
theorem turnsT {R : Result → Shared → Prop} {m0 : Nat} {W : Nat → Nat → Hp → Prop} {s : Shared} {τ0 : Hp} (room : X.A.units + 1 < cLine) (calm : X.calm = true) (T : Turn X.prog X.w X.K tg J fp a tn)
    (pg : PG (Blk X s0 H0 scope cenv fp) tg g) (pt : PTs (Blk X s0 H0 scope cenv fp) fs tt) (pk : PE (Blk X s0 H0 scope cenv fp) kx tk) (pv : PE (Blk X s0 H0 scope cenv fp) vx tv)
    (I : Inv (Blk X s0 H0 scope cenv fp) [] (wipe σ (own.map (·.2))) τ0 s) (st : tn 0 s.heap) (hn : ∀ b ∈ fp, τ0 b = none) (w0 : W 0 m0 τ0)
    (step : ∀ i m G, W i m G → (J.stop i G ∧ Fin G) ∨ (J.go i G ∧ ∃ Up : Hp → Prop, (∀ G', Up G' → ∃ m', m' < m ∧ W (i + 1) m' G') ∧
      ∀ x G', J.yld i G x G' → g x (wipe σ (own.map (·.2))) G' fun σ2 G2 => wipe σ2 (own.map (·.2)) = wipe σ (own.map (·.2)) ∧ tt σ2 G2 fun b G3 => if b = true then
        tk σ2 G3 fun y G4 => tv σ2 G4 fun z G5 => ∃ kvs ks c, y = .ref c ∧ G5 N = some (.dT kvs) ∧ G5 c = some (.tup (ks.map kV)) ∧ kvs.length < sizeLine ∧ Up (upd G5 N (.dT (putK kvs ks z))) else Up G3))
    (fin : ∀ τ G s', Inv (Blk X s0 H0 scope cenv fp) [] τ G s' → Fin G → R (.ok .next) s') :
    codeAny (model X.prog X.w) X.A (.compLoop (.DictComp kx vx [⟨tg, it, fs, 0⟩] scope pos) 0 (.ref a) (.ref N) cenv) R s := by
  refine compLoop_anyD (fun n s' => ∃ i G, Inv (Blk X s0 H0 scope cenv fp) [] (wipe σ (own.map (·.2))) G s' ∧ tn i s'.heap ∧ (∀ b ∈ fp, G b = none) ∧ W i n G) ?_ m0 ⟨0, τ0, I, st, hn, w0⟩
  rintro n s1 ⟨i, G, I1, st1, n1, w1⟩
  have fpk : ∀ {τ : L2.St} {G : Hp} {s : Shared}, Inv (Blk X s0 H0 scope cenv fp) [] τ G s → (∀ b ∈ fp, G b = none) → ∀ b ∈ fp, FpOk (Blk X s0 H0 scope cenv fp) [] G b := fun {τ G s} I hn b hb => by
    obtain ⟨e1, e2⟩ := I.ok.exf b hb
    refine ⟨hn b hb, e1, I.ok.exfs b hb, .inl hb, fun x c e => e2 x c e, fun p hp => ?_⟩
    exact absurd (show p ∈ ([] : List (Addr × Obj)) ++ [] from hp) (by simp)
  cases step i n G w1 with
  | inl over =>
    have last := T.done (Blk X s0 H0 scope cenv fp) rfl rfl rfl calm i [] s1 _ G (fun _ _ => False) I1 (fpk I1 n1) st1 over.1
    refine thnF last fun r s2 ⟨er, I2⟩ => ?_
    rw [er]
    exact fin _ _ _ I2 over.2
  | inr more =>
    obtain ⟨go, Up, less, turn⟩ := more
    have next := T.item (Blk X s0 H0 scope cenv fp) rfl rfl rfl calm i [] s1 _ G (fun _ _ => False) I1 (fpk I1 n1) st1 go
    refine thnF next fun r s2 ⟨u, er, own2⟩ => ?_
    rw [er]
    refine thnF own2 fun _ s3 ⟨x, G3, I3, rx, yl, st3, n3⟩ => ?_
    have held := I3.pinned (fpk I3 n3) (T.obj _ _ st3)
    refine thnF (pg.run _ s3 _ G3 x u _ held rx (turn x G3 yl)) fun _ s4 ⟨σ4, G4, I4, same, q4⟩ => ?_
    refine thnF (pt.run _ s4 σ4 G4 _ I4 q4) fun ok s5 ⟨G5, I5, q5⟩ => ?_
    -- back to the loop's head
    have home : ∀ {s' : Shared} {G' : Hp}, Inv (Blk X s0 H0 scope cenv fp) ([] ++ pinsAt fp s3.heap) σ4 G' s' → Up G' → ∃ m, m < n ∧ ∃ i G', Inv (Blk X s0 H0 scope cenv fp) [] (wipe σ (own.map (·.2))) G' s' ∧ tn i s'.heap ∧ (∀ b ∈ fp, G' b = none) ∧ W i m G' := by
      intro s' G' I' up
      obtain ⟨m', lt, w'⟩ := less G' up
      have stay : ∀ b ∈ fp, ∀ o, s3.heap.get? b = some o → s'.heap.get? b = some o ∧ G' b = none := by
        intro b hb o e
        have := I'.pin (b, o) (List.mem_append_right _ (List.mem_append_right _ (mem_pinsAt hb e)))
        exact ⟨this.1, this.2.1⟩
      have back : Inv (Blk X s0 H0 scope cenv fp) [] (wipe σ (own.map (·.2))) G' s' := by
        refine (I'.unpinned (pins := [])).weak (by rw [← same, wipe_length]) fun j v e => ?_
        rw [← same] at e
        exact (wipe_some e).1
      refine ⟨m', lt, i + 1, G', back, T.keep _ _ _ st3 fun b hb o e => (stay b hb o e).1, fun b hb => ?_, w'⟩
      obtain ⟨o, e, _⟩ := T.obj _ _ st3 b hb
      exact (stay b hb o e).2
    cases ok with
    | false => exact home I5 (by simpa using q5)
    | true =>
      have q5' := (if_pos rfl).mp q5
      show wpAny _ _ _ _ _ _
      refine thnF (pk.run _ s5 σ4 G5 _ I5 q5') fun kv s6 ⟨y, G6, I6, ry, q6⟩ => ?_
      refine thnF (pv.run _ s6 σ4 G6 _ I6 q6) fun vv s7 ⟨z, G7, I7, rz, kvs, ks, c, ey, hN, hc, few, up⟩ => ?_
      rw [ey] at ry
      exact storeT (X := Blk X s0 H0 scope cenv fp) room I7 hN hc few ry rz fun s8 I8 => home I8 up
end
/-- a dict comprehension whose keys are tuples -/
theorem pe_dcT {kx vx tg it : Expr} {fs : List Expr} {scope : Scope} {own : List (Str × Nat)} {pos : Pos} {wi : TI} {g : TG} {tt : TT} {tk tv : TE} (room : X.A.units + 1 < cLine) (calm : X.calm = true) (hN : X.N.Nodup) (hi : PI X tg it wi) (ok : BlkOk X.N X.env.scope scope own)
    (hg : ∀ (s : Shared) (H : Hp) (C : Addr) (cl : List (Str × Addr)) (fp : List Addr), PG (Blk X s H scope (compEnvC scope cl C X.env) fp) tg g) (ht : ∀ (s : Shared) (H : Hp) (C : Addr) (cl : List (Str × Addr)) (fp : List Addr), PTs (Blk X s H scope (compEnvC scope cl C X.env) fp) fs tt)
    (hk : ∀ (s : Shared) (H : Hp) (C : Addr) (cl : List (Str × Addr)) (fp : List Addr), PE (Blk X s H scope (compEnvC scope cl C X.env) fp) kx tk) (hv : ∀ (s : Shared) (H : Hp) (C : Addr) (cl : List (Str × Addr)) (fp : List Addr), PE (Blk X s H scope (compEnvC scope cl C X.env) fp) vx tv)
    (hs : ∀ x, foldedSetIterable it X.env x = pure x := by intro _; rfl) : PE X (.DictComp kx vx [⟨tg, it, fs, 0⟩] scope pos) (tDcT wi g tt tk tv (own.map (·.2))) := by
  constructor
  intro pins s σ H Q I h
  rw [arm_eval_DictComp]
  have cells : ∀ y ∈ scope.names, y.2 = .free → ∃ c, X.env.cells.lookup y.1 = some c := by
    intro y hy e
    cases ok.free y hy e with
    | inl k => exact I.ok.has _ (.inl k)
    | inr k => exact I.ok.has _ (.inr k)
  refine wpAny_comprehension_free rfl hs (closure_ok cells) ok.kind (fun y hy e => (ok.uniq y hy).trans (by rw [e])) ?_
  refine thn (hi.run pins s σ H _ I h) fun _ _ run => thn run fun _ s2 ⟨a, fp, tn, J, H2, ea, I2, T, st2, f2, q⟩ => ?_
  rw [ea]
  refine wpAny_newObj_type (newEnv_comp ?_)
  -- the new dict
  obtain ⟨N, eN⟩ : ∃ N, N = s2.heap.objs.size := ⟨_, rfl⟩
  have freeN : H2 N = none := I2.hok.fresh (Nat.le_of_eq eN.symm)
  obtain ⟨W, ⟨m0, w0⟩, step⟩ := q N freeN
  obtain ⟨s3, es3⟩ : ∃ s3 : Shared, s3 = { s2 with heap := s2.heap.push { cls := .type "dict", data := .dict #[] } } := ⟨_, rfl⟩
  have heap3 : s3.heap = s2.heap.push { cls := .type "dict", data := .dict #[] } := by rw [es3]
  have I3 : Inv X pins σ (upd H2 N (.dT [])) s3 := by
    rw [es3, eN]
    exact I2.laid (t' := s2.toks) (fun _ _ e => Heap.get?_push_of_some _ e) (Nat.le_refl _) (dt_empty s2.heap I2.big)
  obtain ⟨H3, eH3⟩ : ∃ H3, H3 = upd H2 N (.dT []) := ⟨_, rfl⟩
  rw [← eH3] at I3 w0
  have fp3 : ∀ b ∈ fp, FpOk X pins H3 b ∧ b < s3.heap.objs.size := by
    intro b hb
    obtain ⟨o, e, _⟩ := T.obj _ _ st2 b hb
    have below : b < s2.heap.objs.size := Heap.lt_size e
    refine ⟨⟨?_, (f2 b hb).2⟩, heap3 ▸ (Heap.size_push .. ▸ Nat.lt_succ_of_lt below)⟩
    rw [eH3, upd_ne (eN ▸ Nat.ne_of_lt below)]
    exact (f2 b hb).1
  have st3 : tn 0 s3.heap := T.keep _ _ _ st2 fun b _ o e => heap3 ▸ Heap.get?_push_of_some _ e
  have I4 := block_start I3 ok hN fp3
  obtain ⟨cl, ecl⟩ : ∃ cl, cl = cellsFrom (s3.heap.objs.size + 1) scope.names (cloFrom X.env.cells scope.names []) := ⟨_, rfl⟩
  rw [← ecl] at I4
  have eloc : (compEnvC scope cl s3.heap.objs.size X.env).locals = s3.heap.objs.size := rfl
  have pg := hg s3 H3 s3.heap.objs.size cl fp
  have pt := ht s3 H3 s3.heap.objs.size cl fp
  have pk := hk s3 H3 s3.heap.objs.size cl fp
  have pv := hv s3 H3 s3.heap.objs.size cl fp
  obtain ⟨s4, es4⟩ : ∃ s4 : Shared, s4 = { s3 with heap := pushCells (s3.heap.push { cls := .type "dict", data := .dict #[] }) scope.names } := ⟨_, rfl⟩
  rw [← es4] at I4
  have st4 : tn 0 s4.heap := T.keep _ _ _ st3 fun b _ o e => by
    rw [es4]
    exact pushCells_keeps _ _ _ _ (Heap.get?_push_of_some _ e)
  have main := turnsT (kx := kx) (vx := vx) (it := it) (pos := pos) (R := compPost (model X.prog X.w) X.A X.xe none (EP X pins σ Q) (.ref N) s3.heap.objs.size) room calm T pg pt pk pv I4 st4 (fun b hb => (fp3 b hb).1.1) w0 step (fun τ G s5 I5 fin => by
    have I6 : Inv X pins σ G s5 := I3.call' (ch := fp) I5.os I5.base I5.hok I5.bare fun b hb => by
      obtain ⟨_, c2, _, c4, c5, c6⟩ := (fp3 b hb).1
      exact ⟨c4, c2, c5, c6⟩
    have none5 : G s3.heap.objs.size = none := eloc ▸ I5.free
    obtain ⟨mm, ns, _⟩ := I5.loc
    have ns : s5.heap.Ns s3.heap.objs.size mm := eloc ▸ ns
    obtain ⟨c1, c2, c3, c4, c5, c6⟩ := I3.fpOk (Nat.le_refl _) none5
    refine ⟨mm, ns, fun heap' but => ?_⟩
    exact ⟨.ref N, G, I6.turned (t' := s5.toks) (fun b o hb e => (but.2 b hb).trans e) c1 c2 c4 c5 c6, rfl, fin⟩)
  have go := codeAny_compStart_dict main (T.self X.A 0 _ _ _ st4 main)
  rw [es4, ecl, es3] at go
  rw [eN] at go
  exact go
end
/-- the keys that a dict with tuples as keys comes to have -/
def keyPut (n : List Int) (ks : List (List Int)) : List (List Int) := if n ∈ ks then ks else ks ++ [n]
def dtW (g : TG3) (tt : TT3) (ta : TA3) (tv : TE3) (vs : List Nat) (σ : Sl) (Q : Nat → Mem → Prop) : List PV → List (List Int) → Mem → Prop
  | [], ks, M => Q ks.length M
  | y :: ys, ks, M => g y (wipe3 σ vs) M fun σ1 M1 => tt σ1 M1 fun b M2 => if b = true then ta σ1 M2 fun xs M3 => szW xs ∧ tv σ1 M3 fun v M4 => ∃ n : List Int, xs = n.map .int ∧ dtW g tt ta tv vs σ Q ys (keyPut n ks) M4 else dtW g tt ta tv vs σ Q ys ks M2
/-- len({(..): v for ..}) -/
def tLenDT3 (wi : TI3) (g : TG3) (tt : TT3) (ta : TA3) (tv : TE3) (vs : List Nat) : TE3 := fun σ M Q => noOwn σ vs ∧ wi σ M fun ys M1 => dtW g tt ta tv vs σ (fun n M2 => Q (.int ((n : Nat) : Int)) M2) ys [] M1
theorem reps_keys {K : PySem.W.Frag} {H : Hp} {D : Addr → Prop} : ∀ {n : List Int} {vs : List V}, Reps K H D (n.map .int) vs → vs = (n.map Sum.inl).map kV
  | [], vs, r => by unfold Reps at r; rw [r]; rfl
  | i :: n, vs, r => by
    unfold Reps at r
    obtain ⟨v, t, e, h, ht⟩ := r
    rw [e, reps_keys ht]
    unfold Rep at h
    rw [h]
    rfl
theorem keyPut_len {n : List Int} {ks : List (List Int)} : (keyPut n ks).length ≤ ks.length + 1 := by
  unfold keyPut
  split
  · omega
  · simp
theorem keys_put {kvs : List (List Key × V)} {ks : List (List Int)} {n : List Int} {z : V} (h : kvs.map (·.1) = ks.map (·.map Sum.inl)) : (putK kvs (n.map Sum.inl) z).map (·.1) = (keyPut n ks).map (·.map Sum.inl) := by
  have inj : ∀ {a b : List Int}, a.map (Sum.inl (β := Str)) = b.map Sum.inl → a = b := fun {a b} e => by
    have := congrArg (List.map (fun k : Key => match k with | .inl i => i | .inr _ => 0)) e
    rw [List.map_map, List.map_map] at this
    simpa [Function.comp_def] using this
  have mem : (kvs.any fun kv => decide (kv.1 = n.map Sum.inl)) = decide (n ∈ ks) := by
    rw [Bool.eq_iff_iff, List.any_eq_true, decide_eq_true_iff]
    constructor
    · rintro ⟨kv, hk, e⟩
      have : kv.1 ∈ ks.map (·.map Sum.inl) := by rw [← h]; exact List.mem_map.mpr ⟨kv, hk, rfl⟩
      rw [of_decide_eq_true e] at this
      obtain ⟨m, hm, em⟩ := List.mem_map.mp this
      rw [← inj em]; exact hm
    · intro hn
      have : n.map Sum.inl ∈ kvs.map (·.1) := by rw [h]; exact List.mem_map.mpr ⟨n, hn, rfl⟩
      obtain ⟨kv, hk, e⟩ := List.mem_map.mp this
      exact ⟨kv, hk, decide_eq_true e⟩
  unfold putK keyPut
  rw [mem]
  by_cases c : n ∈ ks
  · rw [if_pos (decide_eq_true c), if_pos c, List.map_map, ← h]
    refine List.map_congr_left fun kv _ => ?_
    simp only [Function.comp]
    split
    · rfl
    · rfl
  · rw [if_neg (by simp [c]), if_neg c, List.map_append, List.map_append, h]
    rfl
section
variable {X : Cx} {P : BP} {tg iter vx : Expr} {es : List Expr} {wj : TI3} {g : TG3} {ws : List Nat} {tt : TT3} {ta : TA3} {tv : TE3} {scope : Scope} {own : List (Str × Nat)} {ifs : List Expr} {pos : Pos}
theorem lenDT_lift {K : PySem.W.Frag} {B : Base} {vs : List Nat} {τ : L2.St} {H : Hp} {Q : VK} (hw : ∀ i ∈ ws, i ∈ vs) (h : liftE K B (tLenDT3 wj g tt ta tv vs) τ H Q) :
    tCB rLenT (tCons (tDcT (liftIB K B wj) (fun v τ H Q => ∃ B, liftG K B g ws v τ H Q) (fun τ H Q => ∃ B, liftT K B tt τ H Q) (tTup fun τ H Q => ∃ B, liftA K B ta τ H Q) (fun τ H Q => ∃ B, liftE K B tv τ H Q) vs) tNil) τ H Q := by
  obtain ⟨σ, M, oa, Q3, R, ⟨no, w⟩, k⟩ := h
  refine ⟨σ, M, oa, _, R, w, fun ys M1 J H1 q1 R1 f1 hz it D hD => ?_⟩
  obtain ⟨RF, fF⟩ := R1.alloc hD (.dT []) (fun _ z => by cases z)
  have hDE := R1.none_E hD
  have hFD := R1.none_D hD
  have eD : ∀ M' : Mem, Dm (B.plus D).DE (wipe3 σ vs) M' oa = Dm (B.plus D).DE σ M' oa := fun M' => Dm.wipe_eq no
  have eD0 : ∀ M' : Mem, Dm B.DE (wipe3 σ vs) M' oa = Dm B.DE σ M' oa := fun M' => Dm.wipe_eq no
  refine ⟨fun i m H' => m = ys.length - i ∧ i ≤ ys.length ∧ ∃ ks kvs M', R3 K (B.plus D) (wipe3 σ vs) M' (wipe τ vs) H' oa ∧ Fr3 H1 H' (Zm B.DE σ M1 oa) (Zp B D (wipe3 σ vs) M' oa) ∧ H' D = some (.dT kvs) ∧ kvs.map (·.1) = ks.map (·.map Sum.inl) ∧
      ks.length ≤ i ∧ ¬ Dm B.DE σ M' oa D ∧ dtW g tt ta tv vs σ (fun n M2 => Q3 (.int ((n : Nat) : Int)) M2) (ys.drop i) ks M', ⟨_, rfl, Nat.zero_le _, [], [], M1, wipe3_R RF vs, ?_, upd_same, rfl, Nat.zero_le _, hFD, q1⟩, ?_⟩
  · refine ⟨fun b o e n t => fF.keep b o e n t, fF.live, fF.tups, fun b d => ?_, fun b d => ?_⟩
    · exact fF.new b (Dm.wipe_le b d)
    · rcases d with d | d
      · exact .inl d
      · exact .inr (nth (by rw [d]; exact hD))
  rintro i m H' ⟨rfl, hi', ks, kvs, M', R', f', hDl, hK, hA, nD, q'⟩
  have I := it H' (Dm (B.plus D).DE (wipe3 σ vs) M' oa) i f'.all R'.mem.dom (fun j x e => ?_)
  rotate_left
  · have hj : j ∉ vs := fun hj => by
      have z := no j hj
      rw [e] at z
      exact z
    exact (R'.own j x (wipe3_keep hj e)).2
  have hL : kvs.length = ks.length := by
    have := congrArg List.length hK
    simpa using this
  by_cases hlt : i < ys.length
  · obtain ⟨go, yl⟩ := I.1 hlt
    have hd : ys.drop i = ys[i] :: ys.drop (i + 1) := List.drop_eq_getElem_cons hlt
    rw [hd] at q'
    refine .inr ⟨go, fun H5 => ∃ ks kvs M', R3 K (B.plus D) (wipe3 σ vs) M' (wipe τ vs) H5 oa ∧ Fr3 H1 H5 (Zm B.DE σ M1 oa) (Zp B D (wipe3 σ vs) M' oa) ∧ H5 D = some (.dT kvs) ∧ kvs.map (·.1) = ks.map (·.map Sum.inl) ∧
      ks.length ≤ i + 1 ∧ ¬ Dm B.DE σ M' oa D ∧ dtW g tt ta tv vs σ (fun n M2 => Q3 (.int ((n : Nat) : Int)) M2) (ys.drop (i + 1)) ks M', fun H5 n5 => ⟨ys.length - (i + 1), by omega, rfl, hlt, n5⟩, fun x H2 hy => ?_⟩
    obtain ⟨sm, y, ey, ry⟩ := yl x H2 hy
    have ey' : y = ys[i] := by rw [List.getElem?_eq_getElem hlt] at ey; exact (Option.some.inj ey).symm
    subst ey'
    obtain ⟨R2, f2⟩ := R'.same sm
    refine ⟨B.plus D, ys[i], _, M', oa, _, R2, ry, q', fun σ3 M3 τ3 H3 q3 R3' wp f3 => ?_⟩
    obtain ⟨wp1, wp2⟩ := wp vs hw
    rw [wipe_L (wipe τ vs), wipe_L τ, wipeL_idem, ← wipe_L τ] at wp1
    replace wp2 : wipe3 σ3 vs = wipe3 σ vs := wp2.trans wipeL_idem
    refine ⟨wp1, B.plus D, σ3, M3, oa, _, R3', q3, fun b M4 H4 q4 R4 f4 => ?_⟩
    have fa := (f2.trans f3).trans f4
    have fin : ∀ {M5 : Mem} {H5 : Hp}, R3 K (B.plus D) σ3 M5 τ3 H5 oa → Fr3 H' H5 (Zm (B.plus D).DE (wipe3 σ vs) M' oa) (Zm (B.plus D).DE σ3 M5 oa) →
        R3 K (B.plus D) (wipe3 σ vs) M5 (wipe τ vs) H5 oa ∧ Fr3 H' H5 (Zm (B.plus D).DE (wipe3 σ vs) M' oa) (Zm (B.plus D).DE (wipe3 σ vs) M5 oa) ∧ H5 D = some (.dT kvs) ∧ ¬ Dm B.DE σ M5 oa D := fun {M5 H5} R5 f5 => by
      have r := wipe3_R R5 vs
      rw [wp1, wp2] at r
      have le : ∀ b, Dm (B.plus D).DE (wipe3 σ vs) M5 oa b → Dm (B.plus D).DE σ3 M5 oa b := fun b d => by rw [← wp2] at d; exact Dm.wipe_le b d
      have nM : ¬ ∃ mo, M' D = some mo := fun ⟨mo, e⟩ => nD (.inr (.inl ⟨mo, e⟩))
      refine ⟨r, f5.shrink le fun _ d => d, f5.keep D _ hDl nM (fun _ z => by cases z), fun d => ?_⟩
      rcases d with d | d | ⟨j, x, e, d⟩
      · exact nD (.inl d)
      · rcases f5.newM D d with z | z
        · exact nM z
        · exact z ⟨_, hDl, fun _ z => by cases z⟩
      · exact nD (.inr (.inr ⟨j, x, e, d⟩))
    cases b with
    | false =>
      obtain ⟨a1, a2, a3, a4⟩ := fin R4 fa
      exact ⟨ks, kvs, M4, a1, f'.trans a2.zp, a3, hK, Nat.le_succ_of_le hA, a4, q4⟩
    | true =>
      refine ⟨B.plus D, σ3, M4, oa, _, R4, q4, fun xs M5 us H5 q5 R5 f5 r5 => ⟨sz_of r5 q5.1, fun p hp => ?_⟩⟩
      have smp : Same H5 (upd H5 p (.tup us)) := fun b u e => by rw [upd_ne (ne_of_none e hp)]; exact e
      obtain ⟨R5', f5'⟩ := R5.same smp
      refine ⟨B.plus D, σ3, M5, oa, _, R5', q5.2, fun z M6 v H6 q6 R6 f6 r6 => ?_⟩
      obtain ⟨n, en, q7⟩ := q6
      obtain ⟨a1, a2, a3, a4⟩ := fin R6 (((fa.trans f5).trans f5').trans f6)
      have hl : kvs.length < sizeLine := by
        rw [hL]
        exact Nat.lt_of_lt_of_le (Nat.lt_of_le_of_lt hA hlt) hz
      have key : H6 p = some (.tup ((n.map Sum.inl).map kV)) := by
        subst en
        rw [← reps_keys r5]
        exact f6.tups p us upd_same
      obtain ⟨R7, f7⟩ := a1.pokeA (o' := .dT (putK kvs (n.map Sum.inl) v)) a3 (fun _ z => by cases z) (fun _ z => by cases z) (fun _ _ z => by unfold LamX.CodeO at z; cases z) (fun _ z => by cases z) hDE (by rw [eD0]; exact a4)
      exact ⟨kvs, n.map Sum.inl, p, rfl, a3, key, hl, keyPut n ks, _, M6, R7, (f'.trans a2.zp).trans f7, upd_same, keys_put hK, by have := keyPut_len (n := n) (ks := ks); omega, a4, q7⟩
  · have e : i = ys.length := by omega
    subst e
    rw [List.drop_length] at q'
    have st : R3 K (B.plus D) σ M' τ H' oa := by
      refine ⟨?_, ?_, ?_, ?_, ?_, ?_⟩
      · have m := R'.mem
        rw [eD] at m; exact m
      · exact R1.len
      · intro j x e
        obtain ⟨v, q, r⟩ := R1.slot j x e
        have r2 := r.fr f'
        have eZ : (Zp B D (wipe3 σ vs) M' oa).D = Dm (B.plus D).DE σ M' oa := eD M'
        rw [eZ] at r2
        exact ⟨v, q, r2⟩
      · intro j x e
        have hj : j ∉ vs := fun hj => by
          have z := no j hj
          rw [e] at z
          exact z
        obtain ⟨q, r⟩ := R'.own j x (wipe3_keep hj e)
        rw [eD] at r
        exact ⟨(R1.own j x e).1, r⟩
      · exact R1.inj
      · intro j x e
        have hj : j ∉ vs := fun hj => by
          have z := no j hj
          rw [e] at z
          exact z
        exact R'.nm j x (wipe3_keep hj e)
    have fz : Fr3 H1 H' (Zm B.DE σ M1 oa) (Zm (B.plus D).DE σ M' oa) := f'.shrink (fun b d => by
      show Dm (B.plus D).DE (wipe3 σ vs) M' oa b
      rw [eD]; exact d) fun b d => .inl d
    refine .inl ⟨I.2 rfl, D, kvs, rfl, hDl, ?_⟩
    rw [hL]
    refine k _ M' _ H' q' (st.minus hDE).1 ((f1.trans fz).shrink (fun b d => Dm.plus.mpr (.inl d)) fun _ d => d) ?_
    unfold Rep
    rfl
theorem pa_ex {X : Cx} {es : List Expr} {t : TA3} (h : PA3 X PAll es t) : PA X es (fun τ H Q => ∃ B, liftA X.K B t τ H Q) := ⟨fun pos pins s σ H Q I ⟨B, w⟩ => (h B trivial).run pos pins s σ H Q I w⟩
theorem pe3_lenDT {lp cp tp : Pos} {xt : Nat} (hm : X.mg "len" = none) (room : X.A.units + 64 < cLine) (hc : X.calm = true) (hN : X.N.Nodup) (hi : PIB3 X P tg iter wj) (ok : BlkOk X.N X.env.scope scope own) (hw : ∀ i ∈ ws, i ∈ own.map (·.2))
    (hg : ∀ (s : Shared) (H : Hp) (C : Addr) (cl : List (Str × Addr)) (fp : List Addr), PG3 (X.blk s H scope (compEnvC scope cl C X.env) fp) PAll tg g ws)
    (ht : ∀ (s : Shared) (H : Hp) (C : Addr) (cl : List (Str × Addr)) (fp : List Addr), PTs3 (X.blk s H scope (compEnvC scope cl C X.env) fp) PAll ifs tt)
    (hk : ∀ (s : Shared) (H : Hp) (C : Addr) (cl : List (Str × Addr)) (fp : List Addr), PA3 (X.blk s H scope (compEnvC scope cl C X.env) fp) PAll es ta)
    (he : ∀ (s : Shared) (H : Hp) (C : Addr) (cl : List (Str × Addr)) (fp : List Addr), PE3 (X.blk s H scope (compEnvC scope cl C X.env) fp) PAll vx tv) (hs : ∀ x, foldedSetIterable iter X.env x = pure x := by intro _; rfl) (hgl : Gl X "len" := by rfl)
    (hst : starEach [.DictComp (.Tuple es xt tp) vx [⟨tg, iter, ifs, 0⟩] scope pos] X.env = (false, eval (.DictComp (.Tuple es xt tp) vx [⟨tg, iter, ifs, 0⟩] scope pos) X.env) :: starEach [] X.env := by rfl) :
    PE3 X P (.Call (.Name "len" lp) [.DictComp (.Tuple es xt tp) vx [⟨tg, iter, ifs, 0⟩] scope pos] [] cp) (tLenDT3 wj g tt ta tv (own.map (·.2))) := fun B hB =>
  PE.imp (pe_callB call_len_dT hgl hm (by rfl) (pa_cons (pe_dcT (by omega) hc hN (hi B hB) ok (fun s H C cl fp => (hg s H C cl fp).ex) (fun s H C cl fp => (ht s H C cl fp).ex) (fun s H C cl fp => pe_tup (pa_ex (hk s H C cl fp))) (fun s H C cl fp => (he s H C cl fp).ex) hs) pa_nil hst) (by decide) (by decide) hst rfl) fun τ H Q h => lenDT_lift hw h
end
section
variable {σ : Sl} {M : Mem} {Q : PV → Mem → Prop} {ta : TA3} {tv : TE3} {tt : TT3} {g : TG3} {vs : List Nat}
@[simp] theorem e_lenDT {wi : TI3} : tLenDT3 wi g tt ta tv vs σ M Q = (noOwn σ vs ∧ wi σ M fun ys M1 => dtW g tt ta tv vs σ (fun n M2 => Q (.int ((n : Nat) : Int)) M2) ys [] M1) := rfl
end
end T3

/-! ## a def that freezes a list of the memory that is new since the entry -/
namespace T3
open PySem PySem.Spec PyProof.Rows L2
/-- what is known of the entry: the memory, the places that are not ours -/
def Entry (P : BP) (M : Mem) : Prop := ∀ B, P B → B.ME = M ∧ ∀ b, B.DE b → Th B.HE b
section
variable {Pg : Program} {w : World} {K : PySem.W.Frag} {mg : Str → Option Value} {base h : Heap}
theorem fn3N {x qual : Str} {st : Stmt} {f : Addr} {fd : FuncData} {N ps : List Str} {k : Nat} {sp : Sp3} (F : Fun K x qual st f fd) (S : FnScope N ps (defScope st)) (len : ∀ xs M Q E, sp xs M Q E → xs.length = ps.length)
    (body : ∀ (cdv : Value) (A : Around) (outer : List Env) (s : Shared) (H : Hp) (E : XK) (P : BP) (xs : List PV) (M : Mem) (Q : PV → Mem → Prop) (E3 : W3), sp xs M Q E3 → Entry P M →
      TK (cxOf (L2.CX Pg w) Pg w K mg base N qual (defScope st) f cdv A outer s H E) P (clW E3) → Room k (A.deeper (envOfC qual (defScope st) s.heap.objs.size f cdv)) →
      ∃ t, PSs3 (cxOf (L2.CX Pg w) Pg w K mg base N qual (defScope st) f cdv A outer s H E) P (defBody st) t ∧ t { nx := fun _ M' => clQ Q .non M', rt := clQ Q } (start3 N xs) M) :
    FnOk Pg w K mg base (L2.CX Pg w) (k + 1) f fd ps (liftSp K sp) := by
  refine F.okX S (fun vs H Q E h => ?_) (fun cdv A outer s H vs Q E hr h => ?_)
  · obtain ⟨D, M, xs, Q3, E3, _, _, _, r, hsp, _⟩ := h
    rw [r.len]; exact len _ _ _ _ hsp
  · obtain ⟨D, M, xs, Q3, E3, hMD, hDH, hm, r, hsp, kQ, kE⟩ := h
    obtain ⟨t, ht, q⟩ := body cdv A outer s H E (fun B => B = ⟨D, H, M, []⟩) xs M Q3 E3 hsp (fun B hB => by subst hB; exact ⟨rfl, hDH⟩) (fun B hB => by
      subst hB
      refine Takes.imp (takes_of rfl rfl rfl rfl) fun cls d σ H' h => ?_
      obtain ⟨C, y, M', v, dd, D', e1, e2, hd, R, ry, M1, l, q⟩ := h
      subst e1; subst e2
      exact kE C y M1 D' v dd H' q (R.aft l) ry hd) hr
    refine ⟨_, ht _ rfl, ?_⟩
    obtain ⟨R, le⟩ := R3.begin (N := N) (T := []) hMD hDH hm r (fun p hp => absurd hp (by simp))
    refine ⟨_, M, _, _, R, q, ⟨fun σ M' τ H' oa ⟨M1, l, q'⟩ R' _ => ?_, fun y M' v H' D' ⟨M1, l, q'⟩ R' ry => kQ y M1 D' v H' q' (R'.aft l) ry, fun _ _ _ _ _ q' => q'.elim, fun _ _ _ _ _ q' => q'.elim⟩⟩
    obtain ⟨D', RM, rr⟩ := ret_rep R' (.inl Rep.non)
    exact kQ .non M1 D' .non H' q' (RM.aft l) rr
theorem At3.okN {x : Str} {st : Stmt} {f : Addr} {N ps : List Str} {k : Nat} {sp : Sp3} (T : At3 K x st f) (KX : K.In h) (G : h.Ns mainGlobals mg) (S : FnScope N ps (defScope st)) (len : ∀ xs M Q E, sp xs M Q E → xs.length = ps.length)
    (hb : ∀ (kV doc pm : Value) (an : Option Addr) (cdv ct : Value) (us : List Value), us.length = ps.length → bindArgs (PySem.W.fnOf x x (defArgs st) (defBody st) (defScope st) .none kV doc pm an cdv ct) ⟨us, []⟩ = pure (ps.zip us))
    {t : Mem → W3 → TS3} (d : ∀ (cdv : Value) (A : Around) (outer : List Env) (s : Shared) (H : Hp) (E : XK) (P : BP) (M : Mem) (W : W3), Entry P M → Room k (cxOf (L2.CX Pg w) Pg w K mg base N x (defScope st) f cdv A outer s H E).A → TK (cxOf (L2.CX Pg w) Pg w K mg base N x (defScope st) f cdv A outer s H E) P W → PSs3 (cxOf (L2.CX Pg w) Pg w K mg base N x (defScope st) f cdv A outer s H E) P (defBody st) (t M W))
    (q : ∀ xs M Q E, sp xs M Q E → t M (clW E) { nx := fun _ M' => clQ Q .non M', rt := clQ Q } (xs.map Slot.val ++ List.replicate (N.length - xs.length) Slot.un) M) : Def3 Pg w K mg base (k + 1) x ps sp := by
  obtain ⟨fd, F⟩ := T.F
  refine def3_mk (PySem.W.mg_of KX G T.n) F (F.binds hb) (fn3N F S len fun cdv A outer s H E P xs M Q E3 hsp en tk hr => ⟨_, d cdv _ outer s H E P M (clW E3) en hr tk, q xs M Q E3 hsp⟩)
end
section
variable {X : Cx} {P : BP} {sts : List Stmt} {ts : TS3}
/-- the new list that slot i points to is frozen -/
def tFrzN3 (M0 : Mem) (i : Nat) (t : TS3) : TS3 := fun D σ M => slotW σ i fun x => memLst x M fun a xs => M0 a = none ∧ t D (σ.set i (.val (.lst xs))) (M.del a)
theorem frzN_lift {K : PySem.W.Frag} {B : Base} {M0 : Mem} (hB : B.ME = M0 ∧ ∀ b, B.DE b → Th B.HE b) {i : Nat} {D : Ends} {τ : L2.St} {H : Hp} (h : liftS K B (tFrzN3 M0 i ts) D τ H) : liftS K B ts D τ H := by
  obtain ⟨σ, M, oa, E, R, w, k⟩ := h
  unfold tFrzN3 slotW at w
  split at w
  · rename_i x e
    obtain ⟨a, xs, rfl, em, n0, w⟩ := memLst_of w
    have na : ¬ B.DE a := fun d => by
      rcases R.mem.newM a ⟨_, em⟩ with ⟨mo, z⟩ | z
      · rw [hB.1, n0] at z; cases z
      · exact z (hB.2 a d)
    obtain ⟨R1, f1, r1⟩ := R.frozeLst em na
    obtain ⟨R2, f2⟩ := R1.put (k := i) r1
    obtain ⟨v, ev, rv⟩ := R.slot i _ e
    have ev' : v = .ref a := rv
    subst ev'
    have et : τ.set i (some (V.ref a)) = τ := by
      apply List.ext_getElem?
      intro j
      by_cases hj : i = j
      · subst hj
        rw [ev, List.getElem?_set_self (List.getElem?_eq_some_iff.mp ev).1]
      · rw [List.getElem?_set_ne hj]
    rw [et] at R2
    exact ⟨_, _, oa, E, R2, w, k.from (f1.trans f2).all⟩
  · exact w.elim
theorem pss3_frzN {M0 : Mem} (hB : Entry P M0) (i : Nat) (h : PSs3 X P sts ts) : PSs3 X P sts (tFrzN3 M0 i ts) := fun B hP => PSs.imp (h B hP) fun _ _ _ h => frzN_lift (hB B hP) h
end
@[simp] theorem e_frzN {M0 : Mem} {i : Nat} {tb : TS3} {D : D3} {σ : Sl} {M : Mem} : tFrzN3 M0 i tb D σ M = slotW σ i fun x => memLst x M fun a xs => M0 a = none ∧ tb D (σ.set i (.val (.lst xs))) (M.del a) := rfl
end T3

/-! sorted(tuple) -/
namespace T3
open PySem PySem.Spec PyProof.Rows L2 PySem.W PySem.Calls
section
variable {prog : Program} {w : World} {A : Around} {E : Value → Shared → Prop} {s : Shared} {β : Type} {vs : List Value} {bs : List β} {enc : β → PyData} {R : Value → β → Prop}
/-- the items of a tuple laid out as a new list -/
theorem collect_tup {Q : List Value → Shared → Prop} (t : Addr) {o : Obj} {its : Array Value} {n : Nat} (ho : s.heap.get? t = some o) (hc : o.cls = .type "tuple") (hd : o.data = .seq its n) (hz : its.size ≤ sizeLine)
    (hQ : ∀ h', (∀ b u, s.heap.get? b = some u → h'.get? b = some u) → s.heap.objs.size ≤ h'.objs.size → Q its.toList { s with heap := h' }) : wpAny (model prog w) A (collect (.ref t)) Q E s := by
  have n1 : (s.heap.push { cls := .type "list", data := .seq ([] : List Value).toArray }).get? s.heap.objs.size = some { cls := .type "list", data := .seq #[] 0 } := Heap.get?_push_size _ rfl
  have n2 := Heap.get?_update_self (Obj.mapSeq (· ++ its)) n1 rfl
  have fin : ∀ R : Shared, R = { s with heap := (s.heap.push { cls := .type "list", data := .seq ([] : List Value).toArray }).update s.heap.objs.size (Obj.mapSeq (· ++ its)) } → wpAny (model prog w) A (match Value.ref s.heap.objs.size with | Value.ref a => (do match (← load a).data with | Data.seq xs _ => pure xs.toList | _ => unsupported "internal:collect") | _ => unsupported "internal:collect") Q E R := fun R eR => by
    subst eR
    show wpAny _ A (load s.heap.objs.size >>= _) _ _ _; refine wpAny_bind (wpAny_load n2 ?_); refine wpAny_pure ?_
    have el : ((#[] : Array Value) ++ its).toList = its.toList := by simp
    show Q ((#[] : Array Value) ++ its).toList _; rw [el]; refine hQ _ (fun b u hb => ?_) ?_
    · rw [Heap.get?_update_other _ _ (Nat.ne_of_gt (Heap.lt_size hb))]; exact Heap.get?_push_of_some _ hb
    · rw [Heap.size_update, Heap.size_push]; exact Nat.le_succ _
  unfold collect; refine wpAny_bind (wpAny_runValue (codeAny_builtin F.entry_proto_collect ?_)); rw [Around.under_plainId F.plain_proto_collect _]
  show wpAny _ A.in1 (newList [] >>= fun l => again (.builtin "list.__iadd__" ⟨[l, .ref t], []⟩)) _ _ s; refine wpAny_bind (wpAny_newObj_type ?_); refine wpAny_pure ⟨plainId_quiet F.plain_list_iadd _, codeAny_builtin F.entry_list_iadd ?_⟩; rw [Around.under_plainId F.plain_list_iadd _]
  refine wpAny_mono (wpAny_extend_seq (hsz := hz) (A := A) (R := fun r s2 => r = .ok (.ret (.ref s.heap.objs.size)) ∧ s2 = { s with heap := (s.heap.push { cls := .type "list", data := .seq ([] : List Value).toArray }).update s.heap.objs.size (Obj.mapSeq (· ++ its)) })
    (s := { s with heap := s.heap.push { cls := .type "list", data := .seq ([] : List Value).toArray } }) s.heap.objs.size t (.ref s.heap.objs.size) 0 (.inr rfl) n1 (Heap.get?_push_of_some _ ho) hc hd ⟨rfl, rfl⟩) (fun f s2 g => ?_) fun e s2 g => absurd g.1 (by simp)
  cases f with
  | done f => obtain ⟨e, g⟩ := g; cases e; exact fin _ g
  | again c => exact ⟨g.1, codeAny_mono g.2 fun r s3 hr => by obtain ⟨rfl, g⟩ := hr; exact fin _ g⟩
/-- sorted of a tuple: a new list, sorted -/
theorem sorted_tupD {t : Addr} {Q : Value → Shared → Prop} (hl : s.heap.IsTuple t vs.toArray) (e : EachIs R vs bs) (er : EachIs (fun v b => ∃ as, Reads s.heap v (enc b) as) vs bs) (al : AllAlike (bs.map enc)) (so : Sortable (bs.map enc)) (le : bs.length ≤ sizeLine) (un : ∀ b, b ∈ bs → A.units + 2 + (enc b).depth < cLine)
    (h : ∀ (out : List Value) (p : Addr) (h2 : Heap) (ep : Nat), out.length = bs.length → EachIs R out (bs.mergeSort (dataLe false enc)) → s.heap.objs.size ≤ p → (∀ b o, s.heap.get? b = some o → h2.get? b = some o) → h2.get? p = some (seqObj "list" out.toArray ep) → Q (.ref p) { s with heap := h2 }) : wpAny (model prog w) A (call (.builtin "sorted") [.ref t]) Q E s := by
  obtain ⟨o, ho, hc, n, hd⟩ := id hl
  have vl : vs.length ≤ sizeLine := by rw [e.length]; exact le
  refine call_function_entry kind_sorted plain_sorted entry_sorted (args_sorted1 _) ?_; unfold Builtin.«sorted»; refine wpAny_bind (m := checkCount "sorted" 1 1 _) (wpAny_pure ?_)
  refine wpAny_bind (collect_tup t ho hc hd (by simpa using vl) fun h' hk sz => ?_); refine wpAny_bind (wpAny_newList ?_ (by simpa using vl))
  have old : ∀ b o, s.heap.get? b = some o → (h'.push (seqObj "list" vs.toArray 0)).get? b = some o ∧ b ≠ h'.objs.size := fun b o hb => ⟨Heap.get?_push_of_some _ (hk b o hb), Nat.ne_of_lt (Heap.lt_size (hk b o hb))⟩
  have at1 : (h'.push (seqObj "list" vs.toArray 0)).get? h'.objs.size = some (seqObj "list" vs.toArray 0) := Heap.get?_push_size _ rfl
  have er2 : EachIs (fun v b => ∃ as, Reads (sortingHeap (h'.push (seqObj "list" vs.toArray 0)) h'.objs.size vs) v (enc b) as) vs bs := er.mono fun _ _ ⟨as, r⟩ => ⟨as, Reads.keeps (fun b o hb => sortingHeap_old (old b o hb).2 (old b o hb).1) r⟩
  have run : wpAny (model prog w) A.in1 (call (.builtin "list.sort") [.ref h'.objs.size]) (fun _ s' => Q (.ref h'.objs.size) s') E { s with heap := h'.push (seqObj "list" vs.toArray 0) } := by
    refine wpAny_call_entry slot_list_sort ⟨_, at1, rfl⟩ entry_list_sort (list_sort_vals (κ := dataKind (sortingHeap (h'.push (seqObj "list" vs.toArray 0)) h'.objs.size vs) (bs.map enc)) at1 (SortsAt.data (s := { s with heap := sortingHeap (h'.push (seqObj "list" vs.toArray 0)) h'.objs.size vs }) (each_map (R := fun v d => ∃ as, Reads (sortingHeap (h'.push (seqObj "list" vs.toArray 0)) h'.objs.size vs) v d as) enc er2) al so (bound_map fun b hb => by have := un b hb; show A.units + 1 + 1 + _ < _; omega)) vl ⟨.none, rfl, ?_⟩) (args_list_sort _)
    obtain ⟨ep, e3⟩ := sortedHeap_at (vs := vs) (out := (sortVals (dataKind (sortingHeap (h'.push (seqObj "list" vs.toArray 0)) h'.objs.size vs) (bs.map enc)) false vs vs).toArray) at1
    refine h _ _ _ ep ?len (sortVals_data false e er2 al) sz (fun b o hb => ?_) e3
    case len => rw [sortVals_length false rfl]; exact e.length
    rw [sortedHeap_old (old b o hb).2 (Heap.lt_size (old b o hb).1)]; exact (old b o hb).1
  refine wpAny_bind (wpAny_holding (wpAny_mono run (fun _ s' x => ?_) fun _ _ e => e)); exact wpAny_pure ⟨_, rfl, x⟩
end
section
variable {X : Cx} {K : PySem.W.Frag} {H : Hp} {D : Addr → Prop}
def rSortTX : RnT := rOne fun x k => tupW x fun xs => (alikeP xs ∧ sortable xs) ∧ k (.lst (sortP xs))
theorem sortedXT (hu : X.A.units + 64 < cLine) : CallR X (.builtin "sorted") (fun vs H Q => ∃ (D : Addr → Prop) (xs : List PV) (v : V), vs = [v] ∧ RepR X.K H D (.tup xs) v ∧ (alikeP xs ∧ sortable xs) ∧ ∀ p us, H p = none → us.length ≤ sizeLine → Reps X.K H D (sortP xs) us → Q (.ref p) (upd H p (.lst us))) := fun pins s σ H vs us Q I r ⟨D, xs, v, e, rp, ⟨al, so⟩, q⟩ => by
  subst e
  obtain ⟨u, rfl, ru⟩ := vals1 r
  obtain ⟨a, us', rfl, t, z, rr⟩ := rr_tup rp
  cases ru
  obtain ⟨its, rv, pl, hz⟩ := I.tuple t
  have hd : ∀ x ∈ xs, dpt 60 x = true := fun x hx => (al.1 x hx).1
  refine sorted_tupD (enc := pdOf) pl (each_of (R := fun u x => ∃ v, RelV v u ∧ Rep X.K H D x v) rr rv fun x v u _ h1 h2 => ⟨v, h2, h1⟩) (each_of rr rv fun x v u hx h1 h2 => data_reads I (hd x hx) h1.readable h2) (fun d hd' d' hd'' => ?_) ?_ (by rw [← rr.len]; exact z) (fun b hb => ?_) fun out p h2 ep hl he hp hk hg => ?_
  · have h := (alikeP.all al).1
    rw [pdsOf_map] at h
    exact h d hd' d' hd''
  · rcases so with so | so
    · refine .inl fun d hd' => ?_
      obtain ⟨b, hb, rfl⟩ := List.mem_map.mp hd'
      obtain ⟨y, r, e⟩ := so b hb
      subst e
      exact ⟨pdOf y, pdsOf r, by show PyData.tuple (pdsOf (y :: r)) = _; simp [pdsOf]⟩
    · refine .inr fun d hd' => ?_
      obtain ⟨b, hb, rfl⟩ := List.mem_map.mp hd'
      refine ⟨pd_none (hd b hb) (al.1 b hb).2, fun ys e => ?_⟩
      have h := so b hb
      cases b <;> first | (cases h; done) | (unfold pdOf at e; cases e)
  · have := (dpt_data 60 b (hd b hb)).2.1
    omega
  · obtain ⟨ws, w1, w2⟩ := of_each he
    have hlen : ws.length ≤ sizeLine := by rw [w1.length, hl, ← rr.len]; exact z
    exact ⟨.ref _, upd H p (.lst ws), I.laid (t' := s.toks) hk hp ⟨hlen, out, ep, w1, hg⟩, rfl, q _ ws (I.hok.fresh hp) hlen w2⟩
theorem tupW_of {x : PV} {k : List PV → Prop} (h : tupW x k) : ∃ xs, x = .tup xs ∧ k xs := by
  cases x <;> first | exact h.elim | exact ⟨_, rfl, h⟩
theorem callO3_sortedT (hu : X.A.units + 64 < cLine) : CallO3 X (.builtin "sorted") rSortTX := CallR.imp (sortedXT hu) fun xs H Q ⟨D, ps, Q3, dD, rs, w, k⟩ => by
  obtain ⟨x, rfl, w⟩ := rOne_of w
  obtain ⟨v, rfl, r⟩ := paired1 rs
  obtain ⟨xs, rfl, w⟩ := tupW_of w
  exact ⟨D, xs, v, rfl, r, w.1, fun p us hp hz ru => k _ p us w.2 hp hz ru⟩
@[simp] theorem e_sortTX {x : PV} {k : PV → Prop} : rSortTX [x] k = tupW x fun xs => (alikeP xs ∧ sortable xs) ∧ k (.lst (sortP xs)) := rfl
end
end T3

/-! texts -/
namespace T3
open PySem PySem.Spec PyProof.Rows L2
def strW (x : PV) (k : Str → Prop) : Prop := match x with
  | .str s => k s
  | _ => False
theorem strW_of {x : PV} {k : Str → Prop} (h : strW x k) : ∃ s, x = .str s ∧ k s := by
  cases x <;> first | exact h.elim | exact ⟨_, rfl, h⟩
def strsOf : List PV → Option (List Str)
  | [] => some []
  | .str s :: r => (strsOf r).map (s :: ·)
  | _ => none
theorem strsOf_map (ss : List Str) : strsOf (ss.map .str) = some ss := by
  induction ss with
  | nil => rfl
  | cons s ss ih => rw [List.map_cons]; unfold strsOf; rw [ih]; rfl
theorem strsOf_of : ∀ {ys : List PV} {ss : List Str}, strsOf ys = some ss → ys = ss.map .str
  | [], _, h => by cases h; rfl
  | .str s :: r, ss, h => by
    unfold strsOf at h
    cases e : strsOf r with
    | none => rw [e] at h; cases h
    | some zs => rw [e] at h; cases h; rw [strsOf_of e]; rfl
  | .non :: _, _, h => by cases h
  | .bl _ :: _, _, h => by cases h
  | .int _ :: _, _, h => by cases h
  | .tup _ :: _, _, h => by cases h
  | .lst _ :: _, _, h => by cases h
  | .dic _ _ :: _, _, h => by cases h
  | .raw _ :: _, _, h => by cases h
  | .ins _ _ _ :: _, _, h => by cases h
section
variable {K : PySem.W.Frag} {H : Hp} {D : Addr → Prop}
theorem reps_strs : ∀ {ss : List Str} {vs : List V}, Reps K H D (ss.map .str) vs → vs = ss.map V.str
  | [], _, h => by unfold Reps at h; exact h
  | s :: ss, _, h => by
    rw [List.map_cons] at h
    unfold Reps at h
    obtain ⟨v, r, e, h1, h2⟩ := h
    rw [e, reps_strs h2, (rr_str h1.readable).1]; rfl
theorem strs_reps : ∀ {ss : List Str}, (∀ s ∈ ss, s.length ≤ sizeLine) → Reps K H D (ss.map .str) (ss.map V.str)
  | [], _ => Reps.nil
  | s :: ss, h => Reps.cons (Rep.str (h s (by simp))) (strs_reps fun z hz => h z (by simp [hz]))
end
section
variable {X : Cx} {P : BP} {o e a b : Expr} {es : List Expr} {to te ta tb : TE3} {t : TA3} {apos cpos pos p : Pos} {name : Str} {id T : String} {w : PV → RnT}
/-! ### methods that answer -/
def wEnds : PV → RnT := fun x ps k => match x, ps with
  | .str a, [.str b] => k (.bl (Txt.endswith a b))
  | _, _ => False
theorem mt3_endswith : MtR X "str.endswith" (lMt X.K wEnds) := MtR.imp mt_endswith fun x vs H Q ⟨D, px, ps, Q3, dD, r, rs, w, k⟩ => by
  unfold wEnds at w
  split at w
  · obtain ⟨v, rfl, ry⟩ := paired1 rs
    rw [(rr_str r).1, (rr_str ry).1]
    exact ⟨_, _, rfl, rfl, k.here w Rep.bl⟩
  · exact w.elim
def wSIdx : PV → RnT := fun x ps k => match x, ps with
  | .str a, [.str b] => optW (Builtin.Str.occurrences a b 0 a.length 1).head? fun i => k (.int (i : Int))
  | _, _ => False
theorem mt3_sindex : MtR X "str.index" (lMt X.K wSIdx) := MtR.imp mt_sindex fun x vs H Q ⟨D, px, ps, Q3, dD, r, rs, w, k⟩ => by
  unfold wSIdx at w
  split at w
  · rename_i a b
    obtain ⟨v, rfl, ry⟩ := paired1 rs
    rw [(rr_str r).1, (rr_str ry).1]
    obtain ⟨i, ei, q⟩ := optW_of w
    cases eo : Builtin.Str.occurrences a b 0 a.length 1 with
    | nil => rw [eo] at ei; cases ei
    | cons j rest =>
      rw [eo] at ei
      cases ei
      exact ⟨_, _, _, _, rfl, rfl, eo, k.here q Rep.int⟩
  · exact w.elim
def wJoin : PV → RnT := fun x ps k => match x, ps with
  | .str a, [y] => seqW y fun ys => optW (strsOf ys) fun ss => (ss.map (·.length)).sum + ss.length * a.length ≤ 16777216 ∧ k (.str (Txt.join a ss))
  | _, _ => False
theorem mt3_join : MtR X "str.join" (lMt X.K wJoin) := MtR.imp mt_join fun x vs H Q ⟨D, px, ps, Q3, dD, r, rs, w, k⟩ => by
  unfold wJoin at w
  split at w
  · rename_i a y
    obtain ⟨v, rfl, ry⟩ := paired1 rs
    rw [(rr_str r).1]
    have fin : ∀ ss : List Str, ((ss.map (·.length)).sum + ss.length * a.length ≤ 16777216 ∧ Q3 (.str (Txt.join a ss))) → Q (.str (Txt.join a ss)) H := fun ss w => by
      refine k.here w.2 (Rep.str ?_)
      have := StrLaws.join_length_le a ss
      rw [TL.join_eq, sizeLine_eq]
      omega
    rcases seqW_of w with ⟨ys, rfl, w⟩ | ⟨ys, rfl, w⟩
    · obtain ⟨ss, es, w⟩ := optW_of w
      obtain ⟨p, us, rfl, t, z, rr⟩ := rr_lst ry
      rw [strsOf_of es] at rr
      rw [reps_strs rr] at t
      exact ⟨_, p, ss, rfl, rfl, .inl t, w.1, fin ss w⟩
    · obtain ⟨ss, es, w⟩ := optW_of w
      obtain ⟨p, us, rfl, t, z, rr⟩ := rr_tup ry
      rw [strsOf_of es] at rr
      rw [reps_strs rr] at t
      exact ⟨_, p, ss, rfl, rfl, .inr t, w.1, fin ss w⟩
  · exact w.elim
/-! ### a method that gives a fresh list -/
def lMtO (K : PySem.W.Frag) (w : PV → RnT) : V → List V → Hp → VK → Prop := fun x vs H Q => ∃ D px ps Q3, (∀ b, D b → Th H b) ∧ RepR K H D px x ∧ Paired (RepR K H D) ps vs ∧ w px ps Q3 ∧ PostO K H D Q3 Q
theorem po3_mt (pa : PlainAttrs T) (slot : PySem.Slot T name id) (hty : typeOf (.builtin id) = pure (.type "method_descriptor")) (hm : MtR X id (lMtO X.K w)) (ho : PB3 X P o to) (ha : PAB3 X P (e :: es) t)
    (hbase : attributeBase o name X.env (eval o X.env) = eval o X.env := by rfl)
    (hfew : ((backTo cpos (starEach (e :: es) X.env)).all (fun x => !x.1) && (backToKw cpos (keywordEach [] X.env)).all (fun x => x.1.isSome) && decide ((e :: es).length + ([] : List Keyword).length + (if ([] : List Keyword).isEmpty then 0 else 1) < 30)) = true := by rfl)
    (hline : (apos.endLine == cpos.line) = true := by rfl) (hs : starEach (e :: es) X.env = (false, eval e X.env) :: starEach es X.env := by rfl) (hplain : (backTo cpos (starEach es X.env)).any (·.1) = false := by rfl) :
    PO3 X P (.Call (.Attribute o name apos) (e :: es) [] cpos) (tMt3 T w to t) := fun B hB =>
  PE.imp (pe_bm pa slot hty hm (ho B hB) (ha B hB) hbase hfew hline hs hplain) fun τ H Q ⟨σ, M, oa, Q3, R, w, k⟩ => ⟨σ, M, oa, _, R, w, fun x M1 v H1 q1 R1 f1 r1 => ⟨tyP_rep (r1.readable R1) q1.1, σ, M1, oa, _, R1, q1.2, fun ps M2 vs H2 q2 R2 f2 r2 =>
    ⟨_, _, _, _, R2.mem.dom, (r1.fr f2).readable R2, rd_all R2 r2, q2, fun ys p us qz hp hz rz => by
      obtain ⟨F, f3⟩ := R2.newList hp rz hz
      exact k _ M2 _ _ qz F ((f1.trans f2).trans f3)⟩⟩⟩
def wSplit : PV → RnT := fun x ps k => match x, ps with
  | .str a, [.str b] => ((b.length == 0) = false ∧ a.length + 2 ≤ 16777216 ∧ (Txt.split a b).length ≤ 16777216 ∧ ∀ s ∈ Txt.split a b, s.length ≤ 16777216) ∧ k (.lst ((Txt.split a b).map .str))
  | _, _ => False
theorem mt3_split : MtR X "str.split" (lMtO X.K wSplit) := MtR.imp mt_split fun x vs H Q ⟨D, px, ps, Q3, dD, r, rs, w, k⟩ => by
  unfold wSplit at w
  split at w
  · rename_i a b
    obtain ⟨v, rfl, ry⟩ := paired1 rs
    rw [(rr_str r).1, (rr_str ry).1]
    obtain ⟨⟨h1, h2, h3, h4⟩, q⟩ := w
    refine ⟨a, b, rfl, rfl, h1, by rw [sizeLine_eq]; exact h2, fun p hp => k _ p _ q hp ?_ (strs_reps fun s hs => ?_)⟩
    · rw [List.length_map, sizeLine_eq]; exact h3
    · rw [sizeLine_eq]; exact h4 s hs
  · exact w.elim
/-! ### str(n), int(text), list(text), text * n -/
def rStr3 : RnT := rOne fun x k => intW x fun i => i.natAbs.log2 < 1920 ∧ k (.str (toString i))
theorem call3_str : Call3 X (.type "str") rStr3 := CallR.imp call_str_int fun xs H Q ⟨D, ps, Q3, dD, rs, w, k⟩ => by
  obtain ⟨x, rfl, w⟩ := rOne_of w
  obtain ⟨v, rfl, r⟩ := paired1 rs
  obtain ⟨i, rfl, w⟩ := intW_of w
  rw [rr_int r]
  exact ⟨i, rfl, w.1, k.here w.2 (Rep.str (int_text_fits w.1))⟩
def rIntS : RnT := rOne fun x k => match x with
  | .int i => k (.int i)
  | .str a => a.length ≤ 640 ∧ optW (PySem.intText? a) fun n => k (.int n)
  | _ => False
theorem call3_intS : Call3 X (.type "int") rIntS := CallR.imp (call_int1.or call_int_str) fun xs H Q ⟨D, ps, Q3, dD, rs, w, k⟩ => by
  obtain ⟨x, rfl, w⟩ := rOne_of w
  obtain ⟨v, rfl, r⟩ := paired1 rs
  cases x <;> first | exact w.elim | skip
  · rename_i i _
    rw [rr_int r]
    exact .inl (.inl ⟨i, rfl, k.here w Rep.int⟩)
  · rename_i a _
    rw [(rr_str r).1]
    obtain ⟨n, e, q⟩ := optW_of w.2
    exact .inr ⟨a, n, rfl, e, w.1, k.here q Rep.int⟩
def rSMul3 : R2T := fun x y k => match x, y with
  | .str a, .int n => (MulOk a n ∧ (Txt.mul a n).length ≤ 16777216) ∧ k (.str (Txt.mul a n))
  | _, _ => False
theorem op3_smul : Op3 X (binaryOp .Mult) rSMul3 := fun pins s σ H x y v u Q I rx ry ⟨D, px, py, Q3, dD, r1, r2, w, k⟩ => by
  unfold rSMul3 at w
  split at w
  · rename_i a n
    rw [(rr_str r1).1] at rx
    rw [rr_int r2] at ry
    obtain ⟨t, rfl⟩ := rx
    obtain ⟨t', rfl⟩ := ry
    exact SB.mul w.1.1 fun t' k' => ⟨.str _, H, I.tok _, ⟨_, rfl⟩, k.here w.2 (Rep.str (by rw [sizeLine_eq]; exact w.1.2))⟩
  · exact w.elim
/-! ### list(text), slices, sign by sign -/
def signs (x : Str) : List Str := x.cps.toList.map fun c => ⟨#[c]⟩
theorem signs_S (l : List Nat) : signs (SX.S l) = l.map fun c => SX.S [c] := rfl
theorem sign_short {x s : Str} (h : s ∈ signs x) : s.length ≤ sizeLine := by
  obtain ⟨c, _, rfl⟩ := List.mem_map.mp h
  show 1 ≤ _
  rw [sizeLine_eq]; decide
def rListS : RnT := rOne fun x k => strW x fun s => s.length ≤ 16777216 ∧ k (.lst ((signs s).map .str))
theorem callO3_listS (hc : X.calm = true) : CallO3 X (.type "list") rListS := fun pins s σ H vs us Q I r ⟨D, ps, Q3, dD, rs, w, k⟩ => by
  obtain ⟨x, rfl, w⟩ := rOne_of w
  obtain ⟨v, rfl, rx⟩ := paired1 rs
  obtain ⟨z, rfl, hz, q⟩ := strW_of w
  rw [(rr_str rx).1] at r
  obtain ⟨u, rfl, ru⟩ := vals1 r
  obtain ⟨t, rfl⟩ := ru
  refine call_list_str (I.ok.hd hc) z t (fun h' tk acc c hk hg hi => ?_) (by rw [sizeLine_eq]; exact hz)
  have vl : Vals ((signs z).map V.str) acc.toList := by
    have : ∀ (cs : List Nat) (us : List Value), cs.length = us.length → (∀ (j : Nat) c v, cs[j]? = some c → us[j]? = some v → ∃ t, v = .str ⟨#[c]⟩ t) → Vals ((cs.map fun c => (⟨#[c]⟩ : Str)).map V.str) us := by
      intro cs
      induction cs with
      | nil => intro us hl _; cases us with
        | nil => exact .nil
        | cons => simp at hl
      | cons c cs ih =>
        intro us hl h
        cases us with
        | nil => simp at hl
        | cons u us =>
          obtain ⟨t, rfl⟩ := h 0 c u rfl rfl
          exact .cons ⟨t, rfl⟩ (ih us (by simpa using hl) fun j c v h1 h2 => h (j + 1) c v (by simpa using h1) (by simpa using h2))
    refine this z.cps.toList acc.toList (by rw [Array.length_toList, Array.length_toList, hi.1]) fun j c v h1 h2 => ?_
    rw [Array.getElem?_toList] at h1 h2
    obtain ⟨c', t, e1, e2⟩ := hi.2 j v h2
    rw [h1] at e1
    cases e1
    exact ⟨t, e2⟩
  have hl : ((signs z).map V.str).length ≤ sizeLine := by
    rw [List.length_map, signs, List.length_map, Array.length_toList, sizeLine_eq]; exact hz
  exact ⟨.ref _, upd H s.heap.objs.size (.lst ((signs z).map V.str)), I.laid (t' := tk) hk (Nat.le_refl _) ⟨hl, acc.toList, c, vl, by simpa using hg⟩, rfl, k _ _ _ q (I.hok.fresh (Nat.le_refl _)) hl (strs_reps fun s hs => sign_short hs)⟩
def lSlS (K : PySem.W.Frag) : V → Option Int → Option Int → Hp → VK → Prop := fun x lo hi H Q => ∃ D px Q3, (∀ b, D b → Th H b) ∧ RepR K H D px x ∧ (strW px fun z => Q3 (.str (cutS z lo hi))) ∧ Post3 K H D Q3 Q
theorem cutS_len (z : Str) (lo hi : Option Int) : (cutS z lo hi).length ≤ z.length := by
  unfold cutS
  show (_ : List Nat).toArray.size ≤ _
  rw [List.size_toArray, List.length_take, List.length_drop]
  have : z.cps.toList.length = z.length := Array.length_toList
  omega
theorem sl3_str : SlR X (lSlS X.K) := fun pins s σ H x v vl vu lo hi sl Q I rx hs pl pu ⟨D, px, Q3, dD, r, w, k⟩ => by
  obtain ⟨z, rfl, q⟩ := strW_of w
  obtain ⟨e, hz⟩ := rr_str r
  refine sl_str pins s σ H x v vl vu lo hi sl Q I rx hs pl pu ⟨z, e, hz, k.here q (Rep.str (Nat.le_trans (cutS_len _ _ _) hz))⟩
def tSlS3 (te : TE3) (tl th : TP3) : TE3 := fun σ M Q => te σ M fun x M1 => tl σ M1 fun l M2 => th σ M2 fun u M3 => strW (look M3 x) fun z => Q (.str (cutS z l u)) M3
theorem pe3_sliceS {lo hi : Option Expr} {tl th : TP3} {p2 : Pos} (he : PB3 X P e te) (hl : PP3 X P lo tl) (hh : PP3 X P hi th) : PE3 X P (.Subscript e (.Slice lo hi none p2) pos) (tSlS3 te tl th) := fun B hB =>
  PE.imp (pe_slice sl3_str (he B hB) (hl B hB) (hh B hB)) fun τ H Q ⟨σ, M, oa, Q3, R, w, k⟩ => ⟨σ, M, oa, _, R, w, fun x M1 v H1 q1 R1 f1 r1 => ⟨σ, M1, oa, _, R1, q1, fun l M2 H2 q2 R2 f2 => ⟨σ, M2, oa, _, R2, q2, fun u M3 H3 q3 R3' f3 =>
    ⟨_, _, fun z => Q3 z M3, R3'.mem.dom, ((r1.fr f2).fr f3).readable R3', q3, fun z w H4 qz sm rz => k z M3 w H4 qz (R3'.same sm).1 (((f1.trans f2).trans f3).trans (R3'.same sm).2) rz⟩⟩⟩⟩
theorem it_str {K : PySem.W.Frag} {x : Str} {H0 : Hp} {D0 : Addr → Prop} : ItOk K (Its x) ((signs x).map .str) H0 D0 := fun H D i f d => by
  have l : ((signs x).map PV.str).length = x.cps.size := by rw [List.length_map, signs, List.length_map, Array.length_toList]
  rw [l]
  refine ⟨fun hi => ⟨hi, fun v H' ⟨e1, c, e2, e3⟩ => ?_⟩, fun hi => Nat.le_of_eq hi⟩
  subst e1; subst e3
  refine ⟨fun _ _ z => z, .str ⟨#[c]⟩, ?_, Rep.str (by show 1 ≤ _; rw [sizeLine_eq]; decide)⟩
  rw [List.getElem?_map, signs, List.getElem?_map, Array.getElem?_toList, e2]; rfl
def iStr3 (te : TE3) : TI3 := fun σ M Q => te σ M fun x M1 => strW x fun s => Q ((signs s).map .str) M1
theorem pi3_str {tg : Expr} (h : PE3 X P e te) : PI3 X P tg e (iStr3 te) := fun B hB =>
  PI.imp (pi_str (h B hB)) fun τ H R ⟨σ, M, oa, Q3, RR, w, k⟩ => ⟨σ, M, oa, _, RR, w, fun x M1 v H1 q1 R1 f1 r1 => by
    obtain ⟨s, rfl, q⟩ := strW_of q1
    have r2 := rr_str r1.readable
    refine ⟨s, r2.1, k _ M1 _ H1 q R1 f1 ?_ it_str⟩
    rw [List.length_map, signs, List.length_map, Array.length_toList]; exact r2.2⟩
def gLst3 (n : Nat) (gs : TGs3) : TG3 := fun x σ M Q => match x with
  | .lst xs => xs.length = n ∧ gs xs σ M Q
  | _ => False
theorem pg3_lst {k : Nat} {n : Nat} {gs : TGs3} {ws : List Nat} (hc : X.calm = true) (h : PGs3 X P es gs ws) (hn : (assignEach es X.env).length = n := by rfl) (hst : (assignEach es X.env).findIdx? (·.1) = none := by rfl) : PG3 X P (.Tuple es k pos) (gLst3 n gs) ws := fun B hB =>
  PG.imp (pg_lst hc (h B hB) hn hst) fun v τ H Q ⟨x, σ, M, oa, Q3, R, r, w, k⟩ => by
    unfold gLst3 at w
    split at w
    · rename_i xs
      unfold Rep at r
      obtain ⟨a, vs, e, t, z, rr⟩ := r
      exact ⟨a, vs, e, t.sq, by rw [rr.len]; exact w.1, xs, σ, M, oa, Q3, R, rr, w.2, k⟩
    · exact w.elim
@[simp] theorem e_gl {n : Nat} {gs : TGs3} {xs : List PV} {σ : Sl} {M : Mem} {QG : Sl → Mem → Prop} : gLst3 n gs (.lst xs) σ M QG = (xs.length = n ∧ gs xs σ M QG) := rfl
@[simp] theorem e_strW {s : Str} {k : Str → Prop} : strW (.str s) k = k s := rfl
@[simp] theorem e_str3 {x : PV} {k : PV → Prop} : rStr3 [x] k = intW x fun i => i.natAbs.log2 < 1920 ∧ k (.str (toString i)) := rfl
@[simp] theorem e_intSS {a : Str} {k : PV → Prop} : rIntS [.str a] k = (a.length ≤ 640 ∧ optW (PySem.intText? a) fun n => k (.int n)) := rfl
@[simp] theorem e_smul {a : Str} {n : Int} {k : PV → Prop} : rSMul3 (.str a) (.int n) k = ((MulOk a n ∧ (Txt.mul a n).length ≤ 16777216) ∧ k (.str (Txt.mul a n))) := rfl
@[simp] theorem e_listS {a : Str} {k : PV → Prop} : rListS [.str a] k = (a.length ≤ 16777216 ∧ k (.lst ((signs a).map .str))) := rfl
@[simp] theorem e_slS {te : TE3} {tl th : TP3} {σ : Sl} {M : Mem} {Q : PV → Mem → Prop} : tSlS3 te tl th σ M Q = te σ M fun x M1 => tl σ M1 fun l M2 => th σ M2 fun u M3 => strW (look M3 x) fun z => Q (.str (cutS z l u)) M3 := rfl
@[simp] theorem e_iStr {te : TE3} {σ : Sl} {M : Mem} {QI : List PV → Mem → Prop} : iStr3 te σ M QI = te σ M fun x M1 => strW x fun s => QI ((signs s).map .str) M1 := rfl
@[simp] theorem e_wEnds {a b : Str} {k : PV → Prop} : wEnds (.str a) [.str b] k = k (.bl (Txt.endswith a b)) := rfl
@[simp] theorem e_wSplit {a b : Str} {k : PV → Prop} : wSplit (.str a) [.str b] k = (((b.length == 0) = false ∧ a.length + 2 ≤ 16777216 ∧ (Txt.split a b).length ≤ 16777216 ∧ ∀ s ∈ Txt.split a b, s.length ≤ 16777216) ∧ k (.lst ((Txt.split a b).map .str))) := rfl
@[simp] theorem e_wJoin {a : Str} {y : PV} {k : PV → Prop} : wJoin (.str a) [y] k = seqW y fun ys => optW (strsOf ys) fun ss => (ss.map (·.length)).sum + ss.length * a.length ≤ 16777216 ∧ k (.str (Txt.join a ss)) := rfl
@[simp] theorem e_wSIdx {a b : Str} {k : PV → Prop} : wSIdx (.str a) [.str b] k = optW (Builtin.Str.occurrences a b 0 a.length 1).head? fun i => k (.int (i : Int)) := rfl
@[simp] theorem e_addS {a b : Str} {k : PV → Prop} : rAdd3 (.str a) (.str b) k = (a.length + b.length ≤ 16777216 ∧ k (.str (a ++ b))) := rfl
@[simp] theorem e_ixS {s : Str} {i : Int} {k : PV → Prop} : rIx3 (.str s) (.int i) k = optW (atI s.cps.toList i) fun c => k (.str ⟨#[c]⟩) := rfl
@[simp] theorem e_tyS {s : Str} : tyP "str" (.str s) = ("str" = "str") := rfl
end
end T3

namespace Y
open PySem PySem.Spec PyProof.Rows L2 T3
/-- the addresses of the classes and defs of any law's text -/
structure Ad where
  c_YardError : Addr
  c_BadDays : Addr
  c_BadHands : Addr
  c_BadBoats : Addr
  c_BadYard : Addr
  c_BadCut : Addr
  c_BadBoat : Addr
  c_BadHand : Addr
  c_BadWages : Addr
  c_BadKeels : Addr
  c_BadSlips : Addr
  c_BadStays : Addr
  c_BadTides : Addr
  c_BadDay : Addr
  c_BadDraught : Addr
  c_BadOrder : Addr
  c_BadText : Addr
  c_BadCommand : Addr
  c_NoPlan : Addr
  c_Yard : Addr
  c_Net : Addr
  c_Launch : Addr
  c_Desk : Addr
  f_plan_for : Addr
  f_can_launch : Addr
  f_most_work : Addr
  f_asked_by : Addr
  f_held_by : Addr
  f_cut_for : Addr
  f_short_by : Addr
  f_worst_cut : Addr
  f_bears : Addr
  f_cut_against : Addr
  f_spare_days : Addr
  f_weak_boats : Addr
  f_bears_any : Addr
  f_plans_for_delays : Addr
  f_more_hands : Addr
  f_fair_days : Addr
  f_fair_plan : Addr
  f_fewest_hands : Addr
  f_needless_hands : Addr
  f_cheap_plan : Addr
  f_least_wages : Addr
  f_prices_for : Addr
  f_soonest_tide : Addr
  f_latest_laid : Addr
  f_turned : Addr
  f_least_yard : Addr
  f_same_yard : Addr
  f_crafts_for : Addr
  f_slip_days : Addr
  f_slip_cut : Addr
  f_least_berths : Addr
  f_busiest : Addr
  f_berths_for : Addr
/-! ## plain values -/
def plain : PV → Bool | .raw _ => false | .ins _ _ _ => false | _ => true
def okInt : PV → Bool | .int _ => true | _ => false
def within (lo hi : Int) : PV → Bool | .int i => decide (lo ≤ i) && decide (i ≤ hi) | _ => false
def rowOf : PV → Option (List PV) | .lst xs => some xs | .tup xs => some xs | _ => none
def tupN (n : Int) : PV → Bool | .tup xs => decide ((xs.length : Int) = n) | _ => false
/-- each less than the next -/
def asc : List PV → Bool
  | .int i :: .int j :: r => decide (i < j) && asc (.int j :: r)
  | _ => true
def isSet (most : Int) : PV → Bool | .tup xs => xs.all (within 0 most) && asc xs | _ => false
/-- itself and its items plain -/
def plain2 (x : PV) : Bool := plain x && match rowOf x with
  | some xs => xs.all plain
  | none => true
/-- three deep -/
def plain3 (x : PV) : Bool := plain x && match rowOf x with
  | some xs => xs.all plain2
  | none => true
def plain4 (x : PV) : Bool := plain x && match rowOf x with
  | some xs => xs.all plain3
  | none => true
theorem plain_look {M : Mem} {x : PV} (h : plain x = true) : look M x = x := by
  cases x <;> first | rfl | cases h
theorem plain2_1 {x : PV} (h : plain2 x = true) : plain x = true := (Bool.and_eq_true _ _ ▸ h).1
theorem plain3_2 {x : PV} (h : plain3 x = true) : plain2 x = true := by
  unfold plain3 at h; unfold plain2
  rw [Bool.and_eq_true] at h ⊢
  refine ⟨h.1, ?_⟩
  cases e : rowOf x with
  | none => rfl
  | some xs =>
    rw [e] at h
    exact List.all_eq_true.mpr fun y hy => plain2_1 (List.all_eq_true.mp h.2 y hy)
theorem plain4_3 {x : PV} (h : plain4 x = true) : plain3 x = true := by
  unfold plain4 at h; unfold plain3
  rw [Bool.and_eq_true] at h ⊢
  refine ⟨h.1, ?_⟩
  cases e : rowOf x with
  | none => rfl
  | some xs =>
    rw [e] at h
    exact List.all_eq_true.mpr fun y hy => plain3_2 (List.all_eq_true.mp h.2 y hy)
theorem seqW_row {x : PV} {ys : List PV} {k : List PV → Prop} (h : rowOf x = some ys) : seqW x k = k ys := by
  cases x <;> first | (cases h; done) | (cases h; rfl)
/-! ## the law's own helpers -/
def RowAt (M : Mem) (a : Addr) : Prop := ∃ (ns : List Int) (i m q : Int), M a = some (.lst [.lst (ns.map .int), .int i, .int m, .int q]) ∧ 0 ≤ i
def Els (a : Addr) (M M' : Mem) : Prop := ∀ b, b ≠ a → M' b = M b
def okA : Nat → PV → Bool
  | 0, _ => false
  | _ + 1, .non => true
  | _ + 1, .bl _ => true
  | _ + 1, .int _ => true
  | _ + 1, .str _ => true
  | n + 1, .tup xs => decide (xs.length ≤ 16777216) && xs.all (okA n)
  | n + 1, .lst xs => decide (xs.length ≤ 16777216) && xs.all (okA n)
  | _ + 1, _ => false
/-- doubles that stand side by side left out -/
def uniqP : List PV → List PV → List PV
  | acc, [] => acc
  | acc, x :: xs => uniqP (if acc = [] ∨ eqP (acc.getLastD .non) x = false then acc ++ [x] else acc) xs
section
def sp_is_integer (ad : Ad) : Sp3 := fun xs M Q _ => ∃ x, xs = [x] ∧ plain x = true ∧ Q (.bl (okInt x)) M
def sp_is_within (ad : Ad) : Sp3 := fun xs M Q _ => ∃ x lo hi, xs = [x, .int lo, .int hi] ∧ plain x = true ∧ Q (.bl (within lo hi x)) M
def sp_is_row (ad : Ad) : Sp3 := fun xs M Q _ => ∃ x, xs = [x] ∧ plain (look M x) = true ∧ Q (.bl (rowOf (look M x)).isSome) M
def sp_is_tuple_of (ad : Ad) : Sp3 := fun xs M Q _ => ∃ x many, xs = [x, .int many] ∧ plain x = true ∧ Q (.bl (tupN many x)) M
def sp_is_set (ad : Ad) : Sp3 := fun xs M Q _ => ∃ x most, xs = [x, .int most] ∧ plain2 x = true ∧ Q (.bl (isSet most x)) M
def sp__law_taken (ad : Ad) : Sp3 := fun xs M Q _ => ∃ a many, xs = [.raw (.ref a), .int many] ∧ RowAt M a ∧ (0 < many ∧ many < 18446744073709551616) ∧ ∀ v M', 0 ≤ v → v < many → RowAt M' a → Els a M M' → Q (.int v) M'
def sp__law_pick (ad : Ad) : Sp3 := fun xs M Q _ => ∃ a ys, xs = [.raw (.ref a), .lst ys] ∧ RowAt M a ∧ (0 < ys.length ∧ ys.length < 18446744073709551616) ∧ ∀ y M', y ∈ ys → RowAt M' a → Els a M M' → Q y M'
def sp__law_alike (ad : Ad) (n : Nat) : Sp3 := fun xs M Q _ => ∃ x, xs = [x, x] ∧ okA n x = true ∧ Q (.bl true) M
abbrev sp__law_alike4 (ad : Ad) : Sp3 := sp__law_alike ad 5
def sp__law_unlike (ad : Ad) : Sp3 := fun xs M Q _ => ∃ x ys, xs = [x] ∧ plain x = true ∧ rowOf x = some ys ∧ (alikeP ys ∧ sortable ys) ∧ (∀ y ∈ ys, dpt 50 y = true) ∧ ys.length ≤ 1000000 ∧ Q (.lst (uniqP [] (sortP ys))) M
end
end Y


namespace Y
open PySem PySem.Spec PyProof.Rows L2 T3
def t_is_integer (ad : Ad) (W : W3) : TS3 :=
 (tRet3 (tAndV3 (tIsi3 isInt (tVarB3 0)) (tNotV3 (tIsi3 isBool (tVarB3 0)))))
def t_is_within (ad : Ad) (W : W3) : TS3 :=
 (tRet3 (tAndV3 (tCall3 (sp_is_integer ad) W (tCons3 (tVar3 0) tNil3)) (tChain3 rLeX rLeX (tVarB3 1) (tVarB3 0) (tVarB3 2))))
def t_is_row (ad : Ad) (W : W3) : TS3 :=
 (tRet3 (tIsi2 isLst isTup (tVarB3 0)))
def t_is_tuple_of (ad : Ad) (W : W3) : TS3 :=
 (tRet3 (tAndV3 (tIsi3 isTup (tVarB3 0)) (tOp3 rEq3 (tCB3 rLen3 (tCons3 (tVarB3 0) tNil3)) (tVarB3 1))))
def t_is_set (ad : Ad) (W : W3) : TS3 :=
 (tSeq3 (tIfS3 (tOr3 (tNot3 (tTru3 (tIsi3 isTup (tVarB3 0)))) (tNot3 (tTru3 (tCB3 rAll3 (tCons3 (tComp3 (iSeq3 (tVar3 0)) (gName3 2) tYes3 (tCall3 (sp_is_within ad) W0 (tCons3 (tVar3 2) (tCons3 (tC3 (.int 0)) (tCons3 (tVar3 1) tNil3)))) [2]) tNil3))))) (tRet3 (tC3 (.bl false))) tNext3)
 (tRet3 (tCB3 rAll3 (tCons3 (tComp3 (iZp3 (tCons3 (tVar3 0) (tCons3 (tSl3 (tVarB3 0) (tP3 (tC3 (.int 1))) tNoP3) tNil3))) (gTup3 2 (gCons3 (gName3 2) (gCons3 (gName3 3) gNil3))) tYes3 (tOp3 rLtX (tVarB3 2) (tVarB3 3)) [2, 3]) tNil3))))
def t__law_taken (ad : Ad) (W : W3) : TS3 :=
 (tSeq3 (tIfS3 (tTest3 (tOp3 rGtX (tOp3 rIx3 (tVarB3 0) (tC3 (.int 3))) (tC3 (.int 0)))) (tSeq3 (tSet3 3 (tOp3 rMod3 (tCB3 rInt3 (tCons3 (tOp3 rIx3 (tVarB3 0) (tC3 (.int 3))) tNil3)) (tVarB3 1)))
 (tSeq3 (tIxM3 (tOp3 rDiv3 (tOp3 rIx3 (tVarB3 0) (tC3 (.int 3))) (tVarB3 1)) (tVar3 0) (tC3 (.int 3)))
 (tRet3 (tVarB3 3)))) tNext3)
 (tSeq3 (tIxM3 (tOp3 rAdd3 (tOp3 rIx3 (tVarB3 0) (tC3 (.int 1))) (tC3 (.int 1))) (tVar3 0) (tC3 (.int 1)))
 (tSeq3 (tIfS3 (tTest3 (tOp3 rGtX (tOp3 rIx3 (tVarB3 0) (tC3 (.int 1))) (tCB3 rLen3 (tCons3 (tOp3 rIx3 (tVarB3 0) (tC3 (.int 0))) tNil3)))) (tSeq3 (tIxM3 (tOp3 rMod3 (tCB3 rInt3 (tCons3 (tOp3 rAdd3 (tOp3 rMul3 (tOp3 rIx3 (tVarB3 0) (tC3 (.int 2))) (tC3 (.int 48271))) (tC3 (.int 11))) tNil3)) (tC3 (.int 2147483647))) (tVar3 0) (tC3 (.int 2)))
 (tRet3 (tOp3 rMod3 (tCB3 rInt3 (tCons3 (tOp3 rDiv3 (tOp3 rIx3 (tVarB3 0) (tC3 (.int 2))) (tC3 (.int 7))) tNil3)) (tVarB3 1)))) tNext3)
 (tSeq3 (tSet3 2 (tOp3 rIx3 (tOp3 rIx3 (tVarB3 0) (tC3 (.int 0))) (tOp3 rSub3 (tOp3 rIx3 (tVarB3 0) (tC3 (.int 1))) (tC3 (.int 1)))))
 (tSeq3 (tIxM3 (tOp3 rMod3 (tCB3 rInt3 (tCons3 (tOp3 rAdd3 (tOp3 rAdd3 (tOp3 rMul3 (tOp3 rIx3 (tVarB3 0) (tC3 (.int 2))) (tC3 (.int 48271))) (tVarB3 2)) (tC3 (.int 11))) tNil3)) (tC3 (.int 2147483647))) (tVar3 0) (tC3 (.int 2)))
 (tSeq3 (tIfS3 (tTest3 (tOp3 rGeX (tVarB3 2) (tOp3 rPow3 (tC3 (.int 10)) (tC3 (.int 18))))) (tIxM3 (tOp3 rDiv3 (tVarB3 2) (tVarB3 1)) (tVar3 0) (tC3 (.int 3))) tNext3)
 (tRet3 (tOp3 rMod3 (tCB3 rInt3 (tCons3 (tVarB3 2) tNil3)) (tVarB3 1)))))))))
def t__law_pick (ad : Ad) (W : W3) : TS3 :=
 (tRet3 (tOp3 rIx3 (tVarB3 1) (tCall3 (sp__law_taken ad) W (tCons3 (tVar3 0) (tCons3 (tCB3 rLen3 (tCons3 (tVarB3 1) tNil3)) tNil3)))))
def t__law_alike (ad : Ad) (nn : Nat) (W : W3) : TS3 :=
 (tSeq3 (tIfS3 (tTru3 (tIsi2 isTup isLst (tVarB3 1))) (tSeq3 (tIfS3 (tOr3 (tNot3 (tTru3 (tIsi2 isTup isLst (tVarB3 0)))) (tTest3 (tOp3 rNe3 (tIsi3 isLst (tVarB3 0)) (tIsi3 isLst (tVarB3 1))))) (tRet3 (tC3 (.bl false))) tNext3)
 (tSeq3 (tIfS3 (tTest3 (tOp3 rNe3 (tCB3 rLen3 (tCons3 (tVarB3 0) tNil3)) (tCB3 rLen3 (tCons3 (tVarB3 1) tNil3)))) (tRet3 (tC3 (.bl false))) tNext3)
 (tRet3 (tOp3 rEq3 (tComp3 (iRange1 (tCons3 (tCB3 rLen3 (tCons3 (tVarB3 1) tNil3)) tNil3)) (gName3 2) (tNot3 (tTru3 (tCall3 (sp__law_alike ad nn) W0 (tCons3 (tOp3 rIx3 (tVarB3 0) (tVarB3 2)) (tCons3 (tOp3 rIx3 (tVarB3 1) (tVarB3 2)) tNil3))))) (tVar3 2) [2]) (tLst3 tNil3))))) tNext3)
 (tSeq3 (tIfS3 (tTru3 (tIsi3 isDic (tVarB3 1))) (tSeq3 (tIfS3 (tOr3 (tNot3 (tTru3 (tIsi3 isDic (tVarB3 0)))) (tTest3 (tOp3 rNe3 (tCB3 rList3 (tCons3 (tVarB3 0) tNil3)) (tCB3 rList3 (tCons3 (tVarB3 1) tNil3))))) (tRet3 (tC3 (.bl false))) tNext3)
 (tRet3 (tOp3 rEq3 (tComp3 (iSeq3 (tVar3 1)) (gName3 3) (tNot3 (tTru3 (tCall3 (sp__law_alike ad nn) W0 (tCons3 (tOp3 rIx3 (tVarB3 0) (tVarB3 3)) (tCons3 (tOp3 rIx3 (tVarB3 1) (tVarB3 3)) tNil3))))) (tVar3 3) [3]) (tLst3 tNil3)))) tNext3)
 (tSeq3 (tIfS3 (tOr3 (tTest3 (tOp3 rIsN3 (tVarB3 1) (tC3 .non))) (tTru3 (tIsi3 isStr (tVarB3 1)))) (tRet3 (tAndV3 (tOp3 rEq3 (tVarB3 0) (tVarB3 1)) (tOp3 rEq3 (tIsi3 isStr (tVarB3 0)) (tIsi3 isStr (tVarB3 1))))) tNext3)
 (tRet3 (tAndV3 (tIsi3 isInt (tVarB3 0)) (tAndV3 (tOp3 rEq3 (tIsi3 isBool (tVarB3 0)) (tIsi3 isBool (tVarB3 1))) (tOp3 rEq3 (tVarB3 0) (tVarB3 1))))))))
def b1__law_unlike (ad : Ad) (W : W3) : TS3 :=
 (tIfS3 (tOr3 (tTest3 (tOp3 rEq3 (tVarB3 1) (tLst3 tNil3))) (tTest3 (tOp3 rNe3 (tOp3 rIx3 (tVarB3 1) (tUn3 rNeg3 (tC3 (.int 1)))) (tVarB3 2)))) (tMtO3 1 wApp (tCons3 (tVar3 2) tNil3)) tNext3)
def t__law_unlike (ad : Ad) (W : W3) : TS3 :=
 (tSeq3 (tSetO3 1 (tLst3 tNil3))
 (tSeq3 (tFor3 (iLst3 (tCB3 rSortX (tCons3 (tCB3 rList3 (tCons3 (tVarB3 0) tNil3)) tNil3))) (gName3 2) (b1__law_unlike ad W))
 (tFrz3 1 (tRet3 (tVarB3 1)))))
end Y

namespace Y
open PySem PySem.Spec PyProof.Rows L2 T3
/-! ## what the readings come to -/
abbrev Sem (sp : Sp3) (N : Nat) (t : W3 → TS3) : Prop := ∀ xs M Q E, sp xs M Q E → t (clW E) { nx := fun _ M' => clQ Q .non M', rt := clQ Q } (xs.map Slot.val ++ List.replicate (N - xs.length) Slot.un) M
variable {ad : Ad}
section
variable {x : PV} {n lo hi : Int} {M : Mem} {Q : PV → Mem → Prop} {E : W3}
@[simp] theorem s_is_integer : sp_is_integer ad [x] M Q E = (plain x = true ∧ Q (.bl (okInt x)) M) := by simp [sp_is_integer]
@[simp] theorem s_is_within : sp_is_within ad [x, .int lo, .int hi] M Q E = (plain x = true ∧ Q (.bl (within lo hi x)) M) := propext ⟨fun ⟨_, _, _, h, p, q⟩ => (by cases h; exact ⟨p, q⟩), fun ⟨p, q⟩ => ⟨_, _, _, rfl, p, q⟩⟩
@[simp] theorem s_is_row : sp_is_row ad [x] M Q E = (plain (look M x) = true ∧ Q (.bl (rowOf (look M x)).isSome) M) := by simp [sp_is_row]
@[simp] theorem s_is_tuple_of : sp_is_tuple_of ad [x, .int n] M Q E = (plain x = true ∧ Q (.bl (tupN n x)) M) := propext ⟨fun ⟨_, _, h, p, q⟩ => (by cases h; exact ⟨p, q⟩), fun ⟨p, q⟩ => ⟨_, _, rfl, p, q⟩⟩
@[simp] theorem s_is_set : sp_is_set ad [x, .int n] M Q E = (plain2 x = true ∧ Q (.bl (isSet n x)) M) := propext ⟨fun ⟨_, _, h, p, q⟩ => (by cases h; exact ⟨p, q⟩), fun ⟨p, q⟩ => ⟨_, _, rfl, p, q⟩⟩
@[simp] theorem s__law_alike {n : Nat} : sp__law_alike ad n [x, x] M Q E = (okA n x = true ∧ Q (.bl true) M) := by simp [sp__law_alike]
end
theorem rAll_bools {bs : List Bool} {k : PV → Prop} : rAll3 [.lst (bs.map .bl)] k = k (.bl (bs.all id)) := by
  show optW (boolsOf (bs.map .bl)) _ = _
  rw [boolsOf_map]; rfl
theorem rAny_bools {bs : List Bool} {k : PV → Prop} : rAny3 [.lst (bs.map .bl)] k = k (.bl (bs.any id)) := by
  show optW (boolsOf (bs.map .bl)) _ = _
  rw [boolsOf_map]; rfl
theorem rSum_ints {ns : List Int} {k : PV → Prop} : rSum3 [.lst (ns.map .int)] k = k (.int ns.sum) := by
  show optW (intsOf (ns.map .int)) _ = _
  rw [intsOf_map]; rfl
theorem map_bl {α : Type} (f : α → Bool) (xs : List α) : xs.map (fun x => PV.bl (f x)) = (xs.map f).map PV.bl := by simp
theorem all_id {α : Type} (f : α → Bool) (xs : List α) : (xs.map f).all id = xs.all f := by simp
theorem any_id {α : Type} (f : α → Bool) (xs : List α) : (xs.map f).any id = xs.any f := by simp
theorem within_int {lo hi : Int} {x : PV} (h : within lo hi x = true) : ∃ i, x = .int i ∧ lo ≤ i ∧ i ≤ hi := by
  cases x <;> first | (cases h; done) | skip
  rename_i i
  simp [within] at h
  exact ⟨i, rfl, h⟩
theorem all_within {lo hi : Int} : ∀ {xs : List PV}, xs.all (within lo hi) = true → ∃ ns : List Int, xs = ns.map .int ∧ ∀ n ∈ ns, lo ≤ n ∧ n ≤ hi
  | [], _ => ⟨[], rfl, by simp⟩
  | x :: xs, h => by
    rw [List.all_cons, Bool.and_eq_true] at h
    obtain ⟨i, rfl, hi⟩ := within_int h.1
    obtain ⟨ns, rfl, hn⟩ := all_within h.2
    exact ⟨i :: ns, rfl, fun n hn' => by
      rcases List.mem_cons.mp hn' with rfl | hn'
      · exact hi
      · exact hn n hn'⟩
def ascI : List Int → Bool
  | i :: j :: r => decide (i < j) && ascI (j :: r)
  | _ => true
theorem asc_ints : ∀ ns : List Int, asc (ns.map .int) = ascI ns
  | [] => rfl
  | [_] => rfl
  | i :: j :: r => by
    show (decide (i < j) && asc ((j :: r).map .int)) = _
    rw [asc_ints (j :: r)]; rfl
theorem zip_asc : ∀ ns : List Int, ((ns.zip (ns.drop 1)).map fun p => decide (p.1 < p.2)).all id = ascI ns
  | [] => rfl
  | [_] => rfl
  | i :: j :: r => by
    have := zip_asc (j :: r)
    simp only [List.drop_succ_cons, List.drop_zero, List.zip_cons_cons, List.map_cons, List.all_cons, id] at this ⊢
    rw [this]; rfl
theorem sem_is_integer : Sem (sp_is_integer ad) 1 (t_is_integer ad) := by
  rintro _ M Q E ⟨x, rfl, hp, q⟩
  cases x <;> first | (cases hp; done) | (simp [t_is_integer]; exact clQ.of q)
theorem sem_is_within : Sem (sp_is_within ad) 3 (t_is_within ad) := by
  rintro _ M Q E ⟨x, lo, hi, rfl, hp, q⟩
  simp [t_is_within]
  refine ⟨hp, ?_⟩
  cases x <;> first | (cases hp; done) | (simp [okInt]; exact clQ.of q) | skip
  rename_i i
  simp [okInt, within] at q ⊢
  split
  · rename_i h
    simp [h] at q
    exact clQ.of q
  · rename_i h
    simp [h] at q
    exact clQ.of q
theorem sem_is_row : Sem (sp_is_row ad) 1 (t_is_row ad) := by
  rintro _ M Q E ⟨x, rfl, hp, q⟩
  simp [t_is_row]
  generalize look M x = y at hp q ⊢
  cases y <;> first | (cases hp; done) | (simp; exact clQ.of q)
theorem sem_is_tuple_of : Sem (sp_is_tuple_of ad) 2 (t_is_tuple_of ad) := by
  rintro _ M Q E ⟨x, many, rfl, hp, q⟩
  cases x <;> first | (cases hp; done) | (simp [t_is_tuple_of]; exact clQ.of q)
theorem sem_is_set : Sem (sp_is_set ad) 4 (t_is_set ad) := by
  rintro _ M Q E ⟨x, most, rfl, hp, q⟩
  have hp1 := plain2_1 hp
  cases x <;> first | (cases hp1; done) | (simp [t_is_set]; exact clQ.of q) | skip
  rename_i xs
  have hx : ∀ y ∈ xs, plain y = true := by
    unfold plain2 at hp
    simp [rowOf, plain] at hp
    exact hp
  simp [t_is_set]
  refine comp_map (fun v => .bl (within 0 most v)) _ (fun v hv Qt Qf h => ?_) ?_
  · simp [turnW]
    exact ⟨hx v hv, h⟩
  rw [map_bl, e_lkL, rAll_bools, all_id]
  simp only [e_lkB, e_trB]
  replace q : Q (.bl (xs.all (within 0 most) && asc xs)) M := q
  by_cases c : xs.all (within 0 most) = true
  · rw [if_pos c]
    rw [c, Bool.true_and] at q
    obtain ⟨ns, rfl, hn⟩ := all_within c
    rw [asc_ints] at q
    rw [cut_from (by decide), ← List.map_drop, zipP_ints]
    refine comp_map (fun v => match v with | .tup [.int a, .int b] => .bl (decide (a < b)) | _ => .non) _ (fun v hv Qt Qf h => ?_) ?_
    · obtain ⟨p, _, rfl⟩ := List.mem_map.mp hv
      simpa [turnW] using h
    · rw [List.map_map]
      have e2 : (ns.zip (ns.drop 1)).map ((fun v => match v with | .tup [.int a, .int b] => .bl (decide (a < b)) | _ => .non) ∘ fun p => PV.tup [.int p.1, .int p.2]) = ((ns.zip (ns.drop 1)).map fun p => decide (p.1 < p.2)).map PV.bl := by
        rw [List.map_map]; rfl
      rw [show ((1 : Int).toNat) = 1 from rfl, e2, e_lkL, rAll_bools, zip_asc]
      exact clQ.of q
  · rw [if_neg c]
    rw [show xs.all (within 0 most) = false from by simpa using c, Bool.false_and] at q
    exact clQ.of q


/-! ### the law's helpers -/
theorem els_put {M : Mem} {a : Addr} {mo : MO} : Els a M (M.put a mo) := fun b hb => by simp [Mem.put, hb]
theorem Els.trans {a : Addr} {M M1 M2 : Mem} (h : Els a M M1) (h' : Els a M1 M2) : Els a M M2 := fun b hb => (h' b hb).trans (h b hb)
theorem Els.refl {a : Addr} {M : Mem} : Els a M M := fun _ _ => rfl
theorem look_put {M : Mem} {a : Addr} {xs : List PV} : look (M.put a (.lst xs)) (.raw (.ref a)) = .lst xs := by simp [look, Mem.put]
theorem memLst_put {M : Mem} {a : Addr} {xs : List PV} {k : Addr → List PV → Prop} : memLst (.raw (.ref a)) (M.put a (.lst xs)) k = k a xs := by simp [memLst, Mem.put]
theorem at4_0 {x y z w : PV} : atI [x, y, z, w] 0 = some x := atI_zero
theorem at4_3 {x y z w : PV} : atI [x, y, z, w] 3 = some w := by rw [T3.atI_nat (by decide)]; rfl
theorem at4_2 {x y z w : PV} : atI [x, y, z, w] 2 = some z := by rw [T3.atI_nat (by decide)]; rfl
theorem at4_1 {x y z w : PV} : atI [x, y, z, w] 1 = some y := by rw [T3.atI_nat (by decide)]; rfl
theorem ix4 : ixN 4 3 = some 3 ∧ ixN 4 2 = some 2 ∧ ixN 4 1 = some 1 ∧ ixN 4 0 = some 0 := ⟨rfl, rfl, rfl, rfl⟩
theorem sem__law_taken : Sem (sp__law_taken ad) 4 (t__law_taken ad) := by
  rintro _ M Q E ⟨a, many, rfl, ⟨ns, i, m, q, hM, hi⟩, ⟨m1, m2⟩, hq⟩
  have lk : look M (.raw (.ref a)) = .lst [.lst (ns.map .int), .int i, .int m, .int q] := by simp [look, hM]
  have ml : ∀ k, memLst (.raw (.ref a)) M k = k a [.lst (ns.map .int), .int i, .int m, .int q] := fun k => by simp [memLst, hM]
  have fin : ∀ (x : Int) (i' m' q' : Int), 0 ≤ i' → clQ Q (.int (x % many)) (M.put a (.lst [.lst (ns.map .int), .int i', .int m', .int q'])) := fun x i' m' q' h => clQ.of (hq _ _ (Int.emod_nonneg _ (by omega)) (Int.emod_lt_of_pos _ m1) ⟨ns, i', m', q', Mem.put_same, h⟩ els_put)
  by_cases c : 0 < q
  · simp [t__law_taken, lk, ml, at4_0, at4_1, at4_2, at4_3, ix4, c, look_put, memLst_put, Mem.put_put]
    exact ⟨m1, ⟨m1, m2⟩, fin _ _ _ _ hi⟩
  · simp [t__law_taken, lk, ml, at4_0, at4_1, at4_2, at4_3, ix4, c, look_put, memLst_put, Mem.put_put]
    by_cases d : (ns.length : Int) < i + 1
    · rw [if_pos d]
      exact ⟨m1, fin _ _ _ _ (by omega)⟩
    · rw [if_neg d]
      have l : i.toNat < ns.length := by omega
      rw [T3.atI_nat hi]
      simp [l]
      by_cases g : 1000000000000000000 ≤ ns[i.toNat]
      · rw [if_pos g]
        exact ⟨⟨m1, m2⟩, m1, fin _ _ _ _ (by omega)⟩
      · rw [if_neg g]
        exact ⟨m1, fin _ _ _ _ (by omega)⟩
theorem sem__law_pick : Sem (sp__law_pick ad) 2 (t__law_pick ad) := by
  rintro _ M Q E ⟨a, ys, rfl, hr, ⟨h1, h2⟩, hq⟩
  simp [t__law_pick]
  refine ⟨a, _, rfl, hr, ⟨by omega, by omega⟩, fun v M' v0 v1 r' els => ?_⟩
  simp
  rw [T3.atI_nat v0]
  have l : v.toNat < ys.length := by omega
  simp [l]
  exact clQ.of (hq _ _ (List.getElem_mem l) r' els)
theorem filterMap_none {α β : Type} {f : α → Option β} : ∀ {xs : List α}, (∀ x ∈ xs, f x = none) → xs.filterMap f = []
  | [], _ => rfl
  | x :: xs, h => by rw [List.filterMap_cons, h x (by simp)]; exact filterMap_none fun y hy => h y (by simp [hy])
theorem alike_seq {xs : List PV} {M : Mem} {Q : PV → Mem → Prop} {tt : TT3} {y : PV} {s3 : Slot} (h : ∀ i : Nat, i < xs.length → ∀ QB : Bool → Mem → Prop, QB false M → tt [.val y, .val y, .val (.int i), s3] M QB) (q : Q (.lst []) M) :
    compW (gName3 2) tt (tVar3 2) [2] [.val y, .val y, .un, s3] Q (T3.intsFrom 0 xs.length) [] M := by
  have e : ((T3.intsFrom 0 xs.length).filterMap fun _ => (none : Option PV)) = [] := by simp
  refine comp_pure (fun _ => none) _ (fun v hv Qt Qf k => ?_) (by rw [e]; exact q)
  simp [T3.intsFrom] at hv
  obtain ⟨i, hi, rfl⟩ := hv
  simp [turnW]
  exact h i hi _ (by simpa using k)
theorem alike_at {xs : List PV} {n : Nat} (h : xs.all (okA n) = true) {i : Nat} (hi : i < xs.length) : ∃ x, atI xs (i : Int) = some x ∧ okA n x = true := by
  rw [T3.atI_nat (by omega), Int.toNat_natCast]
  exact ⟨xs[i], by simp [hi], List.all_eq_true.mp h _ (List.getElem_mem hi)⟩
theorem sp__law_alike_zero {xs : List PV} {M : Mem} {Q : PV → Mem → Prop} {E : W3} (h : sp__law_alike ad 0 xs M Q E) : False := by
  obtain ⟨x, _, hd, _⟩ := h
  cases x <;> cases hd
theorem sem__law_alike (n : Nat) : Sem (sp__law_alike ad (n + 1)) 4 (t__law_alike ad n) := by
  rintro _ M Q E ⟨x, rfl, hd, q⟩
  have eL : eqP (.lst []) (.lst []) = true := rfl
  have dL : dpt 60 (.lst []) = true := rfl
  cases x with
  | non => simp [t__law_alike]; exact clQ.of q
  | bl b => simp [t__law_alike]; exact clQ.of q
  | int b => simp [t__law_alike]; exact clQ.of q
  | str b => simp [t__law_alike]; exact clQ.of q
  | tup xs =>
    simp only [okA, Bool.and_eq_true, decide_eq_true_eq] at hd
    simp [t__law_alike, smW]
    refine ⟨by omega, alike_seq (fun i hi QB h => ?_) ?_⟩
    · obtain ⟨x, e, hx⟩ := alike_at hd.2 hi
      simp [e]
      exact ⟨hx, by simpa using h⟩
    · simp [eL, dL]; exact clQ.of q
  | lst xs =>
    simp only [okA, Bool.and_eq_true, decide_eq_true_eq] at hd
    simp [t__law_alike, smW]
    refine ⟨by omega, alike_seq (fun i hi QB h => ?_) ?_⟩
    · obtain ⟨x, e, hx⟩ := alike_at hd.2 hi
      simp [e]
      exact ⟨hx, by simpa using h⟩
    · simp [eL, dL]; exact clQ.of q
  | _ => cases hd
theorem eqPs_nil : ∀ {xs : List PV}, eqPs xs [] = xs.isEmpty
  | [] => rfl
  | _ :: _ => rfl
theorem atI_last {xs : List PV} (h : xs ≠ []) : atI xs (-1) = some (xs.getLastD .non) := by
  have l : 0 < xs.length := List.length_pos_iff.mpr h
  unfold atI ixN
  rw [if_neg (by decide), if_pos (by omega)]
  show xs[((-1 : Int) + (xs.length : Int)).toNat]? = _
  rw [show ((-1 : Int) + (xs.length : Int)).toNat = xs.length - 1 from by omega, List.getLastD_eq_getLast?, ← List.getLast?_eq_getElem?]
  cases e : xs.getLast? with
  | none => simp at e; exact absurd e h
  | some y => rfl
theorem dpt_look {M : Mem} {n : Nat} {x : PV} (h : dpt n x = true) : look M x = x := by
  cases x <;> first | rfl | (cases n <;> cases h)
@[simp] theorem e_wApp {xs : List PV} {p : PV} {k : List PV → Prop} : wApp xs [p] k = (xs.length < 16777216 ∧ k (xs ++ [p])) := rfl
theorem unlike_loop {x : PV} {M : Mem} {W : W3} : ∀ (xs acc : List PV) (s2 : Slot) (D : D3), (∀ y ∈ acc, dpt 50 y = true) → (∀ y ∈ xs, dpt 50 y = true) → acc.length + xs.length ≤ 16777216 → (∀ s2, D.nx [.val x, .own (.lst (uniqP acc xs)), s2] M) →
    forW (gName3 2) (b1__law_unlike ad W) D xs [.val x, .own (.lst acc), s2] M
  | [], acc, s2, D, _, _, _, h => h s2
  | v :: xs, acc, s2, D, ha, hx, hz, h => by
    have hv : dpt 50 v = true := hx v (by simp)
    have d0 : dpt 60 (.lst acc) = true := by
      show acc.all (dpt 59) = true
      exact List.all_eq_true.mpr fun y hy => dpt_mono (by decide) (ha y hy)
    have go : ∀ acc' s2, acc' = (if acc = [] ∨ eqP (acc.getLastD .non) v = false then acc ++ [v] else acc) → forW (gName3 2) (b1__law_unlike ad W) D xs [.val x, .own (.lst acc'), s2] M := fun acc' s2 e => by
      refine unlike_loop xs acc' s2 D (fun y hy => ?_) (fun y hy => hx y (by simp [hy])) ?_ (by rw [e]; exact h)
      · rw [e] at hy
        split at hy
        · rcases List.mem_append.mp hy with hy | hy
          · exact ha y hy
          · rw [List.mem_singleton.mp hy]; exact hv
        · exact ha y hy
      · rw [e]
        by_cases cc : acc = [] ∨ eqP (acc.getLastD .non) v = false
        · rw [if_pos cc]; simp at hz ⊢; omega
        · rw [if_neg cc]; simp at hz ⊢; omega
    rw [e_forC]
    simp [b1__law_unlike, eqPs_nil]
    simp at hz
    by_cases c : acc = []
    · subst c
      refine ⟨.inr (by simp), ?_⟩
      simp
      exact go _ _ (by simp)
    · have c' : acc.isEmpty = false := by simpa using c
      refine ⟨.inr (by simpa using d0), ?_⟩
      rw [if_neg (by simpa using c), atI_last c]
      have dl : dpt 60 (acc.getLastD .non) = true := by
        have : acc.getLastD .non ∈ acc := by
          rw [List.getLastD_eq_getLast?]
          cases e : acc.getLast? with
          | none => simp at e; exact absurd e c
          | some y => exact List.mem_of_getLast? e
        exact dpt_mono (by decide) (ha _ this)
      have hv' : dpt 60 v = true := dpt_mono (by decide) hv
      rw [e_optS, dpt_look dl, dpt_look hv']
      refine ⟨.inr ⟨dl, hv'⟩, ?_⟩
      cases e : eqP (acc.getLastD .non) v with
      | false =>
        simp
        exact ⟨by omega, go _ _ (by rw [e]; simp)⟩
      | true =>
        simp only [if_pos]
        exact go _ _ (by rw [e]; simp [c])
@[simp] theorem e_sortX {x : PV} {k : PV → Prop} : rSortX [x] k = lstW x fun xs => (alikeP xs ∧ sortable xs) ∧ k (.lst (sortP xs)) := rfl
theorem sortP_mem {xs : List PV} {y : PV} : y ∈ sortP xs ↔ y ∈ xs := by unfold sortP; exact List.mem_mergeSort
theorem sem__law_unlike : Sem (sp__law_unlike ad) 3 (t__law_unlike ad) := by
  rintro _ M Q E ⟨x, ys, rfl, hp, hr, ⟨h1, h2⟩, h3, h4, q⟩
  simp [t__law_unlike, plain_look hp]
  rw [seqW_row hr]
  refine ⟨⟨h1, h2⟩, ?_⟩
  have l : (sortP ys).length = ys.length := by unfold sortP; exact List.length_mergeSort ys
  refine unlike_loop _ _ _ _ (by simp) (fun y hy => h3 y (sortP_mem.mp hy)) (by rw [l]; simp; omega) fun s2 => ?_
  simp [tFrz3]
  exact clQ.of q
end Y

namespace Y
open PySem PySem.Spec PyProof.Rows L2 T3
/-! ## rows whose items are looked at one by one -/
def badAt (p : PV → Bool) : Nat → List PV → Option Int
  | _, [] => none
  | i, x :: xs => if p x = true then badAt p (i + 1) xs else some i
def rowBad (p : PV → Bool) (most : Nat) (x : PV) : Option Int := match rowOf x with
  | none => some (-1)
  | some xs => if xs.length ≤ most then badAt p 0 xs else some (-1)
def optE (o : Option Int) (bad : Int → Prop) (good : Prop) : Prop := match o with
  | some i => bad i
  | none => good
/-! ## yards -/
structure Hd where
  crafts : List Nat
  away : List Nat
deriving DecidableEq, Inhabited
structure Bt where
  craft : Nat
  work : Nat
  laid : Nat
  tide : Nat
deriving DecidableEq, Inhabited
structure YD where
  days : Nat
  hands : List Hd
  boats : List Bt
deriving DecidableEq, Inhabited
abbrev nP (n : Nat) : PV := .int (n : Int)
def setP (ns : List Nat) : PV := .tup (ns.map nP)
def handP (h : Hd) : PV := .tup [setP h.crafts, setP h.away]
def boatP (b : Bt) : PV := .tup [nP b.craft, nP b.work, nP b.laid, nP b.tide]
def yv (ad : Ad) (y : YD) : PV := .ins ad.c_Yard ["days", "hands", "boats"] [nP y.days, .tup (y.hands.map handP), .tup (y.boats.map boatP)]
structure HOk (days : Nat) (h : Hd) : Prop where
  ne : h.crafts ≠ []
  ac : h.crafts.Pairwise (· < ·)
  bc : ∀ c ∈ h.crafts, c < 4
  aa : h.away.Pairwise (· < ·)
  ba : ∀ d ∈ h.away, d < days
structure BOk (days : Nat) (b : Bt) : Prop where
  c : b.craft < 4
  w : b.work ≤ 14
  lt : b.laid ≤ b.tide
  td : b.tide ≤ days
structure YOk (y : YD) : Prop where
  d1 : 1 ≤ y.days
  d2 : y.days ≤ 14
  nh : y.hands.length ≤ 8
  nb : y.boats.length ≤ 8
  ho : ∀ h ∈ y.hands, HOk y.days h
  bo : ∀ b ∈ y.boats, BOk y.days b
/-- what is looked at of a hand -/
def handOk (d : Int) : PV → Bool
  | .tup [a, b] => isSet 3 a && (match a with | .tup [] => false | _ => true) && isSet (d - 1) b
  | _ => false
def boatOk (d : Int) : PV → Bool
  | .tup [c, w, l, t] => within 0 3 c && within 0 14 w && within 0 d l && (match l with | .int i => within i d t | _ => false)
  | _ => false
def daysOf (b : Bt) : List Nat := List.range' b.laid (b.tide - b.laid)
def canW (h : Hd) (d c : Nat) : Bool := decide (c ∈ h.crafts) && !decide (d ∈ h.away)
def handsFor (y : YD) (d c : Nat) : List Nat := (List.range y.hands.length).filter fun h => canW (y.hands.getD h default) d c
def allWork (y : YD) : Nat := (y.boats.map (·.work)).sum
/-- a yard, or any other value -/
def onYard (ad : Ad) (x : PV) (M : Mem) (E : W3) (k : YD → Prop) : Prop := (∃ y, x = yv ad y ∧ YOk y ∧ k y) ∨ (isIns ad.c_Yard x = some false ∧ E ad.c_BadYard x M)
/-- the number of a boat, or any other value -/
def onBoat (ad : Ad) (y : YD) (b : PV) (M : Mem) (E : W3) (k : Nat → Bt → Prop) : Prop := plain b = true ∧ if within 0 ((y.boats.length : Int) - 1) b = true then ∃ n bt, b = nP n ∧ y.boats[n]? = some bt ∧ k n bt else E ad.c_BadBoat b M
def badYards : List PV := [.non, .int 5, .tup [.int 3, .tup [], .tup []], .str "yard", .lst [], .dic [] []]
section
def sp_check_hands (ad : Ad) : Sp3 := fun xs M Q E => ∃ d x, xs = [.int d, x] ∧ plain4 (look M x) = true ∧ optE (rowBad (handOk d) 8 (look M x)) (fun i => E ad.c_BadHands (.int i) M) (Q .non M)
def sp_check_boats (ad : Ad) : Sp3 := fun xs M Q E => ∃ d x, xs = [.int d, x] ∧ plain3 (look M x) = true ∧ optE (rowBad (boatOk d) 8 (look M x)) (fun i => E ad.c_BadBoats (.int i) M) (Q .non M)
def sp_Yard___init__ (ad : Ad) : Sp3 := fun xs M Q E => ∃ a dv hv bv, xs = [.raw (.ref a), dv, hv, bv] ∧ M a = some (.ins ad.c_Yard []) ∧ plain dv = true ∧ if within 1 14 dv = true then
    ∃ d, dv = .int d ∧ plain4 (look M hv) = true ∧ optE (rowBad (handOk d) 8 (look M hv)) (fun i => E ad.c_BadHands (.int i) M) (plain3 (look M bv) = true ∧ optE (rowBad (boatOk d) 8 (look M bv)) (fun i => E ad.c_BadBoats (.int i) M)
      (∃ hs bs, rowOf (look M hv) = some hs ∧ rowOf (look M bv) = some bs ∧ Q .non (M.put a (.ins ad.c_Yard [("days", dv), ("hands", .tup hs), ("boats", .tup bs)]))))
  else E ad.c_BadDays dv M
def sp_check_yard (ad : Ad) : Sp3 := fun xs M Q E => ∃ x, xs = [x] ∧ onYard ad x M E fun _ => Q .non M
def sp_check_boat (ad : Ad) : Sp3 := fun xs M Q E => ∃ x b, xs = [x, b] ∧ onYard ad x M E fun y => onBoat ad y b M E fun _ _ => Q .non M
def sp_told_days (ad : Ad) : Sp3 := fun xs M Q _ => ∃ y b bt, xs = [yv ad y, nP b] ∧ YOk y ∧ y.boats[b]? = some bt ∧ Q (setP (daysOf bt)) M
def sp_days_of (ad : Ad) : Sp3 := fun xs M Q E => ∃ x b, xs = [x, b] ∧ onYard ad x M E fun y => onBoat ad y b M E fun _ bt => Q (setP (daysOf bt)) M
def sp_can_work (ad : Ad) : Sp3 := fun xs M Q _ => ∃ y d h c hd, xs = [yv ad y, nP d, nP h, nP c] ∧ YOk y ∧ y.hands[h]? = some hd ∧ Q (.bl (canW hd d c)) M
def sp_told_hands (ad : Ad) : Sp3 := fun xs M Q _ => ∃ y d b bt, xs = [yv ad y, nP d, nP b] ∧ YOk y ∧ y.boats[b]? = some bt ∧ Q (setP (handsFor y d bt.craft)) M
def sp_hands_for (ad : Ad) : Sp3 := fun xs M Q E => ∃ x d b, xs = [x, d, b] ∧ onYard ad x M E fun y => onBoat ad y b M E fun _ bt => plain d = true ∧ if within bt.laid ((bt.tide : Int) - 1) d = true then ∃ n, d = nP n ∧ Q (setP (handsFor y n bt.craft)) M else Q (.tup []) M
def sp_all_work (ad : Ad) : Sp3 := fun xs M Q E => ∃ x, xs = [x] ∧ onYard ad x M E fun y => Q (nP (allWork y)) M
/-- what the law draws -/
structure Drawn (most : Nat) (y : YD) : Prop where
  ok : YOk y
  dm : y.days ≤ most
  nh : y.hands.length ≤ 4
  nb : y.boats.length ≤ 5
  wk : ∀ b ∈ y.boats, b.work ≤ b.tide - b.laid + 1
  ld : ∀ b ∈ y.boats, b.laid < y.days
def handsL (y : YD) : PV := .lst (y.hands.map handP)
def boatsL (y : YD) : PV := .lst (y.boats.map boatP)
def sp__law_yard_parts (ad : Ad) : Sp3 := fun xs M Q _ => ∃ ra, ∃ most : Nat, xs = [.raw (.ref ra), nP most] ∧ RowAt M ra ∧ (1 ≤ most ∧ most ≤ 14) ∧ ∀ y M', Drawn most y → RowAt M' ra → Els ra M M' → Q (.tup [nP y.days, handsL y, boatsL y]) M'
def sp__law_able (ad : Ad) : Sp3 := fun xs M Q _ => ∃ (hs : List Hd) (d h c : Nat) (hd : Hd), xs = [.lst (hs.map handP), nP d, nP h, nP c] ∧ hs[h]? = some hd ∧ Q (.bl (canW hd d c)) M
def sp__law_bad_yard (ad : Ad) : Sp3 := fun xs M Q _ => ∃ ra, xs = [.raw (.ref ra)] ∧ RowAt M ra ∧ ∀ x M', x ∈ badYards → RowAt M' ra → Els ra M M' → Q x M'
end
end Y


namespace Y
open PySem PySem.Spec PyProof.Rows L2 T3
def b1_check_hands (ad : Ad) (W : W3) : TS3 :=
 (tSeq3 (tIfS3 (tOr3 (tNot3 (tTru3 (tCall3 (sp_is_tuple_of ad) W (tCons3 (tVar3 3) (tCons3 (tC3 (.int 2)) tNil3))))) (tOr3 (tNot3 (tTru3 (tCall3 (sp_is_set ad) W (tCons3 (tOp3 rIx3 (tVarB3 3) (tC3 (.int 0))) (tCons3 (tOp3 rSub3 (tC3 (.int 4)) (tC3 (.int 1))) tNil3))))) (tNot3 (tTru3 (tOp3 rIx3 (tVarB3 3) (tC3 (.int 0))))))) (tRaise3 ad.c_BadHands W (tVar3 2)) tNext3)
 (tIfS3 (tNot3 (tTru3 (tCall3 (sp_is_set ad) W (tCons3 (tOp3 rIx3 (tVarB3 3) (tC3 (.int 1))) (tCons3 (tOp3 rSub3 (tVarB3 0) (tC3 (.int 1))) tNil3))))) (tRaise3 ad.c_BadHands W (tVar3 2)) tNext3))
def t_check_hands (ad : Ad) (W : W3) : TS3 :=
 (tSeq3 (tIfS3 (tOr3 (tNot3 (tTru3 (tCall3 (sp_is_row ad) W (tCons3 (tVar3 1) tNil3)))) (tTest3 (tOp3 rGtX (tCB3 rLen3 (tCons3 (tVarB3 1) tNil3)) (tC3 (.int 8))))) (tRaise3 ad.c_BadHands W (tUn3 rNeg3 (tC3 (.int 1)))) tNext3)
 (tForG3 (iEnG3 (tCons3 (tVar3 1) tNil3)) (gTup3 2 (gCons3 (gName3 2) (gCons3 (gName3 3) gNil3))) (b1_check_hands ad W)))
def b1_check_boats (ad : Ad) (W : W3) : TS3 :=
 (tSeq3 (tIfS3 (tOr3 (tNot3 (tTru3 (tCall3 (sp_is_tuple_of ad) W (tCons3 (tVar3 3) (tCons3 (tC3 (.int 4)) tNil3))))) (tOr3 (tNot3 (tTru3 (tCall3 (sp_is_within ad) W (tCons3 (tOp3 rIx3 (tVarB3 3) (tC3 (.int 0))) (tCons3 (tC3 (.int 0)) (tCons3 (tOp3 rSub3 (tC3 (.int 4)) (tC3 (.int 1))) tNil3)))))) (tNot3 (tTru3 (tCall3 (sp_is_within ad) W (tCons3 (tOp3 rIx3 (tVarB3 3) (tC3 (.int 1))) (tCons3 (tC3 (.int 0)) (tCons3 (tC3 (.int 14)) tNil3)))))))) (tRaise3 ad.c_BadBoats W (tVar3 2)) tNext3)
 (tIfS3 (tOr3 (tNot3 (tTru3 (tCall3 (sp_is_within ad) W (tCons3 (tOp3 rIx3 (tVarB3 3) (tC3 (.int 2))) (tCons3 (tC3 (.int 0)) (tCons3 (tVar3 0) tNil3)))))) (tNot3 (tTru3 (tCall3 (sp_is_within ad) W (tCons3 (tOp3 rIx3 (tVarB3 3) (tC3 (.int 3))) (tCons3 (tOp3 rIx3 (tVarB3 3) (tC3 (.int 2))) (tCons3 (tVar3 0) tNil3))))))) (tRaise3 ad.c_BadBoats W (tVar3 2)) tNext3))
def t_check_boats (ad : Ad) (W : W3) : TS3 :=
 (tSeq3 (tIfS3 (tOr3 (tNot3 (tTru3 (tCall3 (sp_is_row ad) W (tCons3 (tVar3 1) tNil3)))) (tTest3 (tOp3 rGtX (tCB3 rLen3 (tCons3 (tVarB3 1) tNil3)) (tC3 (.int 8))))) (tRaise3 ad.c_BadBoats W (tUn3 rNeg3 (tC3 (.int 1)))) tNext3)
 (tForG3 (iEnG3 (tCons3 (tVar3 1) tNil3)) (gTup3 2 (gCons3 (gName3 2) (gCons3 (gName3 3) gNil3))) (b1_check_boats ad W)))
def t_Yard___init__ (ad : Ad) (W : W3) : TS3 :=
 (tSeq3 (tIfS3 (tNot3 (tTru3 (tCall3 (sp_is_within ad) W (tCons3 (tVar3 1) (tCons3 (tC3 (.int 1)) (tCons3 (tC3 (.int 14)) tNil3)))))) (tRaise3 ad.c_BadDays W (tVar3 1)) tNext3)
 (tSeq3 (tDrop3 (tCall3 (sp_check_hands ad) W (tCons3 (tVar3 1) (tCons3 (tVar3 2) tNil3))))
 (tSeq3 (tDrop3 (tCall3 (sp_check_boats ad) W (tCons3 (tVar3 1) (tCons3 (tVar3 3) tNil3))))
 (tSeq3 (tFldS3 ad.c_Yard "days" (tVar3 1) (tVar3 0))
 (tSeq3 (tFldS3 ad.c_Yard "hands" (tCB3 rTuple3 (tCons3 (tVarB3 2) tNil3)) (tVar3 0))
 (tFldS3 ad.c_Yard "boats" (tCB3 rTuple3 (tCons3 (tVarB3 3) tNil3)) (tVar3 0)))))))
def t_check_yard (ad : Ad) (W : W3) : TS3 :=
 (tIfS3 (tNot3 (tTru3 (tIsi3 (isIns ad.c_Yard) (tVarB3 0)))) (tRaise3 ad.c_BadYard W (tVar3 0)) tNext3)
def t_check_boat (ad : Ad) (W : W3) : TS3 :=
 (tSeq3 (tDrop3 (tCall3 (sp_check_yard ad) W (tCons3 (tVar3 0) tNil3)))
 (tIfS3 (tNot3 (tTru3 (tCall3 (sp_is_within ad) W (tCons3 (tVar3 1) (tCons3 (tC3 (.int 0)) (tCons3 (tOp3 rSub3 (tCB3 rLen3 (tCons3 (tFld3 ad.c_Yard "boats" (tVar3 0)) tNil3)) (tC3 (.int 1))) tNil3)))))) (tRaise3 ad.c_BadBoat W (tVar3 1)) tNext3))
def t_told_days (ad : Ad) (W : W3) : TS3 :=
 (tRet3 (tTupRg3 (tRg23 (tOp3 rIx3 (tOp3 rIx3 (tFld3 ad.c_Yard "boats" (tVar3 0)) (tVarB3 1)) (tC3 (.int 2))) (tOp3 rIx3 (tOp3 rIx3 (tFld3 ad.c_Yard "boats" (tVar3 0)) (tVarB3 1)) (tC3 (.int 3))))))
def t_days_of (ad : Ad) (W : W3) : TS3 :=
 (tSeq3 (tDrop3 (tCall3 (sp_check_boat ad) W (tCons3 (tVar3 0) (tCons3 (tVar3 1) tNil3))))
 (tRet3 (tCall3 (sp_told_days ad) W (tCons3 (tVar3 0) (tCons3 (tVar3 1) tNil3)))))
def t_can_work (ad : Ad) (W : W3) : TS3 :=
 (tSeq3 (tAsg3 (tOp3 rIx3 (tFld3 ad.c_Yard "hands" (tVar3 0)) (tVarB3 2)) (gTup3 2 (gCons3 (gName3 4) (gCons3 (gName3 5) gNil3))))
 (tRet3 (tAndV3 (tOp3 rIn3 (tVarB3 3) (tVarB3 4)) (tOp3 rNotIn3 (tVarB3 1) (tVarB3 5)))))
def t_told_hands (ad : Ad) (W : W3) : TS3 :=
 (tRet3 (tCB3 rTuple3 (tCons3 (tComp3 (iRange1 (tCons3 (tCB3 rLen3 (tCons3 (tFld3 ad.c_Yard "hands" (tVar3 0)) tNil3)) tNil3)) (gName3 3) (tTru3 (tCall3 (sp_can_work ad) W0 (tCons3 (tVar3 0) (tCons3 (tVar3 1) (tCons3 (tVar3 3) (tCons3 (tOp3 rIx3 (tOp3 rIx3 (tFld3 ad.c_Yard "boats" (tVar3 0)) (tVarB3 2)) (tC3 (.int 0))) tNil3)))))) (tVar3 3) [3]) tNil3)))
def t_hands_for (ad : Ad) (W : W3) : TS3 :=
 (tSeq3 (tDrop3 (tCall3 (sp_check_boat ad) W (tCons3 (tVar3 0) (tCons3 (tVar3 2) tNil3))))
 (tSeq3 (tIfS3 (tNot3 (tTru3 (tCall3 (sp_is_within ad) W (tCons3 (tVar3 1) (tCons3 (tOp3 rIx3 (tOp3 rIx3 (tFld3 ad.c_Yard "boats" (tVar3 0)) (tVarB3 2)) (tC3 (.int 2))) (tCons3 (tOp3 rSub3 (tOp3 rIx3 (tOp3 rIx3 (tFld3 ad.c_Yard "boats" (tVar3 0)) (tVarB3 2)) (tC3 (.int 3))) (tC3 (.int 1))) tNil3)))))) (tRet3 (tTup3 tNil3)) tNext3)
 (tRet3 (tCall3 (sp_told_hands ad) W (tCons3 (tVar3 0) (tCons3 (tVar3 1) (tCons3 (tVar3 2) tNil3)))))))
def t_all_work (ad : Ad) (W : W3) : TS3 :=
 (tSeq3 (tDrop3 (tCall3 (sp_check_yard ad) W (tCons3 (tVar3 0) tNil3)))
 (tRet3 (tCB3 rSum3 (tCons3 (tComp3 (iSeq3 (tFld3 ad.c_Yard "boats" (tVar3 0))) (gName3 1) tYes3 (tOp3 rIx3 (tVarB3 1) (tC3 (.int 1))) [1]) tNil3))))
def b1__law_yard_parts (ad : Ad) (W : W3) : TS3 :=
 (tSeq3 (tSet3 7 (tCall3 (sp__law_unlike ad) W (tCons3 (tComp3 (iRange1 (tCons3 (tOp3 rAdd3 (tC3 (.int 1)) (tCall3 (sp__law_taken ad) W (tCons3 (tVar3 0) (tCons3 (tC3 (.int 2)) tNil3)))) tNil3)) (gName3 13) tYes3 (tCall3 (sp__law_taken ad) W0 (tCons3 (tVar3 0) (tCons3 (tVar3 5) tNil3))) [13]) tNil3)))
 (tSeq3 (tSet3 8 (tComp3 (iRange1 (tCons3 (tVar3 2) tNil3)) (gName3 12) (tTest3 (tOp3 rEq3 (tCall3 (sp__law_taken ad) W0 (tCons3 (tVar3 0) (tCons3 (tC3 (.int 6)) tNil3))) (tC3 (.int 0)))) (tVar3 12) [12]))
 (tMtO3 3 wApp (tCons3 (tTup3 (tCons3 (tCB3 rTuple3 (tCons3 (tVarB3 7) tNil3)) (tCons3 (tCB3 rTuple3 (tCons3 (tVarB3 8) tNil3)) tNil3))) tNil3))))
def b2__law_yard_parts (ad : Ad) (W : W3) : TS3 :=
 (tSeq3 (tSet3 9 (tCall3 (sp__law_taken ad) W (tCons3 (tVar3 0) (tCons3 (tVar3 2) tNil3))))
 (tSeq3 (tSet3 10 (tOp3 rAdd3 (tVarB3 9) (tCall3 (sp__law_taken ad) W (tCons3 (tVar3 0) (tCons3 (tOp3 rAdd3 (tOp3 rSub3 (tVarB3 2) (tVarB3 9)) (tC3 (.int 1))) tNil3)))))
 (tSeq3 (tSet3 11 (tCB3 rMinX (tCons3 (tC3 (.int 14)) (tCons3 (tCall3 (sp__law_taken ad) W (tCons3 (tVar3 0) (tCons3 (tOp3 rAdd3 (tOp3 rSub3 (tVarB3 10) (tVarB3 9)) (tIf3 (tTest3 (tOp3 rEq3 (tCall3 (sp__law_taken ad) W (tCons3 (tVar3 0) (tCons3 (tC3 (.int 6)) tNil3))) (tC3 (.int 0)))) (tC3 (.int 2)) (tC3 (.int 1)))) tNil3))) tNil3))))
 (tMtO3 4 wApp (tCons3 (tTup3 (tCons3 (tCall3 (sp__law_taken ad) W (tCons3 (tVar3 0) (tCons3 (tVar3 5) tNil3))) (tCons3 (tVar3 11) (tCons3 (tVar3 9) (tCons3 (tVar3 10) tNil3))))) tNil3)))))
def t__law_yard_parts (ad : Ad) (W : W3) : TS3 :=
 (tSeq3 (tParVOO 2 3 4 (tOp3 rAdd3 (tC3 (.int 1)) (tCall3 (sp__law_taken ad) W (tCons3 (tVar3 0) (tCons3 (tVar3 1) tNil3)))))
 (tSeq3 (tSet3 5 (tOp3 rAdd3 (tC3 (.int 1)) (tCall3 (sp__law_taken ad) W (tCons3 (tVar3 0) (tCons3 (tC3 (.int 4)) tNil3)))))
 (tSeq3 (tFor3 (iRange1 (tCons3 (tCall3 (sp__law_taken ad) W (tCons3 (tVar3 0) (tCons3 (tC3 (.int 5)) tNil3))) tNil3)) (gName3 6) (b1__law_yard_parts ad W))
 (tSeq3 (tFor3 (iRange1 (tCons3 (tCall3 (sp__law_taken ad) W (tCons3 (tVar3 0) (tCons3 (tC3 (.int 6)) tNil3))) tNil3)) (gName3 6) (b2__law_yard_parts ad W))
 (tFrz3 3 (tFrz3 4 (tRet3 (tTup3 (tCons3 (tVar3 2) (tCons3 (tVar3 3) (tCons3 (tVar3 4) tNil3)))))))))))
def t__law_able (ad : Ad) (W : W3) : TS3 :=
 (tRet3 (tAndV3 (tOp3 rIn3 (tVarB3 3) (tOp3 rIx3 (tOp3 rIx3 (tVarB3 0) (tVarB3 2)) (tC3 (.int 0)))) (tOp3 rNotIn3 (tVarB3 1) (tOp3 rIx3 (tOp3 rIx3 (tVarB3 0) (tVarB3 2)) (tC3 (.int 1))))))
def t__law_bad_yard (ad : Ad) (W : W3) : TS3 :=
 (tRet3 (tCall3 (sp__law_pick ad) W (tCons3 (tVar3 0) (tCons3 (tLst3 (tCons3 (tC3 .non) (tCons3 (tC3 (.int 5)) (tCons3 (tTup3 (tCons3 (tC3 (.int 3)) (tCons3 (tTup3 tNil3) (tCons3 (tTup3 tNil3) tNil3)))) (tCons3 (tC3 (.str "yard")) (tCons3 (tLst3 tNil3) (tCons3 (fun _ M Q => Q (.dic [] []) M) tNil3))))))) tNil3))))
end Y

namespace Y
open PySem PySem.Spec PyProof.Rows L2 T3
variable {ad : Ad}
theorem tupN2 {x : PV} (h : tupN 2 x = true) : ∃ a b, x = .tup [a, b] := by
  cases x <;> first | (cases h; done) | skip
  rename_i xs
  simp [tupN] at h
  match xs, h with
  | [a, b], _ => exact ⟨a, b, rfl⟩
  | [], h => simp at h
  | [_], h => simp at h
  | _ :: _ :: _ :: _, h => simp at h; omega
theorem tupN4 {x : PV} (h : tupN 4 x = true) : ∃ a b c d, x = .tup [a, b, c, d] := by
  cases x <;> first | (cases h; done) | skip
  rename_i xs
  simp [tupN] at h
  match xs, h with
  | [a, b, c, d], _ => exact ⟨a, b, c, d, rfl⟩
  | [], h => simp at h
  | [_], h => simp at h
  | [_, _], h => simp at h
  | [_, _, _], h => simp at h
  | _ :: _ :: _ :: _ :: _ :: _, h => simp at h; omega
theorem handOk_tup {d : Int} {x : PV} (h : ¬ tupN 2 x = true) : handOk d x = false := by
  cases x <;> first | rfl | skip
  rename_i xs
  match xs, h with
  | [a, b], h => exact absurd rfl h
  | [], _ => rfl
  | [_], _ => rfl
  | _ :: _ :: _ :: _, _ => rfl
theorem boatOk_tup {d : Int} {x : PV} (h : ¬ tupN 4 x = true) : boatOk d x = false := by
  cases x <;> first | rfl | skip
  rename_i xs
  match xs, h with
  | [a, b, c, d], h => exact absurd rfl h
  | [], _ => rfl
  | [_], _ => rfl
  | [_, _], _ => rfl
  | [_, _, _], _ => rfl
  | _ :: _ :: _ :: _ :: _ :: _, _ => rfl

theorem handOk_eq {d : Int} {a b : PV} : handOk d (.tup [a, b]) = (isSet 3 a && (match a with | .tup [] => false | _ => true) && isSet (d - 1) b) := rfl
theorem boatOk_eq {d : Int} {a b l t : PV} : boatOk d (.tup [a, b, l, t]) = (within 0 3 a && within 0 14 b && within 0 d l && (match l with | .int i => within i d t | _ => false)) := rfl
theorem set_tup {m : Int} {a : PV} (h : isSet m a = true) : ∃ xs, a = .tup xs := by
  cases a <;> first | (cases h; done) | exact ⟨_, rfl⟩
theorem b1_hands {x v : PV} {M : Mem} {W : W3} {d i : Int} {s2 s3 : Slot} {D : D3} (pv : plain3 v = true) (h : if handOk d v = true then D.nx [.val (.int d), .val x, .val (.int i), .val v] M else W ad.c_BadHands (.int i) M) :
    b1_check_hands ad W D [.val (.int d), .val x, .val (.int i), .val v] M := by
  simp [b1_check_hands]
  refine ⟨plain2_1 (plain3_2 pv), ?_⟩
  by_cases c : tupN 2 v = true
  · obtain ⟨a, b, rfl⟩ := tupN2 c
    have pa : plain2 a = true := by unfold plain3 at pv; simp [rowOf, plain] at pv; exact pv.1
    have pb : plain2 b = true := by unfold plain3 at pv; simp [rowOf, plain] at pv; exact pv.2
    rw [if_pos c]
    simp [pa, T3.atI_nat]
    rw [handOk_eq] at h
    by_cases c1 : isSet 3 a = true
    · obtain ⟨xs, rfl⟩ := set_tup c1
      rw [if_pos c1]
      simp
      cases xs with
      | nil => simpa using h
      | cons y ys =>
        simp
        refine ⟨pb, ?_⟩
        by_cases c2 : isSet (d - 1) b = true
        · rw [if_pos c2]; simpa [c1, c2] using h
        · rw [if_neg c2]; simpa [c1, c2] using h
    · rw [if_neg c1]; simpa [c1] using h
  · rw [if_neg c]
    rw [handOk_tup c] at h
    simpa using h
theorem hands_loop {x : PV} {G : Mem → Prop} {M : Mem} {W : W3} {d : Int} (hG : G M) : ∀ (xs : List PV) (i : Nat) (s2 s3 : Slot) (D : D3), (∀ y ∈ xs, plain3 y = true) → optE (badAt (handOk d) i xs) (fun j => W ad.c_BadHands (.int j) M) (∀ s2 s3, D.nx [.val (.int d), .val x, s2, s3] M) →
    forG G (gTup3 2 (gCons3 (gName3 2) (gCons3 (gName3 3) gNil3))) (b1_check_hands ad W) D (enumP i xs) [.val (.int d), .val x, s2, s3] M
  | [], i, s2, s3, D, _, h => ⟨hG, h s2 s3⟩
  | v :: xs, i, s2, s3, D, hp, h => by
    rw [enumP, forG_cons]
    refine ⟨hG, rfl, rfl, ?_⟩
    show b1_check_hands ad W _ [.val (.int d), .val x, .val (.int (i : Int)), .val v] M
    refine b1_hands (s2 := s2) (s3 := s3) (hp v (by simp)) ?_
    unfold badAt at h
    by_cases c : handOk d v = true
    · rw [if_pos c] at h ⊢
      exact hands_loop hG xs (i + 1) _ _ D (fun y hy => hp y (by simp [hy])) h
    · rw [if_neg c] at h ⊢
      exact h
theorem row_cases {p : PV → Bool} {m : Nat} {x : PV} {bad : Int → Prop} {good : Prop} (h : optE (rowBad p m x) bad good) : (rowOf x = none ∧ bad (-1)) ∨ ∃ xs, rowOf x = some xs ∧ (m < xs.length ∧ bad (-1) ∨ xs.length ≤ m ∧ optE (badAt p 0 xs) bad good) := by
  unfold rowBad at h
  cases e : rowOf x with
  | none => rw [e] at h; exact .inl ⟨rfl, h⟩
  | some xs =>
    rw [e] at h
    refine .inr ⟨xs, rfl, ?_⟩
    simp only at h
    by_cases c : xs.length ≤ m
    · rw [if_pos c] at h; exact .inr ⟨c, h⟩
    · rw [if_neg c] at h; exact .inl ⟨by omega, h⟩
theorem lenW_row {x : PV} {xs : List PV} {k : Int → Prop} (h : rowOf x = some xs) : lenW x k = k (xs.length : Int) := by
  cases x <;> first | (cases h; done) | (cases h; rfl)
theorem optE_imp {o : Option Int} {b b' : Int → Prop} {g g' : Prop} (h : optE o b g) (hb : ∀ i, b i → b' i) (hg : g → g') : optE o b' g' := by
  cases o with
  | none => exact hg h
  | some i => exact hb i h
theorem plain3_items {x : PV} {xs : List PV} (h : plain3 x = true) (e : rowOf x = some xs) : ∀ y ∈ xs, plain2 y = true := by
  unfold plain3 at h
  rw [e] at h
  simp at h
  exact h.2
theorem plain4_items {x : PV} {xs : List PV} (h : plain4 x = true) (e : rowOf x = some xs) : ∀ y ∈ xs, plain3 y = true := by
  unfold plain4 at h
  rw [e] at h
  simp at h
  exact h.2
theorem sem_check_hands : Sem (sp_check_hands ad) 4 (t_check_hands ad) := by
  rintro _ M Q E ⟨d, x, rfl, hp, h⟩
  simp [t_check_hands, plain2_1 (plain3_2 (plain4_3 hp))]
  rcases row_cases h with ⟨e, hb⟩ | ⟨xs, e, ⟨l, hb⟩ | ⟨l, h⟩⟩
  · rw [e]; simp; exact clW.of hb
  · rw [e, lenW_row e]; simp; rw [if_pos (by omega)]; exact clW.of hb
  · rw [e, lenW_row e]; simp; rw [if_neg (by omega), seqW_row e]
    refine hands_loop (G := fun M' => look M' x = look M x) rfl xs 0 _ _ _ (plain4_items hp e) ?_
    exact optE_imp h (fun _ z => clW.of z) fun z _ _ => clQ.of z
theorem b1_boats {x v : PV} {M : Mem} {W : W3} {d i : Int} {s2 s3 : Slot} {D : D3} (pv : plain2 v = true) (h : if boatOk d v = true then D.nx [.val (.int d), .val x, .val (.int i), .val v] M else W ad.c_BadBoats (.int i) M) :
    b1_check_boats ad W D [.val (.int d), .val x, .val (.int i), .val v] M := by
  simp [b1_check_boats]
  refine ⟨plain2_1 pv, ?_⟩
  by_cases c : tupN 4 v = true
  · obtain ⟨a, b, l, t, rfl⟩ := tupN4 c
    have pp : plain a = true ∧ plain b = true ∧ plain l = true ∧ plain t = true := by unfold plain2 at pv; simp [rowOf, plain] at pv ⊢; exact pv
    rw [if_pos c]
    simp [pp, at4_0, at4_1, at4_2, at4_3]
    rw [boatOk_eq] at h
    by_cases c1 : within 0 3 a = true
    · rw [if_pos c1]
      by_cases c2 : within 0 14 b = true
      · rw [if_pos c2]
        by_cases c3 : within 0 d l = true
        · obtain ⟨li, rfl, hl⟩ := within_int c3
          rw [if_pos c3]
          simp [pp]
          by_cases c4 : within li d t = true
          · rw [if_pos c4]; simpa [c1, c2, c3, c4] using h
          · rw [if_neg c4]; simpa [c1, c2, c3, c4] using h
        · rw [if_neg c3]; simpa [c1, c2, c3] using h
      · rw [if_neg c2]; simpa [c1, c2] using h
    · rw [if_neg c1]; simpa [c1] using h
  · rw [if_neg c]
    rw [boatOk_tup c] at h
    simpa using h
theorem boats_loop {x : PV} {G : Mem → Prop} {M : Mem} {W : W3} {d : Int} (hG : G M) : ∀ (xs : List PV) (i : Nat) (s2 s3 : Slot) (D : D3), (∀ y ∈ xs, plain2 y = true) → optE (badAt (boatOk d) i xs) (fun j => W ad.c_BadBoats (.int j) M) (∀ s2 s3, D.nx [.val (.int d), .val x, s2, s3] M) →
    forG G (gTup3 2 (gCons3 (gName3 2) (gCons3 (gName3 3) gNil3))) (b1_check_boats ad W) D (enumP i xs) [.val (.int d), .val x, s2, s3] M
  | [], i, s2, s3, D, _, h => ⟨hG, h s2 s3⟩
  | v :: xs, i, s2, s3, D, hp, h => by
    rw [enumP, forG_cons]
    refine ⟨hG, rfl, rfl, ?_⟩
    show b1_check_boats ad W _ [.val (.int d), .val x, .val (.int (i : Int)), .val v] M
    refine b1_boats (s2 := s2) (s3 := s3) (hp v (by simp)) ?_
    unfold badAt at h
    by_cases c : boatOk d v = true
    · rw [if_pos c] at h ⊢
      exact boats_loop hG xs (i + 1) _ _ D (fun y hy => hp y (by simp [hy])) h
    · rw [if_neg c] at h ⊢
      exact h
theorem sem_check_boats : Sem (sp_check_boats ad) 4 (t_check_boats ad) := by
  rintro _ M Q E ⟨d, x, rfl, hp, h⟩
  simp [t_check_boats, plain2_1 (plain3_2 hp)]
  rcases row_cases h with ⟨e, hb⟩ | ⟨xs, e, ⟨l, hb⟩ | ⟨l, h⟩⟩
  · rw [e]; simp; exact clW.of hb
  · rw [e, lenW_row e]; simp; rw [if_pos (by omega)]; exact clW.of hb
  · rw [e, lenW_row e]; simp; rw [if_neg (by omega), seqW_row e]
    refine boats_loop (G := fun M' => look M' x = look M x) rfl xs 0 _ _ _ (plain3_items hp e) ?_
    exact optE_imp h (fun _ z => clW.of z) fun z _ _ => clQ.of z

@[simp] theorem fld_days {M : Mem} {y : YD} : fldOf ad.c_Yard "days" M (yv ad y) = some (nP y.days) := by unfold yv; rw [fldOf_ins]; rfl
@[simp] theorem fld_hands {M : Mem} {y : YD} : fldOf ad.c_Yard "hands" M (yv ad y) = some (.tup (y.hands.map handP)) := by unfold yv; rw [fldOf_ins]; rfl
@[simp] theorem fld_boats {M : Mem} {y : YD} : fldOf ad.c_Yard "boats" M (yv ad y) = some (.tup (y.boats.map boatP)) := by unfold yv; rw [fldOf_ins]; rfl
@[simp] theorem isIns_yv {y : YD} : isIns ad.c_Yard (yv ad y) = some true := by unfold yv isIns; simp
@[simp] theorem look_yv {M : Mem} {y : YD} : look M (yv ad y) = yv ad y := rfl
theorem onYard_imp {x : PV} {M M' : Mem} {E E' : W3} {k k' : YD → Prop} (h : onYard ad x M E k) (hE : E ad.c_BadYard x M → E' ad.c_BadYard x M') (hk : ∀ y, x = yv ad y → YOk y → k y → k' y) : onYard ad x M' E' k' := by
  rcases h with ⟨y, e, ok, h⟩ | ⟨e, h⟩
  · exact .inl ⟨y, e, ok, hk y e ok h⟩
  · exact .inr ⟨e, hE h⟩
theorem look_put_ins {M : Mem} {a C : Addr} {fs fs' : List (Str × PV)} {x : PV} (h : M a = some (.ins C fs)) (p : plain (look M x) = true) : look (M.put a (.ins C fs')) x = look M x := by
  cases x with
  | raw u =>
    cases u with
    | ref b =>
      by_cases e : b = a
      · subst e
        simp [look, h, plain] at p
      · simp [look, Mem.put, e]
    | _ => rfl
  | _ => rfl
theorem sem_Yard___init__ : Sem (sp_Yard___init__ ad) 4 (t_Yard___init__ ad) := by
  rintro _ M Q E ⟨a, dv, hv, bv, rfl, hM, hp, h⟩
  simp [t_Yard___init__]
  refine ⟨hp, ?_⟩
  by_cases c : within 1 14 dv = true
  · rw [if_pos c] at h ⊢
    obtain ⟨d, rfl, p1, h⟩ := h
    refine ⟨_, _, rfl, p1, optE_imp h (fun _ z => clW.of z) fun ⟨p2, h⟩ => ⟨_, _, rfl, p2, optE_imp h (fun _ z => clW.of z) fun ⟨hs, bs, e1, e2, q⟩ => ?_⟩⟩
    have g1 := plain2_1 (plain3_2 (plain4_3 p1))
    have g2 := plain2_1 (plain3_2 p2)
    refine memIns_at hM ⟨rfl, by decide, ?_⟩
    rw [look_put_ins hM g1, seqW_row e1]
    refine memIns_at Mem.put_same ⟨rfl, Nat.lt_of_le_of_lt putP_len (by decide), ?_⟩
    rw [Mem.put_put, look_put_ins hM g2, seqW_row e2]
    refine memIns_at Mem.put_same ⟨rfl, Nat.lt_of_le_of_lt putP_len (by have := putP_len (f := "days") (v := .int d) (fs := []); simp at this; omega), ?_⟩
    rw [Mem.put_put]
    exact clQ.of q
  · rw [if_neg c] at h ⊢
    exact clW.of h
theorem sem_check_yard : Sem (sp_check_yard ad) 1 (t_check_yard ad) := by
  rintro _ M Q E ⟨x, rfl, h⟩
  simp [t_check_yard]
  rcases h with ⟨y, rfl, ok, h⟩ | ⟨e, h⟩
  · simp; exact clQ.of h
  · have hl : look M x = x := by cases x <;> first | rfl | cases e
    rw [hl, e]; simp; exact clW.of h
theorem sem_check_boat : Sem (sp_check_boat ad) 2 (t_check_boat ad) := by
  rintro _ M Q E ⟨x, b, rfl, h⟩
  simp [t_check_boat]
  refine ⟨x, rfl, onYard_imp h clW.of fun y e ok hb => ?_⟩
  clear h
  obtain ⟨hp, h⟩ := hb
  subst e
  simp [hp]
  by_cases c : within 0 ((y.boats.length : Int) - 1) b = true
  · rw [if_pos c] at h ⊢
    obtain ⟨_, _, _, _, q⟩ := h
    exact clQ.of q
  · rw [if_neg c] at h ⊢
    exact clW.of h
theorem onBoat_imp {y : YD} {b : PV} {M M' : Mem} {E E' : W3} {k k' : Nat → Bt → Prop} (h : onBoat ad y b M E k) (hE : E ad.c_BadBoat b M → E' ad.c_BadBoat b M') (hk : ∀ n bt, b = nP n → y.boats[n]? = some bt → k n bt → k' n bt) : onBoat ad y b M' E' k' := by
  refine ⟨h.1, ?_⟩
  have h := h.2
  by_cases c : within 0 ((y.boats.length : Int) - 1) b = true
  · rw [if_pos c] at h ⊢
    obtain ⟨n, bt, e, e2, q⟩ := h
    exact ⟨n, bt, e, e2, hk n bt e e2 q⟩
  · rw [if_neg c] at h ⊢
    exact hE h
theorem atI_map_nat {α : Type} {f : α → PV} {xs : List α} {n : Nat} {x : α} (h : xs[n]? = some x) : atI (xs.map f) (n : Int) = some (f x) := by
  rw [T3.atI_nat (by omega)]; simp [h]
theorem atI_n {α : Type} {xs : List α} {n : Nat} : atI xs (n : Int) = xs[n]? := by
  rw [T3.atI_nat (by omega)]; simp
theorem intsFrom_nat {l n : Nat} : T3.intsFrom (l : Int) n = (List.range' l n).map nP := by
  apply List.ext_getElem?
  intro i
  simp [T3.intsFrom, nP]
  by_cases h : i < n
  · simp [h]
  · simp [h]
theorem intsFrom_zero {n : Nat} : T3.intsFrom 0 n = (List.range n).map nP := by
  have := intsFrom_nat (l := 0) (n := n)
  rw [List.range_eq_range']; exact this
theorem boatP_at {b : Bt} : atI [nP b.craft, nP b.work, nP b.laid, nP b.tide] 0 = some (nP b.craft) ∧ atI [nP b.craft, nP b.work, nP b.laid, nP b.tide] 1 = some (nP b.work) ∧ atI [nP b.craft, nP b.work, nP b.laid, nP b.tide] 2 = some (nP b.laid) ∧ atI [nP b.craft, nP b.work, nP b.laid, nP b.tide] 3 = some (nP b.tide) := ⟨at4_0, at4_1, at4_2, at4_3⟩
theorem YOk.bt {y : YD} (h : YOk y) {n : Nat} {bt : Bt} (e : y.boats[n]? = some bt) : BOk y.days bt := h.bo bt (List.mem_of_getElem? e)
theorem YOk.hd {y : YD} (h : YOk y) {n : Nat} {hd : Hd} (e : y.hands[n]? = some hd) : HOk y.days hd := h.ho hd (List.mem_of_getElem? e)
theorem sem_told_days : Sem (sp_told_days ad) 2 (t_told_days ad) := by
  rintro _ M Q E ⟨y, b, bt, rfl, ok, e, q⟩
  have B := ok.bt e
  have := ok.d2
  have b1 := B.lt
  have b2 := B.td
  simp [t_told_days, atI_map_nat e, boatP, boatP_at, smW]
  refine ⟨by omega, ?_⟩
  rw [intsFrom_nat]
  exact clQ.of q
theorem sem_days_of : Sem (sp_days_of ad) 2 (t_days_of ad) := by
  rintro _ M Q E ⟨x, b, rfl, h⟩
  simp [t_days_of]
  refine ⟨x, b, rfl, onYard_imp h clW.of fun y e ok hb => onBoat_imp hb clW.of fun n bt e1 e2 q => ?_⟩
  subst e; subst e1
  exact ⟨_, _, _, rfl, ok, e2, clQ.of q⟩
theorem mem_nP {n : Nat} {ns : List Nat} : ((ns.map nP).any fun y => eqP y (nP n)) = decide (n ∈ ns) := by
  induction ns with
  | nil => rfl
  | cons m ns ih =>
    rw [List.map_cons, List.any_cons, ih]
    have e : eqP (nP m) (nP n) = decide (m = n) := by
      show (((m : Int) == (n : Int)) : Bool) = _
      by_cases c : m = n
      · simp [c]
      · simp [c]; omega
    rw [e]
    by_cases c : m = n
    · simp [c]
    · have c' : ¬ n = m := fun z => c z.symm
      simp [c, c']
theorem flat_nP {ns : List Nat} : (ns.map nP).all flatP = true := by simp [flatP]
theorem inW_set {n : Nat} {ns : List Nat} {k : Bool → Prop} : inW (nP n) (setP ns) k = k (decide (n ∈ ns)) := by
  show ((flatP (nP n) = true ∧ (ns.map nP).all flatP = true) ∧ k ((ns.map nP).any fun y => eqP y (nP n))) = _
  rw [mem_nP, flat_nP]
  simp [flatP]
theorem look_set {M : Mem} {ns : List Nat} : look M (setP ns) = setP ns := rfl
@[simp] theorem e_in {x y : PV} {k : PV → Prop} : rIn3 x y k = inW x y fun b => k (.bl b) := rfl
@[simp] theorem e_notIn {x y : PV} {k : PV → Prop} : rNotIn3 x y k = inW x y fun b => k (.bl (!b)) := rfl
theorem sem_can_work : Sem (sp_can_work ad) 6 (t_can_work ad) := by
  rintro _ M Q E ⟨y, d, h, c, hd, rfl, ok, e, q⟩
  simp [t_can_work, atI_map_nat e, handP, look_set, inW_set]
  unfold canW at q
  by_cases k : c ∈ hd.crafts
  · simp [k] at q ⊢; exact clQ.of q
  · simp [k] at q ⊢; exact clQ.of q
theorem tup_n {ns : List Nat} : PV.tup (ns.map nP) = setP ns := rfl
/-- what passes, of numbers -/
theorem comp_filterN {c : TT3} {vs : List Nat} {g : TG3} {te : TE3} {σ : Sl} {M : Mem} {Q : PV → Mem → Prop} (p : Nat → Bool) (ns : List Nat) (h : ∀ n ∈ ns, ∀ Qt Qf, (if p n = true then Qt (nP n) M else Qf M) → turnW g c te (nP n) (wipe3 σ vs) M Qt Qf) (hq : Q (.lst ((ns.filter p).map nP)) M) : compW g c te vs σ Q (ns.map nP) [] M := by
  refine comp_filter (fun v => match v with | .int i => p i.toNat | _ => false) _ (fun v hv Qt Qf k => ?_) ?_
  · obtain ⟨n, hn, rfl⟩ := List.mem_map.mp hv
    exact h n hn Qt Qf (by simpa [nP] using k)
  · rw [List.filter_map]
    have e : ((fun v => match v with | .int i => p i.toNat | _ => false) ∘ nP) = p := by funext n; simp [nP]
    rw [e]; exact hq
/-- each number changed -/
theorem comp_mapN {vs : List Nat} {g : TG3} {te : TE3} {σ : Sl} {M : Mem} {Q : PV → Mem → Prop} (f : Nat → PV) (ns : List Nat) (h : ∀ n ∈ ns, ∀ Qt Qf, Qt (f n) M → turnW g tYes3 te (nP n) (wipe3 σ vs) M Qt Qf) (hq : Q (.lst (ns.map f)) M) : compW g tYes3 te vs σ Q (ns.map nP) [] M := by
  refine comp_map (fun v => match v with | .int i => f i.toNat | _ => .non) _ (fun v hv Qt Qf k => ?_) ?_
  · obtain ⟨n, hn, rfl⟩ := List.mem_map.mp hv
    exact h n hn Qt Qf (by simpa [nP] using k)
  · rw [List.map_map]
    have e : ((fun v => match v with | .int i => f i.toNat | _ => .non) ∘ nP) = f := by funext n; simp [nP]
    rw [e]; exact hq
/-- each of a list of things changed -/
theorem comp_mapF {α : Type} {vs : List Nat} {g : TG3} {te : TE3} {σ : Sl} {M : Mem} {Q : PV → Mem → Prop} (e : α → PV) (f : α → PV) : ∀ (xs : List α) {acc : List PV}, (∀ x ∈ xs, ∀ Qt Qf, Qt (f x) M → turnW g tYes3 te (e x) (wipe3 σ vs) M Qt Qf) → Q (.lst (acc ++ xs.map f)) M → compW g tYes3 te vs σ Q (xs.map e) acc M
  | [], acc, _, hq => by simpa using hq
  | x :: xs, acc, h, hq => by
    rw [List.map_cons, compW_cons]
    exact h x (by simp) _ _ (comp_mapF e f xs (fun y hy => h y (by simp [hy])) (by simpa using hq))
/-- .. and filtered -/
theorem comp_fmF {α : Type} {c : TT3} {vs : List Nat} {g : TG3} {te : TE3} {σ : Sl} {M : Mem} {Q : PV → Mem → Prop} (e : α → PV) (f : α → PV) (p : α → Bool) : ∀ (xs : List α) {acc : List PV}, (∀ x ∈ xs, ∀ Qt Qf, (if p x = true then Qt (f x) M else Qf M) → turnW g c te (e x) (wipe3 σ vs) M Qt Qf) → Q (.lst (acc ++ (xs.filter p).map f)) M → compW g c te vs σ Q (xs.map e) acc M
  | [], acc, _, hq => by simpa using hq
  | x :: xs, acc, h, hq => by
    rw [List.map_cons, compW_cons]
    refine h x (by simp) _ _ ?_
    by_cases k : p x = true
    · rw [if_pos k]
      refine comp_fmF e f p xs (fun y hy => h y (by simp [hy])) ?_
      simpa [k] using hq
    · rw [if_neg k]
      refine comp_fmF e f p xs (fun y hy => h y (by simp [hy])) ?_
      simpa [k] using hq
theorem sem_told_hands : Sem (sp_told_hands ad) 4 (t_told_hands ad) := by
  rintro _ M Q E ⟨y, d, b, bt, rfl, ok, e, q⟩
  have := ok.nh
  simp [t_told_hands, smW]
  refine ⟨by omega, ?_⟩
  rw [intsFrom_zero]
  refine comp_filterN (fun h => canW (y.hands.getD h default) d bt.craft) _ (fun h hh Qt Qf k => ?_) ?_
  · have hl : h < y.hands.length := List.mem_range.mp hh
    have eh : y.hands[h]? = some (y.hands.getD h default) := by simp [List.getD, hl]
    simp [turnW, atI_map_nat e, boatP, boatP_at]
    exact ⟨_, _, _, _, _, rfl, ok, eh, by simpa using k⟩
  · simp only [e_lkL, e_tuple3, e_seqL]
    exact clQ.of q
theorem sem_hands_for : Sem (sp_hands_for ad) 3 (t_hands_for ad) := by
  rintro _ M Q E ⟨x, d, b, rfl, h⟩
  simp [t_hands_for]
  refine ⟨x, b, rfl, onYard_imp h clW.of fun y e ok hb => onBoat_imp hb clW.of fun n bt e1 e2 ⟨hp, q⟩ => ?_⟩
  subst e; subst e1
  simp [atI_map_nat e2, boatP, boatP_at, hp]
  by_cases c : within bt.laid ((bt.tide : Int) - 1) d = true
  · rw [if_pos c] at q ⊢
    obtain ⟨m, rfl, q⟩ := q
    exact ⟨_, _, _, _, rfl, ok, e2, clQ.of q⟩
  · rw [if_neg c] at q ⊢
    exact clQ.of q
theorem sum_nP : ∀ ns : List Nat, ((ns.map fun (n : Nat) => (n : Int))).sum = ((ns.sum : Nat) : Int)
  | [] => rfl
  | n :: ns => by rw [List.map_cons, List.sum_cons, List.sum_cons, sum_nP ns]; omega
theorem sem_all_work : Sem (sp_all_work ad) 2 (t_all_work ad) := by
  rintro _ M Q E ⟨x, rfl, h⟩
  simp [t_all_work]
  refine ⟨x, rfl, onYard_imp h clW.of fun y e ok q => ?_⟩
  subst e
  simp
  refine comp_mapF boatP (fun b => nP b.work) y.boats (fun b _ Qt Qf k => ?_) ?_
  · simp [turnW, boatP, boatP_at]; exact k
  · rw [List.nil_append, show (y.boats.map fun b => nP b.work) = ((y.boats.map (·.work)).map fun (n : Nat) => (n : Int)).map PV.int from by simp [nP], e_lkL, rSum_ints, sum_nP]
    exact clQ.of q
theorem sem__law_able : Sem (sp__law_able ad) 4 (t__law_able ad) := by
  rintro _ M Q E ⟨hs, d, h, c, hd, rfl, e, q⟩
  have g0 : ∀ a b : PV, atI [a, b] 1 = some b := fun a b => by rw [T3.atI_nat (by decide)]; rfl
  simp [t__law_able, atI_map_nat e, handP, look_set, inW_set, g0]
  unfold canW at q
  by_cases k : c ∈ hd.crafts
  · simp [k] at q ⊢; exact clQ.of q
  · simp [k] at q ⊢; exact clQ.of q
theorem sem__law_bad_yard : Sem (sp__law_bad_yard ad) 1 (t__law_bad_yard ad) := by
  rintro _ M Q E ⟨ra, rfl, hr, q⟩
  simp [t__law_bad_yard]
  exact ⟨_, _, rfl, hr, ⟨by decide, by decide⟩, fun y M' hy r els => clQ.of (q y M' hy r els)⟩
end Y

namespace Y
open PySem PySem.Spec PyProof.Rows L2 T3
variable {ad : Ad}
/-! ## a yard from what is right -/
theorem isSet_of {ns : List Nat} {m : Int} (h1 : ns.Pairwise (· < ·)) (h2 : ∀ n ∈ ns, (n : Int) ≤ m) : isSet m (setP ns) = true := by
  show ((ns.map nP).all (within 0 m) && asc (ns.map nP)) = true
  rw [Bool.and_eq_true]
  constructor
  · rw [List.all_eq_true]
    intro x hx
    obtain ⟨n, hn, rfl⟩ := List.mem_map.mp hx
    simp [within]
    exact h2 n hn
  · have e : ns.map nP = (ns.map fun (n : Nat) => (n : Int)).map PV.int := by simp [nP]
    rw [e, asc_ints]
    clear e h2
    induction ns with
    | nil => rfl
    | cons a r ih =>
      cases r with
      | nil => rfl
      | cons b r =>
        have p := List.pairwise_cons.mp h1
        have l : a < b := p.1 b (by simp)
        have := ih p.2
        simp only [List.map_cons, ascI] at this ⊢
        simp [this]
        omega
theorem handOk_of {d : Nat} {h : Hd} (k : HOk d h) : handOk (d : Int) (handP h) = true := by
  unfold handP
  rw [handOk_eq, isSet_of k.ac fun n hn => by have := k.bc n hn; omega, isSet_of k.aa fun n hn => by have := k.ba n hn; omega]
  cases e : h.crafts with
  | nil => exact absurd e k.ne
  | cons a r => rfl
theorem boatOk_of {d : Nat} {b : Bt} (k : BOk d b) : boatOk (d : Int) (boatP b) = true := by
  unfold boatP
  rw [boatOk_eq]
  have h1 := k.c; have h2 := k.w; have h3 := k.lt; have h4 := k.td
  simp [within]
  omega
theorem badAt_none {p : PV → Bool} : ∀ {xs : List PV} {i : Nat}, (∀ x ∈ xs, p x = true) → badAt p i xs = none
  | [], _, _ => rfl
  | x :: xs, i, h => by
    unfold badAt
    rw [if_pos (h x (by simp))]
    exact badAt_none fun y hy => h y (by simp [hy])
theorem badAt_last {p : PV → Bool} : ∀ {xs : List PV} {i : Nat} {x : PV}, (∀ x ∈ xs, p x = true) → p x = false → badAt p i (xs ++ [x]) = some ((i + xs.length : Nat) : Int)
  | [], i, x, _, h => by
    show (if p x = true then _ else some (i : Int)) = _
    rw [h]; rfl
  | y :: xs, i, x, h, hx => by
    show (if p y = true then badAt p (i + 1) (xs ++ [x]) else _) = _
    rw [if_pos (h y (by simp)), badAt_last (fun z hz => h z (by simp [hz])) hx]
    simp; omega
theorem plain_setP {ns : List Nat} : plain2 (setP ns) = true := by
  unfold plain2 setP
  simp [rowOf, plain]
theorem plain_handP {h : Hd} : plain3 (handP h) = true := by
  unfold plain3 handP
  simp [rowOf, plain, plain_setP]
theorem plain_boatP {b : Bt} : plain2 (boatP b) = true := by
  unfold plain2 boatP
  simp [rowOf, plain]
theorem plain_of_row {x : PV} {xs : List PV} (e : rowOf x = some xs) : plain x = true := by cases x <;> first | rfl | cases e
theorem plain4_row {x : PV} {hs : List Hd} (e : rowOf x = some (hs.map handP)) : plain4 x = true := by
  unfold plain4
  rw [plain_of_row e, e]
  simp [plain_handP]
theorem plain3_row {x : PV} {bs : List Bt} (e : rowOf x = some (bs.map boatP)) : plain3 x = true := by
  unfold plain3
  rw [plain_of_row e, e]
  simp [plain_boatP]
theorem handsBad_none {d : Nat} {x : PV} {hs : List Hd} (e : rowOf x = some (hs.map handP)) (l : hs.length ≤ 8) (h : ∀ h ∈ hs, HOk d h) : rowBad (handOk (d : Int)) 8 x = none := by
  unfold rowBad
  rw [e]
  simp only [List.length_map, if_pos l]
  exact badAt_none fun x hx => by
    obtain ⟨k, hk, rfl⟩ := List.mem_map.mp hx
    exact handOk_of (h k hk)
theorem boatsBad_none {d : Nat} {x : PV} {bs : List Bt} (e : rowOf x = some (bs.map boatP)) (l : bs.length ≤ 8) (h : ∀ b ∈ bs, BOk d b) : rowBad (boatOk (d : Int)) 8 x = none := by
  unfold rowBad
  rw [e]
  simp only [List.length_map, if_pos l]
  exact badAt_none fun x hx => by
    obtain ⟨k, hk, rfl⟩ := List.mem_map.mp hx
    exact boatOk_of (h k hk)
theorem look_fresh {M : Mem} {a : Addr} {mo : MO} {x : PV} {xs : List PV} (ha : M a = none) (e : rowOf (look M x) = some xs) : look (M.put a mo) x = look M x := by
  cases x with
  | raw u =>
    cases u with
    | ref b =>
      by_cases h : b = a
      · subst h
        simp [look, ha, rowOf] at e
      · simp [look, Mem.put, h]
    | _ => rfl
  | _ => rfl
/-- Yard(..) of what is right -/
theorem yard_make {y : YD} {hv bv : PV} {M : Mem} {W : W3} {Q : PV → Mem → Prop} (ok : YOk y) (e1 : rowOf (look M hv) = some (y.hands.map handP)) (e2 : rowOf (look M bv) = some (y.boats.map boatP)) (q : Q (yv ad y) M) :
    makeW ad.c_Yard (sp_Yard___init__ ad) W [nP y.days, hv, bv] M Q := by
  intro a ha
  refine ⟨a, nP y.days, hv, bv, rfl, Mem.put_same, rfl, ?_⟩
  have h1 := ok.d1; have h2 := ok.d2
  rw [if_pos (by simp [within, nP]; omega), look_fresh ha e1, look_fresh ha e2]
  refine ⟨_, rfl, plain4_row e1, ?_⟩
  rw [handsBad_none e1 ok.nh ok.ho]
  refine ⟨plain3_row e2, ?_⟩
  rw [boatsBad_none e2 ok.nb ok.bo]
  refine ⟨_, _, e1, e2, rfl, _, Mem.put_same, ?_⟩
  rw [Mem.put_put, Mem.del_put ha]
  exact q
/-! ## data -/
theorem dpt_setP {n : Nat} {ns : List Nat} : dpt (n + 2) (setP ns) = true := by
  show (ns.map nP).all (dpt (n + 1)) = true
  simp
theorem dpt_handP {n : Nat} {h : Hd} : dpt (n + 3) (handP h) = true := by
  show [setP h.crafts, setP h.away].all (dpt (n + 2)) = true
  simp [dpt_setP]
theorem dpt_boatP {n : Nat} {b : Bt} : dpt (n + 2) (boatP b) = true := by
  show [nP b.craft, nP b.work, nP b.laid, nP b.tide].all (dpt (n + 1)) = true
  simp
theorem eqPs_refl {n : Nat} : ∀ {xs : List PV}, (∀ x ∈ xs, dpt n x = true) → eqPs xs xs = true
  | [], _ => rfl
  | x :: xs, h => by
    rw [eqPs_cc, eqP_refl n x (h x (by simp)), eqPs_refl fun y hy => h y (by simp [hy])]; rfl
theorem hands_refl {hs : List Hd} : eqPs (hs.map handP) (hs.map handP) = true := eqPs_refl (n := 3) fun x hx => by
  obtain ⟨h, _, rfl⟩ := List.mem_map.mp hx; exact dpt_handP (n := 0)
theorem boats_refl {bs : List Bt} : eqPs (bs.map boatP) (bs.map boatP) = true := eqPs_refl (n := 2) fun x hx => by
  obtain ⟨h, _, rfl⟩ := List.mem_map.mp hx; exact dpt_boatP (n := 0)
theorem okA_setP {n : Nat} {ns : List Nat} (l : ns.length ≤ 16777216) : okA (n + 2) (setP ns) = true := by
  show (decide ((ns.map nP).length ≤ 16777216) && (ns.map nP).all (okA (n + 1))) = true
  simp [l, okA]
theorem on_yard {x : PV} {M : Mem} {E : W3} {k : YD → Prop} {y : YD} (e : x = yv ad y) (ok : YOk y) (h : k y) : onYard ad x M E k := .inl ⟨y, e, ok, h⟩
theorem on_boat {y : YD} {n : Nat} {bt : Bt} {M : Mem} {E : W3} {k : Nat → Bt → Prop} (e : y.boats[n]? = some bt) (h : k n bt) : onBoat ad y (nP n) M E k := by
  have l := (List.getElem?_eq_some_iff.mp e).1
  exact ⟨rfl, by rw [if_pos (by simp [within, nP]; omega)]; exact ⟨n, bt, rfl, e, h⟩⟩
/-! ## numbers sorted, without doubles -/
theorem uniqP_ints : ∀ (xs acc : List Int), (∀ a ∈ acc, ∀ x ∈ xs, a ≤ x) → acc.Pairwise (· < ·) → xs.Pairwise (· ≤ ·) →
    ∃ ms : List Int, uniqP (acc.map .int) (xs.map .int) = ms.map .int ∧ ms.Pairwise (· < ·) ∧ ∀ z, z ∈ ms ↔ z ∈ acc ∨ z ∈ xs
  | [], acc, _, h2, _ => ⟨acc, rfl, h2, by simp⟩
  | x :: xs, acc, h1, h2, h3 => by
    have p := List.pairwise_cons.mp h3
    have go : ∀ acc', acc' = (if acc = [] ∨ (acc.getLastD 0 == x) = false then acc ++ [x] else acc) → acc'.Pairwise (· < ·) ∧ (∀ a ∈ acc', ∀ y ∈ xs, a ≤ y) ∧ ∀ z, z ∈ acc' ↔ z ∈ acc ∨ z = x := fun acc' e => by
      have last : acc ≠ [] → acc.getLastD 0 ∈ acc ∧ ∀ a ∈ acc, a ≤ acc.getLastD 0 := fun hne => by
        have e1 : acc.getLastD 0 = acc.getLast hne := by rw [List.getLastD_eq_getLast?, List.getLast?_eq_some_getLast hne]; rfl
        rw [e1]
        refine ⟨List.getLast_mem hne, fun a ha => ?_⟩
        have := List.dropLast_concat_getLast hne
        rw [← this] at ha h2
        rcases List.mem_append.mp ha with z | z
        · exact Int.le_of_lt ((List.pairwise_append.mp h2).2.2 a z _ (by simp))
        · rw [List.mem_singleton.mp z]; exact Int.le_refl _
      by_cases c : acc = [] ∨ (acc.getLastD 0 == x) = false
      · rw [if_pos c] at e
        subst e
        refine ⟨List.pairwise_append.mpr ⟨h2, by simp, fun a ha b hb => ?_⟩, fun a ha y hy => ?_, by simp⟩
        · rw [List.mem_singleton.mp hb]
          have hle := h1 a ha x (by simp)
          rcases c with c | c
          · subst c; simp at ha
          · have hne : acc ≠ [] := fun z => by subst z; simp at ha
            obtain ⟨l1, l2⟩ := last hne
            have := l2 a ha
            have := h1 _ l1 x (by simp)
            have : acc.getLastD 0 ≠ x := by simpa using c
            omega
        · rcases List.mem_append.mp ha with z | z
          · exact h1 a z y (by simp [hy])
          · rw [List.mem_singleton.mp z]; exact p.1 y hy
      · rw [if_neg c] at e
        subst e
        have hne : acc' ≠ [] := fun z => c (.inl z)
        have hx : acc'.getLastD 0 = x := by
          have := fun z => c (.inr z)
          simpa using this
        refine ⟨h2, fun a ha y hy => h1 a ha y (by simp [hy]), fun z => ⟨.inl, fun h => ?_⟩⟩
        rcases h with h | h
        · exact h
        · rw [h, ← hx]; exact (last hne).1
    have e2 : uniqP (acc.map .int) ((x :: xs).map .int) = uniqP ((if acc = [] ∨ (acc.getLastD 0 == x) = false then acc ++ [x] else acc).map .int) (xs.map .int) := by
      show uniqP (if acc.map PV.int = [] ∨ eqP ((acc.map PV.int).getLastD .non) (.int x) = false then acc.map .int ++ [.int x] else acc.map .int) (xs.map .int) = _
      have ee : (acc.map PV.int = [] ∨ eqP ((acc.map PV.int).getLastD .non) (.int x) = false) ↔ (acc = [] ∨ (acc.getLastD 0 == x) = false) := by
        cases acc with
        | nil => simp
        | cons a r =>
          have : ((a :: r).map PV.int).getLastD .non = .int ((a :: r).getLastD 0) := by
            rw [List.getLastD_eq_getLast?, List.getLastD_eq_getLast?, List.getLast?_map]
            cases h : (a :: r).getLast? with
            | none => simp at h
            | some z => rfl
          rw [this]
          exact or_congr (by simp) (Iff.rfl)
      by_cases c : acc = [] ∨ (acc.getLastD 0 == x) = false
      · rw [if_pos c, if_pos (ee.mpr c)]; simp
      · rw [if_neg c, if_neg (fun z => c (ee.mp z))]
    obtain ⟨g1, g2, g3⟩ := go _ rfl
    obtain ⟨ms, m1, m2, m3⟩ := uniqP_ints xs _ g2 g1 p.2
    refine ⟨ms, e2.trans m1, m2, fun z => ?_⟩
    rw [m3 z, g3 z]
    simp [or_assoc]
theorem dataLe_ltP {x y : PV} : PySem.W.dataLe false pdOf x y = !ltP y x := rfl
theorem pdOf_le {i j : Int} : PySem.W.dataLe false pdOf (.int i) (.int j) = !decide (j < i) := by
  rw [dataLe_ltP, ltP_int]
theorem sortP_ints {ns : List Int} : ∃ ms : List Int, sortP (ns.map .int) = ms.map .int ∧ ms.Pairwise (· ≤ ·) ∧ ms.Perm ns := by
  refine ⟨ns.mergeSort fun i j => !decide (j < i), ?_, ?_, List.mergeSort_perm ..⟩
  · unfold sortP
    exact (List.map_mergeSort (f := PV.int) (r := fun i j => !decide (j < i)) (s := PySem.W.dataLe false pdOf) (l := ns) fun a _ b _ => pdOf_le.symm).symm
  · have := List.pairwise_mergeSort (le := fun (i j : Int) => !decide (j < i)) (fun a b c h1 h2 => by simp at h1 h2 ⊢; omega) (fun a b => by simp; omega) ns
    exact this.imp fun h => by simpa using h
/-- sorted without doubles -/
theorem unlike_ints {ns : List Int} : ∃ ms : List Int, uniqP [] (sortP (ns.map .int)) = ms.map .int ∧ ms.Pairwise (· < ·) ∧ ∀ z, z ∈ ms ↔ z ∈ ns := by
  obtain ⟨ss, e, p, pm⟩ := sortP_ints (ns := ns)
  obtain ⟨ms, m1, m2, m3⟩ := uniqP_ints ss [] (by simp) .nil p
  refine ⟨ms, by rw [e]; exact m1, m2, fun z => ?_⟩
  rw [m3 z]
  simp [pm.mem_iff]
end Y

namespace Y
open PySem PySem.Spec PyProof.Rows L2 T3
variable {ad : Ad}
/-! ## what the law draws -/
/-- a draw below n -/
theorem takenN {a : Addr} {M : Mem} {n : Int} {Q : PV → Mem → Prop} {W : W3} (h : RowAt M a) (h1 : 0 < n) (h2 : n < 18446744073709551616) (q : ∀ (v : Nat) M', (v : Int) < n → RowAt M' a → Els a M M' → Q (nP v) M') : sp__law_taken ad [.raw (.ref a), .int n] M Q W :=
  ⟨a, n, rfl, h, ⟨h1, h2⟩, fun v M' v0 v1 r e => by
    obtain ⟨k, rfl⟩ := Int.eq_ofNat_of_zero_le v0
    exact q k M' v1 r e⟩
theorem pickN {a : Addr} {M : Mem} {ys : List PV} {Q : PV → Mem → Prop} {W : W3} (h : RowAt M a) (h1 : 0 < ys.length) (h2 : ys.length < 18446744073709551616) (q : ∀ y M', y ∈ ys → RowAt M' a → Els a M M' → Q y M') : sp__law_pick ad [.raw (.ref a), .lst ys] M Q W :=
  ⟨a, ys, rfl, h, ⟨h1, h2⟩, q⟩
/-- a list of draws below n -/
theorem comp_draws {α : Type} {e : α → PV} {a : Addr} {g : TG3} {te : TE3} {vs : List Nat} {σ : Sl} {M0 : Mem} {Q : PV → Mem → Prop} (P : Nat → Prop) : ∀ (xs : List α) {acc : List PV} {M : Mem}, (∀ x ∈ xs, ∀ M Qt Qf, RowAt M a → Els a M0 M → (∀ (v : Nat) M', P v → RowAt M' a → Els a M0 M' → Qt (nP v) M') → turnW g tYes3 te (e x) (wipe3 σ vs) M Qt Qf) → RowAt M a → Els a M0 M →
    (∀ (ns : List Nat) M', ns.length = xs.length → (∀ x ∈ ns, P x) → RowAt M' a → Els a M0 M' → Q (.lst (acc ++ ns.map nP)) M') → compW g tYes3 te vs σ Q (xs.map e) acc M
  | [], acc, M, _, hr, he, hq => by simpa using hq [] M rfl (by simp) hr he
  | x :: xs, acc, M, h, hr, he, hq => by
    rw [List.map_cons, compW_cons]
    refine h x (by simp) M _ _ hr he fun v M' hv hr' he' => comp_draws P xs (fun y hy => h y (by simp [hy])) hr' he' fun ns M2 hl hn r2 e2 => ?_
    simpa using hq (v :: ns) M2 (by simp [hl]) (by simp [hv]; exact hn) r2 e2
/-- some of the numbers, by draws -/
theorem comp_some {a : Addr} {g : TG3} {c : TT3} {te : TE3} {vs : List Nat} {σ : Sl} {M0 : Mem} {Q : PV → Mem → Prop} : ∀ (ns : List Nat) {acc : List PV} {M : Mem}, (∀ n ∈ ns, ∀ M Qt Qf, RowAt M a → Els a M0 M → (∀ M', RowAt M' a → Els a M0 M' → Qt (nP n) M') → (∀ M', RowAt M' a → Els a M0 M' → Qf M') → turnW g c te (nP n) (wipe3 σ vs) M Qt Qf) → RowAt M a → Els a M0 M →
    (∀ (sub : List Nat) M', sub.Sublist ns → RowAt M' a → Els a M0 M' → Q (.lst (acc ++ sub.map nP)) M') → compW g c te vs σ Q (ns.map nP) acc M
  | [], acc, M, _, hr, he, hq => by simpa using hq [] M .slnil hr he
  | n :: ns, acc, M, h, hr, he, hq => by
    rw [List.map_cons, compW_cons]
    refine h n (by simp) M _ _ hr he (fun M' hr' he' => ?_) fun M' hr' he' => ?_
    · refine comp_some ns (fun y hy => h y (by simp [hy])) hr' he' fun sub M2 hs r2 e2 => ?_
      simpa using hq (n :: sub) M2 (hs.cons₂ n) r2 e2
    · exact comp_some ns (fun y hy => h y (by simp [hy])) hr' he' fun sub M2 hs r2 e2 => hq sub M2 (hs.cons n) r2 e2
theorem nats_of {ms : List Int} (h : ∀ z ∈ ms, 0 ≤ z) : ∃ ns : List Nat, ms = ns.map fun (n : Nat) => (n : Int) := by
  induction ms with
  | nil => exact ⟨[], rfl⟩
  | cons m ms ih =>
    obtain ⟨n, rfl⟩ := Int.eq_ofNat_of_zero_le (h m (by simp))
    obtain ⟨ns, rfl⟩ := ih fun z hz => h z (by simp [hz])
    exact ⟨n :: ns, rfl⟩
theorem nP_map {ns : List Nat} : ns.map nP = (ns.map fun (n : Nat) => (n : Int)).map PV.int := by simp [nP]
/-- numbers sorted, without doubles -/
theorem unlike_nats {ns : List Nat} : ∃ ms : List Nat, uniqP [] (sortP (ns.map nP)) = ms.map nP ∧ ms.Pairwise (· < ·) ∧ ∀ z, z ∈ ms ↔ z ∈ ns := by
  rw [nP_map]
  obtain ⟨zs, e, p, m⟩ := unlike_ints (ns := ns.map fun (n : Nat) => (n : Int))
  obtain ⟨ms, rfl⟩ := nats_of (ms := zs) fun z hz => by
    have := (m z).mp hz
    obtain ⟨n, _, rfl⟩ := List.mem_map.mp this
    omega
  refine ⟨ms, by rw [e, nP_map], ?_, fun z => ?_⟩
  · exact (List.pairwise_map.mp p).imp fun h => by omega
  · have h := m (z : Int)
    have c : ∀ xs : List Nat, (z : Int) ∈ xs.map (fun (n : Nat) => (n : Int)) ↔ z ∈ xs := fun xs => by
      rw [List.mem_map]
      exact ⟨fun ⟨n, hn, e⟩ => by rw [show z = n from by omega]; exact hn, fun hz => ⟨z, hz, rfl⟩⟩
    rw [c, c] at h
    exact h
theorem unlike_do {ns : List Nat} {M : Mem} {Q : PV → Mem → Prop} {W : W3} (hl : ns.length ≤ 1000) (q : ∀ ms : List Nat, ms.Pairwise (· < ·) → (∀ z, z ∈ ms ↔ z ∈ ns) → Q (.lst (ms.map nP)) M) : sp__law_unlike ad [.lst (ns.map nP)] M Q W := by
  obtain ⟨ms, e, p, m⟩ := unlike_nats (ns := ns)
  refine ⟨_, _, rfl, rfl, rfl, ⟨?_, .inr fun x hx => ?_⟩, fun y hy => ?_, by simp; omega, ?_⟩
  · rw [nP_map]; exact alikeP_ints
  · obtain ⟨n, _, rfl⟩ := List.mem_map.mp hx; rfl
  · obtain ⟨n, _, rfl⟩ := List.mem_map.mp hy; rfl
  · rw [e]; exact q ms p m
/-- one hand is drawn -/
theorem b1_parts {ra : Addr} {M0 M : Mem} {W : W3} {days kinds : Nat} {hs : List Hd} {z m bs : PV} {s6 s7 s8 s9 s10 s11 s12 s13 : Slot} {D : D3} (d1 : 1 ≤ days) (d2 : days ≤ 14) (k1 : 1 ≤ kinds) (k2 : kinds ≤ 4) (hl : hs.length ≤ 100) (hr : RowAt M ra) (he : Els ra M0 M)
    (n13 : ∀ x, s13 ≠ .own x) (n12 : ∀ x, s12 ≠ .own x)
    (q : ∀ h M' s7 s8, HOk days h → RowAt M' ra → Els ra M0 M' → D.nx [.val (.raw (.ref ra)), .val m, .val (nP days), .own (.lst ((hs ++ [h]).map handP)), .own bs, .val (nP kinds), s6, s7, s8, s9, s10, s11, s12, s13] M') :
    b1__law_yard_parts ad W D [.val (.raw (.ref ra)), .val m, .val (nP days), .own (.lst (hs.map handP)), .own bs, .val (nP kinds), s6, s7, s8, s9, s10, s11, s12, s13] M := by
  have no : ∀ s : Slot, (∀ x, s ≠ .own x) → (match some s with | some (Slot.own x) => False | _ => True) := fun s h => by
    cases s <;> first | trivial | (rename_i x; exact h x rfl)
  simp [b1__law_yard_parts]
  refine ⟨no _ n13, takenN hr (by decide) (by decide) fun v M1 hv r1 e1 => ?_⟩
  simp [smW]
  refine ⟨by omega, ?_⟩
  rw [show ((1 : Int) + (v : Int)).toNat = 1 + v from by omega, intsFrom_zero]
  refine comp_draws (M0 := M0) (a := ra) (fun v => v < kinds) _ (fun x hx M Qt Qf r e q => ?_) r1 (he.trans e1) fun ns M2 hl2 hn r2 e2 => ?_
  · simp [turnW]
    exact takenN r (by omega) (by omega) fun v M' hv r' e' => q v M' (by omega) r' (e.trans e')
  · simp at hl2
    refine unlike_do (by omega) fun cs pc mc => ?_
    simp
    refine ⟨no _ n12, by omega, ?_⟩
    refine comp_some (M0 := M0) (a := ra) _ (fun n hn M Qt Qf r e q1 q2 => ?_) r2 e2 fun sub M3 hs3 r3 e3 => ?_
    · simp [turnW]
      refine takenN r (by decide) (by decide) fun v M' hv r' e' => ?_
      simp
      by_cases c : v = 0
      · simp [c]; exact q1 M' r' (e.trans e')
      · simp [c]; exact q2 M' r' (e.trans e')
    · simp
      refine ⟨by omega, ?_⟩
      have h1 : HOk days ⟨cs, sub⟩ := by
        refine ⟨fun z => ?_, pc, fun c hc => ?_, List.Pairwise.sublist hs3 List.pairwise_lt_range, fun d hd => ?_⟩
        · have : ns ≠ [] := fun z2 => by subst z2; simp at hl2; omega
          obtain ⟨x, r, e⟩ := List.exists_cons_of_ne_nil this
          have := (mc x).mpr (by rw [e]; simp)
          simp only at z
          rw [z] at this; simp at this
        · have := hn c ((mc c).mp hc); omega
        · exact List.mem_range.mp (hs3.subset hd)
      have := q ⟨cs, sub⟩ M3 (.val (.lst (cs.map nP))) (.val (.lst (sub.map nP))) h1 r3 e3
      simpa [handP, setP] using this
/-- one boat is drawn -/
theorem b2_parts {ra : Addr} {M0 M : Mem} {W : W3} {days kinds : Nat} {bs : List Bt} {z m hs : PV} {s6 s7 s8 s9 s10 s11 s12 s13 : Slot} {D : D3} (d1 : 1 ≤ days) (d2 : days ≤ 14) (k1 : 1 ≤ kinds) (k2 : kinds ≤ 4) (hl : bs.length ≤ 100) (hr : RowAt M ra) (he : Els ra M0 M)
    (q : ∀ b M' s9 s10 s11, BOk days b → b.work ≤ b.tide - b.laid + 1 → b.laid < days → RowAt M' ra → Els ra M0 M' → D.nx [.val (.raw (.ref ra)), .val m, .val (nP days), .own hs, .own (.lst ((bs ++ [b]).map boatP)), .val (nP kinds), s6, s7, s8, s9, s10, s11, s12, s13] M') :
    b2__law_yard_parts ad W D [.val (.raw (.ref ra)), .val m, .val (nP days), .own hs, .own (.lst (bs.map boatP)), .val (nP kinds), s6, s7, s8, s9, s10, s11, s12, s13] M := by
  simp [b2__law_yard_parts]
  refine takenN hr (by omega) (by omega) fun laid M1 h1 r1 e1 => ?_
  simp
  refine takenN r1 (by omega) (by omega) fun more M2 h2 r2 e2 => ?_
  simp
  refine takenN r2 (by omega) (by omega) fun six M3 h3 r3 e3 => ?_
  simp
  have fin : ∀ (k : Int) M4 (v : Nat), (v : Int) < (laid : Int) + (more : Int) - laid + k → k ≤ 2 → RowAt M4 ra → Els ra M0 M4 → sp__law_taken ad [.raw (.ref ra), nP kinds] M4 (fun x M5 => bs.length < 16777216 ∧ D.nx [.val (.raw (.ref ra)), .val m, .val (nP days), .own hs, .own (.lst (bs.map boatP ++ [.tup [x, .int (if (v : Int) < 14 then v else 14), .int laid, .int ((laid : Int) + more)]])), .val (nP kinds), s6, s7, s8, .val (.int laid), .val (.int ((laid : Int) + more)), .val (.int (if (v : Int) < 14 then v else 14)), s12, s13] M5) W := fun k M4 v hv hk r4 e4 => by
    refine takenN r4 (by omega) (by omega) fun c M5 hc r5 e5 => ⟨by omega, ?_⟩
    have B : BOk days ⟨c, min v 14, laid, laid + more⟩ := ⟨by simp only; omega, by simp only; omega, by simp only; omega, by simp only; omega⟩
    have g := q ⟨c, min v 14, laid, laid + more⟩ M5 (.val (.int laid)) (.val (.int ((laid : Int) + more))) (.val (.int (if (v : Int) < 14 then v else 14))) B (by simp only; omega) (by simp only; omega) r5 (e4.trans e5)
    have ev : (if (v : Int) < 14 then (v : Int) else 14) = ((min v 14 : Nat) : Int) := by
      by_cases c : (v : Int) < 14
      · rw [if_pos c]; omega
      · rw [if_neg c]; omega
    rw [ev] at g ⊢
    rw [List.map_append] at g
    simp only [boatP, nP, List.map_cons, List.map_nil] at g
    rw [show (((laid + more : Nat)) : Int) = (laid : Int) + more from by omega] at g
    exact g
  by_cases c : six = 0
  · simp [c]
    refine takenN r3 (by omega) (by omega) fun v M4 hv r4 e4 => ?_
    simp
    exact fin 2 M4 v (by omega) (by omega) r4 (((he.trans e1).trans e2).trans (e3.trans e4))
  · simp [c]
    refine takenN r3 (by omega) (by omega) fun v M4 hv r4 e4 => ?_
    simp
    exact fin 1 M4 v (by omega) (by omega) r4 (((he.trans e1).trans e2).trans (e3.trans e4))
theorem hands_draw {ra : Addr} {M0 : Mem} {W : W3} {days kinds : Nat} {m bs : PV} {D : D3} (d1 : 1 ≤ days) (d2 : days ≤ 14) (k1 : 1 ≤ kinds) (k2 : kinds ≤ 4)  {s9 s10 s11 s12 s13 : Slot} (n13 : ∀ x, s13 ≠ .own x) (n12 : ∀ x, s12 ≠ .own x)
    : ∀ (n : Nat) (xs : List PV) (hs : List Hd) (M : Mem) (s6 s7 s8 : Slot), xs.length = n → hs.length + n ≤ 100 → (∀ h ∈ hs, HOk days h) → RowAt M ra → Els ra M0 M →
    (∀ (hs' : List Hd) M' s6 s7 s8, hs'.length = hs.length + n → (∀ h ∈ hs', HOk days h) → RowAt M' ra → Els ra M0 M' → D.nx [.val (.raw (.ref ra)), .val m, .val (nP days), .own (.lst (hs'.map handP)), .own bs, .val (nP kinds), s6, s7, s8, s9, s10, s11, s12, s13] M') →
    forW (gName3 6) (b1__law_yard_parts ad W) D xs [.val (.raw (.ref ra)), .val m, .val (nP days), .own (.lst (hs.map handP)), .own bs, .val (nP kinds), s6, s7, s8, s9, s10, s11, s12, s13] M
  | 0, [], hs, M, s6, s7, s8, _, _, ho, hr, he, q => q hs M s6 s7 s8 (by simp) ho hr he
  | n + 1, x :: xs, hs, M, s6, s7, s8, hx, hl, ho, hr, he, q => by
    rw [e_forC]
    show b1__law_yard_parts ad W _ [.val (.raw (.ref ra)), .val m, .val (nP days), .own (.lst (hs.map handP)), .own bs, .val (nP kinds), .val x, s7, s8, s9, s10, s11, s12, s13] M
    refine b1_parts (z := .non) d1 d2 k1 k2 (by omega) hr he n13 n12 fun h M' s7 s8 hh r e => ?_
    refine hands_draw d1 d2 k1 k2 n13 n12 n xs (hs ++ [h]) M' _ s7 s8 (by simpa using hx) (by simp; omega) (fun y hy => ?_) r e fun hs' M' s6 s7 s8 l => q hs' M' s6 s7 s8 (by simp at l; omega)
    rcases List.mem_append.mp hy with hy | hy
    · exact ho y hy
    · rw [List.mem_singleton.mp hy]; exact hh
theorem boats_draw {ra : Addr} {M0 : Mem} {W : W3} {days kinds : Nat} {m hs : PV} {D : D3} (d1 : 1 ≤ days) (d2 : days ≤ 14) (k1 : 1 ≤ kinds) (k2 : kinds ≤ 4) {s7 s8 s12 s13 : Slot}
    : ∀ (n : Nat) (xs : List PV) (bs : List Bt) (M : Mem) (s6 s9 s10 s11 : Slot), xs.length = n → bs.length + n ≤ 100 → (∀ b ∈ bs, BOk days b ∧ b.work ≤ b.tide - b.laid + 1 ∧ b.laid < days) → RowAt M ra → Els ra M0 M →
    (∀ (bs' : List Bt) M' s6 s9 s10 s11, bs'.length = bs.length + n → (∀ b ∈ bs', BOk days b ∧ b.work ≤ b.tide - b.laid + 1 ∧ b.laid < days) → RowAt M' ra → Els ra M0 M' → D.nx [.val (.raw (.ref ra)), .val m, .val (nP days), .own hs, .own (.lst (bs'.map boatP)), .val (nP kinds), s6, s7, s8, s9, s10, s11, s12, s13] M') →
    forW (gName3 6) (b2__law_yard_parts ad W) D xs [.val (.raw (.ref ra)), .val m, .val (nP days), .own hs, .own (.lst (bs.map boatP)), .val (nP kinds), s6, s7, s8, s9, s10, s11, s12, s13] M
  | 0, [], bs, M, s6, s9, s10, s11, _, _, ho, hr, he, q => q bs M s6 s9 s10 s11 (by simp) ho hr he
  | n + 1, x :: xs, bs, M, s6, s9, s10, s11, hx, hl, ho, hr, he, q => by
    rw [e_forC]
    show b2__law_yard_parts ad W _ [.val (.raw (.ref ra)), .val m, .val (nP days), .own hs, .own (.lst (bs.map boatP)), .val (nP kinds), .val x, s7, s8, s9, s10, s11, s12, s13] M
    refine b2_parts (z := .non) d1 d2 k1 k2 (by omega) hr he fun b M' s9 s10 s11 hb hb2 hb3 r e => ?_
    refine boats_draw d1 d2 k1 k2 n xs (bs ++ [b]) M' _ s9 s10 s11 (by simpa using hx) (by simp; omega) (fun y hy => ?_) r e fun bs' M' s6 s9 s10 s11 l => q bs' M' s6 s9 s10 s11 (by simp at l; omega)
    rcases List.mem_append.mp hy with hy | hy
    · exact ho y hy
    · rw [List.mem_singleton.mp hy]; exact ⟨hb, hb2, hb3⟩
theorem sem__law_yard_parts : Sem (sp__law_yard_parts ad) 14 (t__law_yard_parts ad) := by
  rintro _ M Q E ⟨ra, most, rfl, hr, ⟨m1, m2⟩, q⟩
  simp [t__law_yard_parts, List.replicate]
  refine takenN hr (by omega) (by omega) fun d M1 hd r1 e1 => ?_
  simp
  refine takenN r1 (by decide) (by decide) fun k M2 hk r2 e2 => ?_
  simp
  refine takenN r2 (by decide) (by decide) fun nh M3 hn r3 e3 => ?_
  simp [smW]
  refine ⟨by omega, ?_⟩
  have ed : PV.int (1 + (d : Int)) = nP (1 + d) := by simp [nP]
  have ek : PV.int (1 + (k : Int)) = nP (1 + k) := by simp [nP]
  rw [ed, ek]
  refine hands_draw (M0 := M) (by omega) (by omega) (by omega) (by omega) (by simp) (by simp) nh _ [] M3 _ _ _ (by simp [T3.intsFrom]) (by simp; omega) (by simp) r3 ((e1.trans e2).trans e3) fun hs M4 s6 s7 s8 l4 ho r4 e4 => ?_
  simp
  refine takenN r4 (by decide) (by decide) fun nb M5 hb r5 e5 => ?_
  simp [smW]
  refine ⟨by omega, ?_⟩
  refine boats_draw (M0 := M) (by omega) (by omega) (by omega) (by omega) nb _ [] M5 _ _ _ _ (by simp [T3.intsFrom]) (by simp; omega) (by simp) r5 (e4.trans e5) fun bs M6 s6 s9 s10 s11 l6 bo r6 e6 => ?_
  simp [tFrz3]
  simp at l4 l6
  exact clQ.of (q ⟨1 + d, hs, bs⟩ M6 ⟨⟨by simp, by simp; omega, by simp; omega, by simp; omega, ho, fun b hb => (bo b hb).1⟩, by simp; omega, by simp; omega, by simp; omega, fun b hb => (bo b hb).2.1, fun b hb => (bo b hb).2.2⟩ r6 e6)
end Y

namespace Y
open PySem PySem.Spec PyProof.Rows L2 T3
variable {ad : Ad}
/-! ## what is refused -/
def unS : Slot → Slot | .own _ => .un | s => s
@[simp] theorem unown_cons {s : Slot} {σ : Sl} : unown (s :: σ) = unS s :: unown σ := by cases s <;> rfl
@[simp] theorem unS_val {x : PV} : unS (.val x) = .val x := rfl
@[simp] theorem unS_un : unS .un = .un := rfl
def repOk (x : PV) : Bool := (okR false 60 x || okR true 60 x) && decide (szR x ≤ 16777216)
theorem rep_do {wd : Str} {y : PV} {k : PV → Prop} (h : repOk (.tup [.str wd, y]) = true) (q : k (.str (reprS (.tup [.str wd, y])))) : rRepr3 [.tup [.str wd, y]] k := by
  unfold repOk at h
  rw [Bool.and_eq_true, Bool.or_eq_true, decide_eq_true_eq] at h
  exact ⟨h, q⟩
theorem bad_yard {x : PV} (h : x ∈ badYards) : plain x = true ∧ isIns ad.c_Yard x = some false ∧ repOk (.tup [.str "yard", x]) = true := by
  simp [badYards] at h
  rcases h with rfl | rfl | rfl | rfl | rfl | rfl <;> exact ⟨rfl, rfl, by decide +kernel⟩
theorem off_yard {x : PV} {M : Mem} {E : W3} {k : YD → Prop} (h : x ∈ badYards) (e : E ad.c_BadYard x M) : onYard ad x M E k := .inr ⟨(bad_yard h).2.1, e⟩
theorem off_boat {y : YD} {b : PV} {M : Mem} {E : W3} {k : Nat → Bt → Prop} (hp : plain b = true) (hw : within 0 ((y.boats.length : Int) - 1) b = false) (e : E ad.c_BadBoat b M) : onBoat ad y b M E k := ⟨hp, by rw [if_neg (by simp [hw])]; exact e⟩
theorem dS {wd : Str} {n : Nat} (h : PyData.strOk wd = true) : dpt (n + 1) (.str wd) = true := h
/-- a row that grew by one that is wrong -/
theorem row_last {p : PV → Bool} {m : Nat} {xs : List PV} {x : PV} (l : xs.length < m) (h : ∀ x ∈ xs, p x = true) (hx : p x = false) : rowBad p m (.lst (xs ++ [x])) = some (xs.length : Int) := by
  show (if (xs ++ [x]).length ≤ m then badAt p 0 (xs ++ [x]) else some (-1)) = _
  rw [if_pos (by simp; omega), badAt_last h hx]
  simp
theorem plain4_app {hs : List Hd} {v : PV} (h : plain3 v = true) : plain4 (.lst (hs.map handP ++ [v])) = true := by
  show (true && (hs.map handP ++ [v]).all plain3) = true
  simp [plain_handP, h]
theorem plain3_app {bs : List Bt} {v : PV} (h : plain2 v = true) : plain3 (.lst (bs.map boatP ++ [v])) = true := by
  show (true && (bs.map boatP ++ [v]).all plain2) = true
  simp [plain_boatP, h]
/-- Yard(..): what is wrong -/
theorem yard_days {dv hv bv : PV} {M : Mem} {W : W3} {Q : PV → Mem → Prop} (hp : plain dv = true) (hw : within 1 14 dv = false) (h : ∀ a, M a = none → W ad.c_BadDays dv (M.put a (.ins ad.c_Yard []))) : makeW ad.c_Yard (sp_Yard___init__ ad) W [dv, hv, bv] M Q := by
  intro a ha
  refine ⟨a, dv, hv, bv, rfl, Mem.put_same, hp, ?_⟩
  rw [if_neg (by simp [hw])]
  exact h a ha
theorem look_fresh2 {M : Mem} {a : Addr} {mo : MO} {x : PV} (ha : M a = none) (p : plain (look M x) = true) : look (M.put a mo) x = look M x := by
  cases x with
  | raw u =>
    cases u with
    | ref b =>
      by_cases h : b = a
      · subst h
        simp [look, ha, plain] at p
      · simp [look, Mem.put, h]
    | _ => rfl
  | _ => rfl
theorem yard_hands {d : Nat} {hv bv : PV} {M : Mem} {W : W3} {Q : PV → Mem → Prop} {i : Int} (d1 : 1 ≤ d) (d2 : d ≤ 14) (hp : plain4 (look M hv) = true) (hb : rowBad (handOk d) 8 (look M hv) = some i) (h : ∀ a, M a = none → W ad.c_BadHands (.int i) (M.put a (.ins ad.c_Yard []))) : makeW ad.c_Yard (sp_Yard___init__ ad) W [nP d, hv, bv] M Q := by
  intro a ha
  refine ⟨a, _, hv, bv, rfl, Mem.put_same, rfl, ?_⟩
  rw [if_pos (by simp [within, nP]; omega), look_fresh2 ha (plain2_1 (plain3_2 (plain4_3 hp)))]
  refine ⟨_, rfl, hp, ?_⟩
  rw [hb]
  exact h a ha
theorem yard_boats {d : Nat} {hv bv : PV} {M : Mem} {W : W3} {Q : PV → Mem → Prop} {i : Int} {hs : List Hd} (d1 : 1 ≤ d) (d2 : d ≤ 14) (e1 : rowOf (look M hv) = some (hs.map handP)) (l : hs.length ≤ 8) (ho : ∀ h ∈ hs, HOk d h) (bp : plain3 (look M bv) = true) (bb : rowBad (boatOk d) 8 (look M bv) = some i) (h : ∀ a, M a = none → W ad.c_BadBoats (.int i) (M.put a (.ins ad.c_Yard []))) : makeW ad.c_Yard (sp_Yard___init__ ad) W [nP d, hv, bv] M Q := by
  intro a ha
  refine ⟨a, _, hv, bv, rfl, Mem.put_same, rfl, ?_⟩
  rw [if_pos (by simp [within, nP]; omega), look_fresh ha e1, look_fresh2 ha (plain2_1 (plain3_2 bp))]
  refine ⟨_, rfl, plain4_row e1, ?_⟩
  rw [handsBad_none e1 l ho]
  refine ⟨bp, ?_⟩
  rw [bb]
  exact h a ha
theorem row_put {M : Mem} {ra a : Addr} {mo : MO} (h : RowAt M ra) (n : a ≠ ra) : RowAt (M.put a mo) ra := by
  obtain ⟨ns, i, m, q, e, hi⟩ := h
  exact ⟨ns, i, m, q, by rw [Mem.put_ne (Ne.symm n)]; exact e, hi⟩
theorem row_ne {M : Mem} {ra a : Addr} (h : RowAt M ra) (n : M a = none) : a ≠ ra := fun z => by
  obtain ⟨ns, i, m, q, e, hi⟩ := h
  rw [z, e] at n; cases n
theorem row_new {M : Mem} {ra a : Addr} {mo : MO} (h : RowAt M ra) (n : M a = none) : RowAt (M.put a mo) ra := row_put h (row_ne h n)
def nO : Slot → Prop | .own _ => False | _ => True
theorem no_of {s : Slot} (h : nO s) : (match some s with | some (Slot.own x) => False | _ => True) := by cases s <;> first | trivial | exact h
end Y

/-! Texts of yards: plain mathematics over lists of signs. -/
namespace Y
open PySem PySem.Spec PyProof.Rows L2 T3
/-! ### cutting at one sign -/
def cut1 (c : Nat) : List Nat → List (List Nat)
  | [] => [[]]
  | x :: xs => if x = c then [] :: cut1 c xs else match cut1 c xs with
    | p :: ps => (x :: p) :: ps
    | [] => [[x]]
theorem cut1_ne (c : Nat) : ∀ l, cut1 c l ≠ []
  | [] => by simp [cut1]
  | x :: xs => by
    unfold cut1
    split
    · simp
    · split <;> simp
theorem pre_one {c x : Nat} {r : List Nat} : TL.pre [c] (x :: r) = decide (x = c) := by
  unfold TL.pre
  simp only [List.length_cons, List.length_nil, List.take_succ_cons, List.take_zero]
  rw [Bool.eq_iff_iff]
  simp
theorem spl_cut (c : Nat) : ∀ (l acc : List Nat), ∃ p ps, cut1 c l = p :: ps ∧ TL.spl [c] 0 acc l = (acc ++ p) :: ps
  | [], acc => ⟨[], [], rfl, by simp [TL.spl]⟩
  | x :: xs, acc => by
    unfold cut1 TL.spl
    rw [pre_one]
    by_cases e : x = c
    · rw [if_pos e, if_pos (decide_eq_true e)]
      obtain ⟨p, ps, e1, e2⟩ := spl_cut c xs []
      refine ⟨[], _, rfl, ?_⟩
      rw [List.append_nil, e1]
      show acc :: TL.spl [c] 0 [] xs = _
      rw [e2]; rfl
    · rw [if_neg e, if_neg (by simpa using e)]
      obtain ⟨p, ps, e1, e2⟩ := spl_cut c xs (acc ++ [x])
      rw [e1, e2]
      exact ⟨x :: p, ps, rfl, by simp⟩
theorem split_cut {c : Nat} {l : List Nat} (hc : c < 256) : Txt.split (SX.S l) (SX.S [c]) = (cut1 c l).map SX.S := by
  rw [SX.split_S (by simp) (by simp [hc])]
  obtain ⟨p, ps, e1, e2⟩ := spl_cut c l []
  rw [e1, e2]; rfl
theorem cut1_free {c : Nat} : ∀ {l : List Nat}, ∀ p ∈ cut1 c l, c ∉ p
  | [], p, h => by
    have : p = [] := by simpa [cut1] using h
    rw [this]; simp
  | x :: xs, p, h => by
    unfold cut1 at h
    by_cases e : x = c
    · rw [if_pos e] at h
      rcases List.mem_cons.mp h with h | h
      · rw [h]; simp
      · exact cut1_free p h
    · rw [if_neg e] at h
      cases k : cut1 c xs with
      | nil => exact absurd k (cut1_ne c xs)
      | cons q qs =>
        rw [k] at h
        have ih := cut1_free (c := c) (l := xs)
        rw [k] at ih
        rcases List.mem_cons.mp h with h | h
        · rw [h]
          intro z
          rcases List.mem_cons.mp z with z | z
          · exact e z.symm
          · exact ih q (by simp) z
        · exact ih p (by simp [h])
theorem join_cons {c : Nat} {p : List Nat} {ps : List (List Nat)} (h : ps ≠ []) : TL.joinL [c] (p :: ps) = p ++ c :: TL.joinL [c] ps := by
  cases ps with
  | nil => exact absurd rfl h
  | cons q qs => rfl
theorem join_cut {c : Nat} : ∀ l : List Nat, TL.joinL [c] (cut1 c l) = l
  | [] => rfl
  | x :: xs => by
    have ih := join_cut (c := c) xs
    unfold cut1
    by_cases e : x = c
    · rw [if_pos e, join_cons (cut1_ne c xs), ih, e]; rfl
    · rw [if_neg e]
      cases k : cut1 c xs with
      | nil => exact absurd k (cut1_ne c xs)
      | cons q qs =>
        rw [k] at ih
        show TL.joinL [c] ((x :: q) :: qs) = x :: xs
        rw [← ih]
        cases qs with
        | nil => rfl
        | cons r rs => rfl
theorem cut_join {c : Nat} {ps : List (List Nat)} (hne : ps ≠ []) (h : ∀ p ∈ ps, c ∉ p) : cut1 c (TL.joinL [c] ps) = ps := by
  have e := TL.spl_join (s := c) (S := []) hne h
  obtain ⟨p, qs, e1, e2⟩ := spl_cut c (TL.joinL [c] ps) []
  rw [e1, ← e, e2]; rfl
theorem cut1_len {c : Nat} : ∀ l : List Nat, (cut1 c l).length ≤ l.length + 1
  | [] => by simp [cut1]
  | x :: xs => by
    have ih := cut1_len (c := c) xs
    unfold cut1
    split
    · simp; omega
    · cases k : cut1 c xs with
      | nil => simp
      | cons q qs => rw [k] at ih; simp at ih ⊢; omega
theorem cut1_part {c : Nat} : ∀ l : List Nat, ∀ p ∈ cut1 c l, p.length ≤ l.length
  | [], p, h => by have : p = [] := by simpa [cut1] using h
                   rw [this]; simp
  | x :: xs, p, h => by
    have ih := cut1_part (c := c) xs
    unfold cut1 at h
    by_cases e : x = c
    · rw [if_pos e] at h
      rcases List.mem_cons.mp h with h | h
      · rw [h]; simp
      · have := ih p h; simp; omega
    · rw [if_neg e] at h
      cases k : cut1 c xs with
      | nil => exact absurd k (cut1_ne c xs)
      | cons q qs =>
        rw [k] at h ih
        rcases List.mem_cons.mp h with h | h
        · have := ih q (by simp); rw [h]; simp; omega
        · have := ih p (by simp [h]); simp; omega
/-! ### numbers -/
def isDig (c : Nat) : Bool := decide (48 ≤ c) && decide (c ≤ 57)
def asCount (w : List Nat) (most : Nat) : Option Nat :=
  if (1 ≤ w.length ∧ w.length ≤ 12) ∧ w.all isDig = true then (if (w.head? = some 48 ∧ w ≠ [48]) ∨ most < NumText.digitsVal w then none else some (NumText.digitsVal w)) else none
theorem dig_of {w : List Nat} (h : w.all isDig = true) : NumText.AllDigits w := fun c hc => by
  have := List.all_eq_true.mp h c hc
  unfold isDig at this
  simpa using this
theorem of_dig {w : List Nat} (h : NumText.AllDigits w) : w.all isDig = true := List.all_eq_true.mpr fun c hc => by
  have := h c hc
  unfold isDig
  simpa using this
theorem num_head {n : Nat} (h : 0 < n) : (TL.numL n).head? ≠ some 48 := by
  induction n using Nat.strongRecOn with
  | _ n ih =>
    by_cases c : n < 10
    · rw [TL.numL_lt c]
      simp; omega
    · rw [TL.numL_step (by omega)]
      have := ih (n / 10) (by omega) (by omega)
      cases k : TL.numL (n / 10) with
      | nil => exact absurd k (TL.numL_ne _)
      | cons a r => rw [k] at this; simpa using this
theorem num_zero : TL.numL 0 = [48] := TL.numL_lt (by decide)
theorem count_num {n most : Nat} (h : n ≤ most) (hl : n < 10 ^ 12) : asCount (TL.numL n) most = some n := by
  unfold asCount
  have l1 : 1 ≤ (TL.numL n).length := List.length_pos_iff.mpr (TL.numL_ne n)
  have l2 := TL.numL_len (k := 12) (by decide) hl
  rw [if_pos ⟨⟨l1, l2⟩, of_dig (TL.numL_digits n)⟩, TL.numL_val, if_neg]
  rintro (⟨h1, h2⟩ | h3)
  · by_cases z : n = 0
    · rw [z, num_zero] at h2; exact h2 rfl
    · exact num_head (by omega) h1
  · omega
theorem val_snoc {w : List Nat} {c : Nat} : NumText.digitsVal (w ++ [c]) = NumText.digitsVal w * 10 + (c - 48) := by
  unfold NumText.digitsVal
  rw [List.foldl_append]; rfl
theorem val_pos {w : List Nat} (h : NumText.AllDigits w) (ne : w ≠ []) (hd : w.head? ≠ some 48) : 0 < NumText.digitsVal w := by
  have key : ∀ (w : List Nat) (a : Nat), 0 < a → 0 < w.foldl (fun acc c => acc * 10 + (c - 48)) a := by
    intro w
    induction w with
    | nil => intro a h; exact h
    | cons c r ih => intro a h; exact ih (a * 10 + (c - 48)) (by omega)
  cases w with
  | nil => exact absurd rfl ne
  | cons c r =>
    have hc := h c (by simp)
    have : c ≠ 48 := fun z => hd (by rw [z]; rfl)
    show 0 < (c :: r).foldl (fun acc c => acc * 10 + (c - 48)) 0
    rw [List.foldl_cons]
    exact key r (0 * 10 + (c - 48)) (by omega)
theorem num_back : ∀ (n : Nat) (w : List Nat), w.length = n → NumText.AllDigits w → w ≠ [] → (w.head? = some 48 → w = [48]) → TL.numL (NumText.digitsVal w) = w := by
  intro n
  induction n with
  | zero => intro w hl _ ne _; exact absurd (List.length_eq_zero_iff.mp hl) ne
  | succ n ih =>
    intro w hl hd ne hz
    obtain ⟨v, c, rfl⟩ : ∃ v c, w = v ++ [c] := ⟨w.dropLast, w.getLast ne, (List.dropLast_concat_getLast ne).symm⟩
    have hc := hd c (by simp)
    rw [val_snoc]
    by_cases e : v = []
    · subst e
      rw [show NumText.digitsVal [] * 10 + (c - 48) = c - 48 from by simp [NumText.digitsVal], TL.numL_lt (by omega)]
      show [48 + (c - 48)] = [c]
      rw [show 48 + (c - 48) = c from by omega]
    · have hv : NumText.AllDigits v := fun x hx => hd x (by simp [hx])
      have hh : v.head? ≠ some 48 := fun z => by
        have : (v ++ [c]).head? = some 48 := by
          cases v with
          | nil => exact absurd rfl e
          | cons a r => simpa using z
        have := hz this
        have := congrArg List.length this
        have : v.length = 0 := by simpa using this
        exact e (List.length_eq_zero_iff.mp this)
      have p := val_pos hv e hh
      have iv := ih v (by simpa using hl) hv e fun z => absurd z hh
      rw [TL.numL_step (by omega), show (NumText.digitsVal v * 10 + (c - 48)) / 10 = NumText.digitsVal v from by omega, show (NumText.digitsVal v * 10 + (c - 48)) % 10 = c - 48 from by omega, iv, show 48 + (c - 48) = c from by omega]
theorem count_back {w : List Nat} {most n : Nat} (h : asCount w most = some n) : w = TL.numL n ∧ n ≤ most := by
  unfold asCount at h
  split at h
  · rename_i h1
    split at h
    · cases h
    · rename_i h2
      rw [not_or] at h2
      cases h
      have ne : w ≠ [] := fun z => by rw [z] at h1; simp at h1
      refine ⟨(num_back _ w rfl (dig_of h1.2) ne fun z => Classical.byContradiction fun k => h2.1 ⟨z, k⟩).symm, by omega⟩
  · cases h
theorem num_free {n c : Nat} (h : c < 48 ∨ 57 < c) : c ∉ TL.numL n := TL.numL_free h
/-! ### words of a line -/
def readCrafts (w : List Nat) : Option (List Nat) :=
  if w ≠ [] ∧ w.all (fun c => decide (97 ≤ c) && decide (c ≤ 100)) = true then (if (w.map (· - 97)).Pairwise (· < ·) then some (w.map (· - 97)) else none) else none
def allSome : List (Option Nat) → Option (List Nat)
  | [] => some []
  | some n :: r => (allSome r).map (n :: ·)
  | none :: _ => none
def readDays (w : List Nat) (days : Nat) : Option (List Nat) :=
  if w = [45] then some [] else match allSome ((cut1 44 w).map fun v => asCount v 14) with
    | some ns => if ns.Pairwise (· < ·) ∧ ∀ n ∈ ns, n < days then some ns else none
    | none => none
/-- the signs of hand, boat, days -/
def wHand : List Nat := [104, 97, 110, 100]
def wBoat : List Nat := [98, 111, 97, 116]
def wDays : List Nat := [100, 97, 121, 115]
def readHand (ws : List (List Nat)) (days : Nat) : Option Hd := match ws with
  | [h, c, a] => if h = wHand then (match readCrafts c, readDays a days with
    | some cs, some as => some ⟨cs, as⟩
    | _, _ => none) else none
  | _ => none
def readBoat (ws : List (List Nat)) (days : Nat) : Option Bt := match ws with
  | [h, c, w, l, t] => if h = wBoat then (match c with
    | [x] => if 97 ≤ x ∧ x ≤ 100 then (match asCount w 14, asCount l 14, asCount t 14 with
      | some w, some l, some t => if l ≤ t ∧ t ≤ days then some ⟨x - 97, w, l, t⟩ else none
      | _, _, _ => none) else none
    | _ => none) else none
  | _ => none
def readDayL (ws : List (List Nat)) : Option Nat := match ws with
  | [h, d] => if h = wDays then (match asCount d 14 with
    | some n => if 0 < n then some n else none
    | none => none) else none
  | _ => none
def rowsY (days : Nat) : List (List (List Nat)) → List Hd → List Bt → Option (List Hd × List Bt)
  | [], hs, bs => some (hs, bs)
  | ws :: r, hs, bs => match readHand ws days, readBoat ws days with
    | some h, ob => if bs = [] then rowsY days r (hs ++ [h]) bs else (match ob with
      | some b => rowsY days r hs (bs ++ [b])
      | none => none)
    | none, some b => rowsY days r hs (bs ++ [b])
    | none, none => none
def parseL (rows : List (List (List Nat))) : Option YD := match rows with
  | first :: rest => (match readDayL first with
    | some d => (match rowsY d rest [] [] with
      | some (hs, bs) => if hs.length ≤ 8 ∧ bs.length ≤ 8 then some ⟨d, hs, bs⟩ else none
      | none => none)
    | none => none)
  | [] => none
def parseY (l : List Nat) : Option YD := if l.getLast? = some 10 then parseL ((cut1 10 l.dropLast).map (cut1 32)) else none
/-! ### the text of a yard -/
def craftsT (cs : List Nat) : List Nat := cs.map fun c => 97 + c
def daysT (ds : List Nat) : List Nat := if ds = [] then [45] else TL.joinL [44] (ds.map TL.numL)
def handW (h : Hd) : List (List Nat) := [wHand, craftsT h.crafts, daysT h.away]
def boatW (b : Bt) : List (List Nat) := [wBoat, [97 + b.craft], TL.numL b.work, TL.numL b.laid, TL.numL b.tide]
def dayW (d : Nat) : List (List Nat) := [wDays, TL.numL d]
def rowsOf (y : YD) : List (List (List Nat)) := dayW y.days :: (y.hands.map handW ++ y.boats.map boatW)
def lineT (ws : List (List Nat)) : List Nat := TL.joinL [32] ws
def endL (ls : List (List Nat)) : List Nat := ls.flatMap fun l => l ++ [10]
def printY (y : YD) : List Nat := endL ((rowsOf y).map lineT)
theorem endL_join : ∀ {ls : List (List Nat)}, ls ≠ [] → endL ls = TL.joinL [10] ls ++ [10]
  | [], h => absurd rfl h
  | [l], _ => by simp [endL, TL.joinL]
  | l :: m :: ls, _ => by
    have ih := endL_join (ls := m :: ls) (by simp)
    rw [join_cons (by simp)]
    show (l ++ [10]) ++ endL (m :: ls) = _
    rw [ih]; simp
theorem crafts_back {cs : List Nat} (h1 : cs ≠ []) (h2 : cs.Pairwise (· < ·)) (h3 : ∀ c ∈ cs, c < 4) : readCrafts (craftsT cs) = some cs := by
  have e : (craftsT cs).map (· - 97) = cs := by
    unfold craftsT
    rw [List.map_map]
    conv => rhs; rw [← List.map_id cs]
    exact List.map_congr_left fun c _ => by show 97 + c - 97 = c; omega
  unfold readCrafts
  rw [if_pos, e, if_pos h2]
  refine ⟨fun z => h1 (by unfold craftsT at z; simpa using z), List.all_eq_true.mpr fun x hx => ?_⟩
  obtain ⟨c, hc, rfl⟩ := List.mem_map.mp hx
  have := h3 c hc
  simp; omega
theorem crafts_of {w cs : List Nat} (h : readCrafts w = some cs) : w = craftsT cs ∧ cs ≠ [] ∧ cs.Pairwise (· < ·) ∧ ∀ c ∈ cs, c < 4 := by
  unfold readCrafts at h
  split at h
  · rename_i h1
    split at h
    · rename_i h2
      cases h
      have r : ∀ x ∈ w, 97 ≤ x ∧ x ≤ 100 := fun x hx => by
        have := List.all_eq_true.mp h1.2 x hx
        simpa using this
      refine ⟨?_, by simpa using h1.1, h2, fun c hc => ?_⟩
      · unfold craftsT
        rw [List.map_map]
        conv => lhs; rw [← List.map_id w]
        refine List.map_congr_left fun x hx => ?_
        have := r x hx
        show x = 97 + (x - 97)
        omega
      · obtain ⟨x, hx, rfl⟩ := List.mem_map.mp hc
        have := r x hx
        omega
    · cases h
  · cases h
theorem allSome_map {f : Nat → Option Nat} : ∀ {ns : List Nat}, (∀ n ∈ ns, f n = some n) → allSome (ns.map f) = some ns
  | [], _ => rfl
  | n :: ns, h => by
    rw [List.map_cons, h n (by simp)]
    unfold allSome
    rw [allSome_map fun m hm => h m (by simp [hm])]; rfl
theorem allSome_of {α : Type} {f : α → Option Nat} : ∀ {ws : List α} {ns : List Nat}, allSome (ws.map f) = some ns → ws.map f = ns.map some
  | [], ns, h => by cases h; rfl
  | w :: ws, ns, h => by
    rw [List.map_cons] at h ⊢
    cases e : f w with
    | none => rw [e] at h; cases h
    | some n =>
      rw [e] at h
      unfold allSome at h
      cases k : allSome (ws.map f) with
      | none => rw [k] at h; cases h
      | some ms => rw [k] at h; cases h; rw [allSome_of k]; rfl
theorem big12 {n : Nat} (h : n ≤ 14) : n < 10 ^ 12 := by omega
theorem num_dash (n : Nat) : TL.numL n ≠ [45] := fun z => by
  have := TL.numL_digits n 45 (by rw [z]; simp)
  omega
theorem days_back {ds : List Nat} {days : Nat} (hd : days ≤ 14) (h2 : ds.Pairwise (· < ·)) (h3 : ∀ d ∈ ds, d < days) : readDays (daysT ds) days = some ds := by
  unfold readDays daysT
  by_cases e : ds = []
  · rw [if_pos e, if_pos rfl, e]
  · rw [if_neg e]
    have nd : TL.joinL [44] (ds.map TL.numL) ≠ [45] := fun z => by
      have c := cut_join (c := 44) (ps := ds.map TL.numL) (by simpa using e) fun p hp => by
        obtain ⟨n, _, rfl⟩ := List.mem_map.mp hp
        exact num_free (by omega)
      rw [z] at c
      cases ds with
      | nil => exact e rfl
      | cons d r =>
        have : [[45]] = (d :: r).map TL.numL := c
        rw [List.map_cons] at this
        injection this with h1 _
        exact num_dash d h1.symm
    rw [if_neg nd, cut_join (by simpa using e) fun p hp => by
        obtain ⟨n, _, rfl⟩ := List.mem_map.mp hp
        exact num_free (by omega), List.map_map, allSome_map fun n hn => by
          have := h3 n hn
          exact count_num (by omega) (big12 (by omega))]
    simp only
    rw [if_pos ⟨h2, h3⟩]
theorem days_of {w ds : List Nat} {days : Nat} (h : readDays w days = some ds) : w = daysT ds ∧ ds.Pairwise (· < ·) ∧ ∀ d ∈ ds, d < days := by
  unfold readDays at h
  split at h
  · rename_i e
    cases h
    exact ⟨by rw [e]; rfl, .nil, by simp⟩
  · split at h
    · rename_i ns hs
      split at h
      · rename_i h2
        cases h
        refine ⟨?_, h2.1, h2.2⟩
        have e := allSome_of hs
        have e2 : cut1 44 w = ds.map TL.numL := by
          have key : ∀ (ws : List (List Nat)) (ns : List Nat), ws.map (fun v => asCount v 14) = ns.map some → ws = ns.map TL.numL := by
            intro ws
            induction ws with
            | nil => intro ns h; cases ns with
              | nil => rfl
              | cons => simp at h
            | cons w ws ih =>
              intro ns h
              cases ns with
              | nil => simp at h
              | cons n ns =>
                rw [List.map_cons, List.map_cons] at h
                injection h with h1 h2
                rw [List.map_cons, ih ns h2, (count_back h1).1]
          exact key _ _ e
        have ne : ds ≠ [] := fun z => by
          rw [z] at e2
          exact cut1_ne 44 w e2
        unfold daysT
        rw [if_neg ne, ← e2, join_cut]
      · cases h
    · cases h
theorem hand_back {h : Hd} {days : Nat} (hd : days ≤ 14) (ok : HOk days h) : readHand (handW h) days = some h := by
  unfold readHand handW
  simp only
  rw [if_pos trivial, crafts_back ok.ne ok.ac ok.bc, days_back hd ok.aa ok.ba]
theorem hand_of {ws : List (List Nat)} {days : Nat} {h : Hd} (e : readHand ws days = some h) : ws = handW h ∧ HOk days h := by
  unfold readHand at e
  split at e
  · rename_i x c a
    split at e
    · rename_i ex
      split at e
      · rename_i cs as h1 h2
        cases e
        obtain ⟨a1, a2, a3, a4⟩ := crafts_of h1
        obtain ⟨b1, b2, b3⟩ := days_of h2
        exact ⟨by rw [ex, a1, b1]; rfl, a2, a3, a4, b2, b3⟩
      · cases e
    · cases e
  · cases e
theorem boat_back {b : Bt} {days : Nat} (hd : days ≤ 14) (ok : BOk days b) : readBoat (boatW b) days = some b := by
  have h1 := ok.c; have h2 := ok.w; have h3 := ok.lt; have h4 := ok.td
  unfold readBoat boatW
  simp only
  rw [if_pos trivial, if_pos (by omega), count_num (by omega) (big12 (by omega)), count_num (by omega) (big12 (by omega)), count_num (by omega) (big12 (by omega))]
  simp only
  rw [if_pos ⟨h3, h4⟩, show 97 + b.craft - 97 = b.craft from by omega]
theorem boat_of {ws : List (List Nat)} {days : Nat} {b : Bt} (e : readBoat ws days = some b) : ws = boatW b ∧ BOk days b := by
  unfold readBoat at e
  split at e
  · split at e
    · rename_i ex
      split at e
      · split at e
        · rename_i hx
          split at e
          · rename_i h1 h2 h3
            split at e
            · rename_i h4
              cases e
              obtain ⟨a1, a2⟩ := count_back h1
              obtain ⟨b1, b2⟩ := count_back h2
              obtain ⟨c1, c2⟩ := count_back h3
              refine ⟨?_, by show _ - 97 < 4; omega, a2, h4.1, h4.2⟩
              unfold boatW
              simp only
              rw [ex, a1, b1, c1]
              congr 2
              congr 1
              omega
            · cases e
          · cases e
        · cases e
      · cases e
    · cases e
  · cases e
theorem day_back {d : Nat} (h1 : 1 ≤ d) (h2 : d ≤ 14) : readDayL (dayW d) = some d := by
  unfold readDayL dayW
  simp only
  rw [if_pos trivial, count_num h2 (big12 h2)]
  simp only
  rw [if_pos (by omega)]
theorem day_of {ws : List (List Nat)} {d : Nat} (e : readDayL ws = some d) : ws = dayW d ∧ 1 ≤ d ∧ d ≤ 14 := by
  unfold readDayL at e
  split at e
  · split at e
    · rename_i ex
      split at e
      · rename_i h1
        split at e
        · rename_i h2
          cases e
          obtain ⟨a1, a2⟩ := count_back h1
          exact ⟨by rw [ex, a1]; rfl, h2, a2⟩
        · cases e
      · cases e
    · cases e
  · cases e
end Y

/-! Texts of yards: read and written. -/
namespace Y
open PySem PySem.Spec PyProof.Rows L2 T3
/-! ### signs that stand in words -/
def wordSign (c : Nat) : Prop := 44 ≤ c ∧ c ≤ 122
theorem dig_sign {w : List Nat} (h : NumText.AllDigits w) : ∀ c ∈ w, wordSign c := fun c hc => by
  have := h c hc; unfold wordSign; omega
theorem num_sign {n : Nat} : ∀ c ∈ TL.numL n, wordSign c := dig_sign (TL.numL_digits n)
theorem join_sign {s : Nat} (hs : wordSign s) : ∀ {ps : List (List Nat)}, (∀ p ∈ ps, ∀ c ∈ p, wordSign c) → ∀ c ∈ TL.joinL [s] ps, wordSign c
  | [], _, c, hc => by simp [TL.joinL] at hc
  | [p], h, c, hc => h p (by simp) c hc
  | p :: q :: r, h, c, hc => by
    rw [join_cons (by simp)] at hc
    rcases List.mem_append.mp hc with hc | hc
    · exact h p (by simp) c hc
    · rcases List.mem_cons.mp hc with hc | hc
      · rw [hc]; exact hs
      · exact join_sign hs (fun x hx => h x (List.mem_cons_of_mem _ hx)) c hc
theorem crafts_sign {cs : List Nat} (h : ∀ c ∈ cs, c < 4) : ∀ c ∈ craftsT cs, wordSign c := fun c hc => by
  obtain ⟨x, hx, rfl⟩ := List.mem_map.mp hc
  have := h x hx
  unfold wordSign; omega
theorem days_sign {ds : List Nat} : ∀ c ∈ daysT ds, wordSign c := fun c hc => by
  unfold daysT at hc
  split at hc
  · rw [List.mem_singleton.mp hc]; unfold wordSign; omega
  · exact join_sign (by unfold wordSign; omega) (fun p hp => by obtain ⟨n, _, rfl⟩ := List.mem_map.mp hp; exact num_sign) c hc
theorem hand_sign {h : Hd} {d : Nat} (ok : HOk d h) : ∀ w ∈ handW h, ∀ c ∈ w, wordSign c := fun w hw c hc => by
  unfold handW at hw
  simp only [List.mem_cons, List.not_mem_nil, or_false] at hw
  rcases hw with rfl | rfl | rfl
  · unfold wHand at hc; unfold wordSign; simp at hc; omega
  · exact crafts_sign ok.bc c hc
  · exact days_sign c hc
theorem boat_sign {b : Bt} {d : Nat} (ok : BOk d b) : ∀ w ∈ boatW b, ∀ c ∈ w, wordSign c := fun w hw c hc => by
  have h1 := ok.c
  unfold boatW at hw
  simp only [List.mem_cons, List.not_mem_nil, or_false] at hw
  rcases hw with rfl | rfl | rfl | rfl | rfl
  · unfold wBoat at hc; unfold wordSign; simp at hc; omega
  · simp at hc; unfold wordSign; omega
  all_goals exact num_sign c hc
theorem day_sign {d : Nat} : ∀ w ∈ dayW d, ∀ c ∈ w, wordSign c := fun w hw c hc => by
  unfold dayW at hw
  simp only [List.mem_cons, List.not_mem_nil, or_false] at hw
  rcases hw with rfl | rfl
  · unfold wDays at hc; unfold wordSign; simp at hc; omega
  · exact num_sign c hc
theorem rows_sign {y : YD} (ok : YOk y) : ∀ ws ∈ rowsOf y, ∀ w ∈ ws, ∀ c ∈ w, wordSign c := fun ws hws => by
  unfold rowsOf at hws
  rcases List.mem_cons.mp hws with h | h
  · rw [h]; exact day_sign
  · rcases List.mem_append.mp h with h | h
    · obtain ⟨x, hx, rfl⟩ := List.mem_map.mp h; exact hand_sign (ok.ho x hx)
    · obtain ⟨x, hx, rfl⟩ := List.mem_map.mp h; exact boat_sign (ok.bo x hx)
theorem rows_ne {y : YD} : ∀ ws ∈ rowsOf y, ws ≠ [] := fun ws hws => by
  unfold rowsOf at hws
  rcases List.mem_cons.mp hws with h | h
  · rw [h]; simp [dayW]
  · rcases List.mem_append.mp h with h | h
    · obtain ⟨x, hx, rfl⟩ := List.mem_map.mp h; simp [handW]
    · obtain ⟨x, hx, rfl⟩ := List.mem_map.mp h; simp [boatW]
/-- words by which a line can be told -/
def goodW (ws : List (List Nat)) : Prop := ws ≠ [] ∧ ∀ w ∈ ws, ∀ c ∈ w, wordSign c
theorem cut_line {ws : List (List Nat)} (h : goodW ws) : cut1 32 (lineT ws) = ws := cut_join h.1 fun p hp z => by
  have := h.2 p hp 32 z
  unfold wordSign at this; omega
theorem line_sign {ws : List (List Nat)} (h : ∀ w ∈ ws, ∀ c ∈ w, wordSign c) : ∀ c ∈ lineT ws, c = 32 ∨ wordSign c := by
  unfold lineT
  induction ws with
  | nil => intro c hc; simp [TL.joinL] at hc
  | cons w ws ih =>
    intro c hc
    by_cases e : ws = []
    · rw [e] at hc
      exact .inr (h w (by simp) c hc)
    · rw [join_cons e] at hc
      rcases List.mem_append.mp hc with hc | hc
      · exact .inr (h w (by simp) c hc)
      · rcases List.mem_cons.mp hc with hc | hc
        · exact .inl hc
        · exact ih (fun x hx => h x (by simp [hx])) c hc
theorem line_free {ws : List (List Nat)} (h : ∀ w ∈ ws, ∀ c ∈ w, wordSign c) : 10 ∉ lineT ws := fun z => by
  rcases line_sign h 10 z with h | h
  · omega
  · unfold wordSign at h; omega
/-- the parts of a text of lines -/
theorem parse_endL {ls : List (List Nat)} (ne : ls ≠ []) (h : ∀ l ∈ ls, 10 ∉ l) : parseY (endL ls) = parseL (ls.map (cut1 32)) := by
  unfold parseY
  rw [endL_join ne, if_pos (by simp), List.dropLast_concat, cut_join ne h]
theorem parse_rows {rs : List (List (List Nat))} (ne : rs ≠ []) (h : ∀ ws ∈ rs, goodW ws) : parseY (endL (rs.map lineT)) = parseL rs := by
  rw [parse_endL (by simpa using ne) fun l hl => by
    obtain ⟨ws, hws, rfl⟩ := List.mem_map.mp hl
    exact line_free (h ws hws).2, List.map_map]
  congr 1
  conv => rhs; rw [← List.map_id rs]
  exact List.map_congr_left fun ws hws => cut_line (h ws hws)
theorem no_hand {b : Bt} {d : Nat} : readHand (boatW b) d = none := rfl
theorem rows_cons {d : Nat} {ws : List (List Nat)} {r : List (List (List Nat))} {hs : List Hd} {bs : List Bt} : rowsY d (ws :: r) hs bs = match readHand ws d, readBoat ws d with
    | some h, ob => if bs = [] then rowsY d r (hs ++ [h]) bs else (match ob with
      | some b => rowsY d r hs (bs ++ [b])
      | none => none)
    | none, some b => rowsY d r hs (bs ++ [b])
    | none, none => none := rfl
theorem rows_hands {d : Nat} (hd : d ≤ 14) {rest : List (List (List Nat))} : ∀ {hs acc : List Hd}, (∀ h ∈ hs, HOk d h) → rowsY d (hs.map handW ++ rest) acc [] = rowsY d rest (acc ++ hs) []
  | [], acc, _ => by simp
  | h :: hs, acc, ok => by
    rw [List.map_cons, List.cons_append, rows_cons, hand_back hd (ok h (by simp))]
    simp only
    rw [if_pos trivial, rows_hands hd fun x hx => ok x (by simp [hx])]
    simp
theorem rows_boats {d : Nat} (hd : d ≤ 14) {hs : List Hd} : ∀ {bs acc : List Bt}, (∀ b ∈ bs, BOk d b) → rowsY d (bs.map boatW) hs acc = some (hs, acc ++ bs)
  | [], acc, _ => by simp [rowsY]
  | b :: bs, acc, ok => by
    rw [List.map_cons, rows_cons, no_hand, boat_back hd (ok b (by simp))]
    simp only
    rw [rows_boats hd fun x hx => ok x (by simp [hx])]
    simp
theorem good_rows {y : YD} (ok : YOk y) : ∀ ws ∈ rowsOf y, goodW ws := fun ws h => ⟨rows_ne ws h, rows_sign ok ws h⟩
/-- the text leads back to the yard -/
theorem parse_print {y : YD} (ok : YOk y) : parseY (printY y) = some y := by
  unfold printY
  rw [parse_rows (by simp [rowsOf]) (good_rows ok)]
  unfold parseL rowsOf
  simp only
  rw [day_back ok.d1 ok.d2]
  simp only
  rw [rows_hands ok.d2 ok.ho, rows_boats ok.d2 ok.bo]
  simp only
  rw [if_pos ⟨by simpa using ok.nh, by simpa using ok.nb⟩]
  simp
theorem rows_of {d : Nat} : ∀ {rows : List (List (List Nat))} {hs hs' : List Hd} {bs bs' : List Bt}, rowsY d rows hs bs = some (hs', bs') →
    ∃ h2 b2, hs' = hs ++ h2 ∧ bs' = bs ++ b2 ∧ rows = h2.map handW ++ b2.map boatW ∧ (bs ≠ [] → h2 = []) ∧ (∀ h ∈ h2, HOk d h) ∧ ∀ b ∈ b2, BOk d b
  | [], hs, hs', bs, bs', e => by
    unfold rowsY at e
    cases e
    exact ⟨[], [], by simp, by simp, rfl, fun _ => rfl, by simp, by simp⟩
  | ws :: r, hs, hs', bs, bs', e => by
    rw [rows_cons] at e
    have boat : ∀ b, readBoat ws d = some b → rowsY d r hs (bs ++ [b]) = some (hs', bs') → ∃ h2 b2, hs' = hs ++ h2 ∧ bs' = bs ++ b2 ∧ ws :: r = h2.map handW ++ b2.map boatW ∧ (bs ≠ [] → h2 = []) ∧ (∀ h ∈ h2, HOk d h) ∧ ∀ b ∈ b2, BOk d b := fun b hb e => by
      obtain ⟨h2, b2, e1, e2, e3, e4, e5, e6⟩ := rows_of e
      obtain ⟨w1, w2⟩ := boat_of hb
      have z := e4 (by simp)
      subst z
      refine ⟨[], b :: b2, e1, by rw [e2]; simp, by rw [w1, e3]; simp, fun _ => rfl, by simp, fun x hx => ?_⟩
      rcases List.mem_cons.mp hx with h | h
      · rw [h]; exact w2
      · exact e6 x h
    cases hh : readHand ws d with
    | some h =>
      rw [hh] at e
      simp only at e
      by_cases bz : bs = []
      · rw [if_pos bz] at e
        obtain ⟨h2, b2, e1, e2, e3, e4, e5, e6⟩ := rows_of e
        obtain ⟨w1, w2⟩ := hand_of hh
        refine ⟨h :: h2, b2, by rw [e1]; simp, e2, by rw [w1, e3]; simp, fun z => absurd bz z, fun x hx => ?_, e6⟩
        rcases List.mem_cons.mp hx with h | h
        · rw [h]; exact w2
        · exact e5 x h
      · rw [if_neg bz] at e
        cases hb : readBoat ws d with
        | some b => rw [hb] at e; exact boat b hb e
        | none => rw [hb] at e; cases e
    | none =>
      rw [hh] at e
      cases hb : readBoat ws d with
      | some b => rw [hb] at e; exact boat b hb e
      | none => rw [hb] at e; cases e
/-- what is read has the text that it was read from -/
theorem print_parse {l : List Nat} {y : YD} (h : parseY l = some y) : printY y = l ∧ YOk y := by
  unfold parseY at h
  split at h
  · rename_i hl
    have el : l = l.dropLast ++ [10] := by
      have ne : l ≠ [] := fun z => by rw [z] at hl; cases hl
      have e := List.dropLast_concat_getLast ne
      rw [List.getLast?_eq_some_getLast ne] at hl
      cases hl2 : l.getLast ne with
      | _ => rw [← e]; simp; injection hl
    generalize ex : (cut1 10 l.dropLast).map (cut1 32) = rows at h
    have back : rows.map lineT = cut1 10 l.dropLast := by
      rw [← ex, List.map_map]
      conv => rhs; rw [← List.map_id (cut1 10 l.dropLast)]
      exact List.map_congr_left fun p _ => join_cut p
    unfold parseL at h
    split at h
    · rename_i first rest
      split at h
      · rename_i d hd
        split at h
        · rename_i hs bs hr
          split at h
          · rename_i hn
            cases h
            obtain ⟨w1, d1, d2⟩ := day_of hd
            obtain ⟨h2, b2, e1, e2, e3, e4, e5, e6⟩ := rows_of hr
            rw [List.nil_append] at e1 e2
            subst e1; subst e2
            refine ⟨?_, d1, d2, hn.1, hn.2, e5, e6⟩
            have er : rowsOf ⟨d, hs, bs⟩ = first :: rest := by
              unfold rowsOf
              rw [w1, e3]
            unfold printY
            rw [er, back, endL_join (cut1_ne 10 _), join_cut]
            exact el.symm
          · cases h
        · cases h
      · cases h
    · cases h
  · cases h
/-! ### texts that are none -/
theorem rows_bad {d : Nat} {ws : List (List Nat)} (h1 : readHand ws d = none) (h2 : readBoat ws d = none) : ∀ {rs : List (List (List Nat))} {hs : List Hd} {bs : List Bt}, rowsY d (rs ++ [ws]) hs bs = none
  | [], hs, bs => by
    rw [List.nil_append, rows_cons, h1, h2]
  | r :: rs, hs, bs => by
    rw [List.cons_append, rows_cons]
    cases readHand r d with
    | some h =>
      simp only
      by_cases bz : bs = []
      · rw [if_pos bz]; exact rows_bad h1 h2
      · rw [if_neg bz]
        cases readBoat r d with
        | some b => exact rows_bad h1 h2
        | none => rfl
    | none =>
      cases readBoat r d with
      | some b => exact rows_bad h1 h2
      | none => rfl
theorem parse_last {y : YD} (ok : YOk y) : parseY (printY y ++ [10]) = none := by
  have e : printY y ++ [10] = endL ((rowsOf y).map lineT ++ [[]]) := by
    unfold printY endL
    rw [List.flatMap_append]; rfl
  rw [e, parse_endL (by simp) fun l hl => ?_, List.map_append, List.map_map]
  · have e2 : (rowsOf y).map (cut1 32 ∘ lineT) = rowsOf y := by
      conv => rhs; rw [← List.map_id (rowsOf y)]
      exact List.map_congr_left fun ws hws => cut_line (good_rows ok ws hws)
    rw [e2]
    unfold parseL rowsOf
    simp only [List.cons_append]
    rw [day_back ok.d1 ok.d2]
    simp only
    have := rows_bad (d := y.days) (ws := [[]]) rfl rfl (rs := y.hands.map handW ++ y.boats.map boatW) (hs := []) (bs := [])
    show (match rowsY y.days ((y.hands.map handW ++ y.boats.map boatW) ++ [[[]]]) [] [] with
      | some (hs, bs) => if hs.length ≤ 8 ∧ bs.length ≤ 8 then some (⟨y.days, hs, bs⟩ : YD) else none
      | none => none) = none
    rw [this]
  · rcases List.mem_append.mp hl with h | h
    · obtain ⟨ws, hws, rfl⟩ := List.mem_map.mp h
      exact line_free (rows_sign ok ws hws)
    · rw [List.mem_singleton.mp h]; simp
theorem join_last {c : Nat} : ∀ {ls : List (List Nat)}, ls ≠ [] → (∀ l ∈ ls, l ≠ [] ∧ c ∉ l) → (TL.joinL [c] ls).getLast? ≠ some c
  | [], h, _ => absurd rfl h
  | [l], _, h => fun z => (h l (by simp)).2 (List.mem_of_getLast? z)
  | l :: m :: ls, _, h => by
    have ih := join_last (c := c) (ls := m :: ls) (by simp) fun x hx => h x (by simp [hx])
    have ne : TL.joinL [c] (m :: ls) ≠ [] := by
      have := (h m (by simp)).1
      cases ls with
      | nil => exact this
      | cons q qs =>
        rw [join_cons (by simp)]
        simp
    rw [join_cons (by simp), List.getLast?_append]
    cases e : TL.joinL [c] (m :: ls) with
    | nil => exact absurd e ne
    | cons a r =>
      rw [e] at ih
      rw [List.getLast?_cons_cons]
      cases k : (a :: r).getLast? with
      | none => simp at k
      | some z => rw [k] at ih; simpa using ih
theorem line_ne {y : YD} : ∀ ws ∈ rowsOf y, lineT ws ≠ [] := fun ws hws => by
  unfold rowsOf at hws
  have key : ∀ (h : List Nat) (r : List (List Nat)), h ≠ [] → lineT (h :: r) ≠ [] := fun h r hh => by
    unfold lineT
    cases r with
    | nil => exact hh
    | cons q qs => rw [join_cons (by simp)]; simp
  rcases List.mem_cons.mp hws with h | h
  · rw [h]; exact key _ _ (by simp [wDays])
  · rcases List.mem_append.mp h with h | h
    · obtain ⟨x, hx, rfl⟩ := List.mem_map.mp h; exact key _ _ (by simp [wHand])
    · obtain ⟨x, hx, rfl⟩ := List.mem_map.mp h; exact key _ _ (by simp [wBoat])
theorem print_ne {y : YD} : printY y ≠ [] := by
  unfold printY
  rw [endL_join (by simp [rowsOf])]; simp
theorem print_drop {y : YD} : (printY y).dropLast = TL.joinL [10] ((rowsOf y).map lineT) := by
  unfold printY
  rw [endL_join (by simp [rowsOf]), List.dropLast_concat]
theorem parse_drop {y : YD} (ok : YOk y) : parseY (printY y).dropLast = none := by
  unfold parseY
  rw [if_neg]
  rw [print_drop]
  refine join_last (by simp [rowsOf]) fun l hl => ?_
  obtain ⟨ws, hws, rfl⟩ := List.mem_map.mp hl
  exact ⟨line_ne ws hws, line_free (rows_sign ok ws hws)⟩
def wA : List (List Nat) := [wHand, [97], [45]]
def wB : List (List Nat) := [wBoat, [97], [48], [48], [48]]
theorem good_A : goodW wA := ⟨by simp [wA], fun w hw c hc => by
  simp [wA] at hw
  rcases hw with rfl | rfl | rfl <;> simp [wHand] at hc <;> unfold wordSign <;> omega⟩
theorem good_B : goodW wB := ⟨by simp [wB], fun w hw c hc => by
  simp [wB] at hw
  rcases hw with rfl | rfl | rfl <;> simp [wBoat] at hc <;> unfold wordSign <;> omega⟩
theorem good_day {d : Nat} : goodW (dayW d) := ⟨by simp [dayW], day_sign⟩
theorem parse_first {y : YD} (ok : YOk y) : parseY (lineT wA ++ [10] ++ printY y) = none := by
  have e : lineT wA ++ [10] ++ printY y = endL ((wA :: rowsOf y).map lineT) := by
    unfold printY endL
    rw [List.map_cons, List.flatMap_cons]
  rw [e, parse_rows (by simp) fun ws h => ?_]
  · rfl
  · rcases List.mem_cons.mp h with h | h
    · rw [h]; exact good_A
    · exact good_rows ok ws h
theorem read_A {d : Nat} : readHand wA d = some ⟨[0], []⟩ := rfl
theorem read_B {d : Nat} : readBoat wB d = some ⟨0, 0, 0, 0⟩ := by
  unfold readBoat wB
  simp only
  have : asCount [48] 14 = some 0 := by decide
  rw [this]
  simp
theorem rows_A {d : Nat} : ∀ (n : Nat) {hs : List Hd}, rowsY d (List.replicate n wA) hs [] = some (hs ++ List.replicate n ⟨[0], []⟩, [])
  | 0, hs => by simp [rowsY]
  | n + 1, hs => by
    rw [List.replicate_succ, rows_cons, read_A]
    simp only
    rw [if_pos trivial, rows_A n, List.replicate_succ]
    simp
theorem rows_B {d : Nat} : ∀ (n : Nat) {hs : List Hd} {bs : List Bt}, rowsY d (List.replicate n wB) hs bs = some (hs, bs ++ List.replicate n ⟨0, 0, 0, 0⟩)
  | 0, hs, bs => by simp [rowsY]
  | n + 1, hs, bs => by
    rw [List.replicate_succ, rows_cons, show readHand wB d = none from rfl, read_B]
    simp only
    rw [rows_B n, List.replicate_succ]
    simp
theorem parse_many {d : Nat} {w : List (List Nat)} (h1 : 1 ≤ d) (h2 : d ≤ 14) (hw : w = wA ∨ w = wB) : parseY (endL (lineT (dayW d) :: List.replicate 9 (lineT w))) = none := by
  have e : lineT (dayW d) :: List.replicate 9 (lineT w) = (dayW d :: List.replicate 9 w).map lineT := by rw [List.map_cons, List.map_replicate]
  rw [e, parse_rows (by simp) fun ws h => ?_]
  · unfold parseL
    simp only
    rw [day_back h1 h2]
    simp only
    rcases hw with rfl | rfl
    · rw [rows_A]; simp
    · rw [rows_B]; simp
  · rcases List.mem_cons.mp h with h | h
    · rw [h]; exact good_day
    · rw [(List.mem_replicate.mp h).2]
      rcases hw with rfl | rfl
      · exact good_A
      · exact good_B
theorem parse_mixed {d : Nat} (h1 : 1 ≤ d) (h2 : d ≤ 14) : parseY (endL [lineT (dayW d), lineT wB, lineT wA]) = none := by
  have e : [lineT (dayW d), lineT wB, lineT wA] = [dayW d, wB, wA].map lineT := rfl
  rw [e, parse_rows (by simp) fun ws h => ?_]
  · unfold parseL
    simp only
    rw [day_back h1 h2]
    simp only
    rw [rows_cons, show readHand wB d = none from rfl, read_B]
    simp only
    rw [rows_cons, read_A, show readBoat wA d = none from rfl]
    simp
  · simp only [List.mem_cons, List.not_mem_nil, or_false] at h
    rcases h with rfl | rfl | rfl
    · exact good_day
    · exact good_B
    · exact good_A
end Y

namespace Y
open PySem PySem.Spec PyProof.Rows L2 T3
/-! ## texts: contracts -/
abbrev tx (l : List Nat) : PV := .str (SX.S l)
def txtOf : PV → Option (List Nat)
  | .str s => some s.cps.toList
  | _ => none
def optP {α : Type} (e : α → PV) : Option α → PV
  | some a => e a
  | none => .non
def wordsP (ws : List (List Nat)) : PV := .lst (ws.map tx)
/-- words of no great length -/
def shortW (ws : List (List Nat)) : Prop := ws.length ≤ 1000000 ∧ ∀ w ∈ ws, w.length ≤ 1000000
section
def sp_as_count (ad : Ad) : Sp3 := fun xs M Q _ => ∃ (w : List Nat) (most : Nat), xs = [tx w, nP most] ∧ Q (optP nP (asCount w most)) M
def sp_crafts_text (ad : Ad) : Sp3 := fun xs M Q _ => ∃ cs : List Nat, xs = [setP cs] ∧ (∀ c ∈ cs, c < 4) ∧ cs.length ≤ 100 ∧ Q (tx (craftsT cs)) M
def sp_days_text (ad : Ad) : Sp3 := fun xs M Q _ => ∃ ds : List Nat, xs = [setP ds] ∧ (∀ d ∈ ds, d < 100) ∧ ds.length ≤ 100 ∧ Q (tx (daysT ds)) M
def sp_text_of (ad : Ad) : Sp3 := fun xs M Q E => ∃ x, xs = [x] ∧ onYard ad x M E fun y => Q (tx (printY y)) M
def sp_read_crafts (ad : Ad) : Sp3 := fun xs M Q _ => ∃ w : List Nat, xs = [tx w] ∧ w.length ≤ 1000000 ∧ Q (optP setP (readCrafts w)) M
def sp_read_days (ad : Ad) : Sp3 := fun xs M Q _ => ∃ (w : List Nat) (days : Nat), xs = [tx w, nP days] ∧ 1 ≤ days ∧ w.length ≤ 1000000 ∧ Q (optP setP (readDays w days)) M
def sp_read_hand (ad : Ad) : Sp3 := fun xs M Q _ => ∃ (ws : List (List Nat)) (days : Nat), xs = [wordsP ws, nP days] ∧ 1 ≤ days ∧ shortW ws ∧ Q (optP handP (readHand ws days)) M
def sp_read_boat (ad : Ad) : Sp3 := fun xs M Q _ => ∃ (ws : List (List Nat)) (days : Nat), xs = [wordsP ws, nP days] ∧ shortW ws ∧ Q (optP boatP (readBoat ws days)) M
def sp_read_days_line (ad : Ad) : Sp3 := fun xs M Q _ => ∃ (ws : List (List Nat)), xs = [wordsP ws] ∧ shortW ws ∧ Q (optP nP (readDayL ws)) M
end
end Y


namespace Y
open PySem PySem.Spec PyProof.Rows L2 T3
def t_as_count (ad : Ad) (W : W3) : TS3 :=
 (tSeq3 (tIfS3 (tOr3 (tNot3 (tTest3 (tChain3 rLeX rLeX (tC3 (.int 1)) (tCB3 rLen3 (tCons3 (tVarB3 0) tNil3)) (tC3 (.int 12))))) (tNot3 (tTru3 (tCB3 rAll3 (tCons3 (tComp3 (iStr3 (tVar3 0)) (gName3 2) tYes3 (tOp3 rIn3 (tVarB3 2) (tC3 (.str "0123456789"))) [2]) tNil3))))) (tRet3 (tC3 .non)) tNext3)
 (tSeq3 (tIfS3 (tOr3 (tAnd3 (tTest3 (tOp3 rEq3 (tOp3 rIx3 (tVarB3 0) (tC3 (.int 0))) (tC3 (.str "0")))) (tTest3 (tOp3 rNe3 (tVarB3 0) (tC3 (.str "0"))))) (tTest3 (tOp3 rGtX (tCB3 rIntS (tCons3 (tVarB3 0) tNil3)) (tVarB3 1)))) (tRet3 (tC3 .non)) tNext3)
 (tRet3 (tCB3 rIntS (tCons3 (tVarB3 0) tNil3)))))
def t_crafts_text (ad : Ad) (W : W3) : TS3 :=
 (tRet3 (tMt3 "str" wJoin (tC3 (.str "")) (tCons3 (tComp3 (iSeq3 (tVar3 0)) (gName3 1) tYes3 (tOp3 rIx3 (tC3 (.str "abcd")) (tVarB3 1)) [1]) tNil3)))
def t_days_text (ad : Ad) (W : W3) : TS3 :=
 (tRet3 (tIf3 (tTru3 (tVarB3 0)) (tMt3 "str" wJoin (tC3 (.str ",")) (tCons3 (tComp3 (iSeq3 (tVar3 0)) (gName3 1) tYes3 (tCB3 rStr3 (tCons3 (tVarB3 1) tNil3)) [1]) tNil3)) (tC3 (.str "-"))))
def b1_text_of (ad : Ad) (W : W3) : TS3 :=
 (tMtO3 1 wApp (tCons3 (tOp3 rAdd3 (tC3 (.str "boat ")) (tMt3 "str" wJoin (tC3 (.str " ")) (tCons3 (tLst3 (tCons3 (tOp3 rIx3 (tC3 (.str "abcd")) (tVarB3 2)) (tCons3 (tCB3 rStr3 (tCons3 (tVarB3 3) tNil3)) (tCons3 (tCB3 rStr3 (tCons3 (tVarB3 4) tNil3)) (tCons3 (tCB3 rStr3 (tCons3 (tVarB3 5) tNil3)) tNil3))))) tNil3))) tNil3))
def t_text_of (ad : Ad) (W : W3) : TS3 :=
 (tSeq3 (tDrop3 (tCall3 (sp_check_yard ad) W (tCons3 (tVar3 0) tNil3)))
 (tSeq3 (tSetO3 1 (tLst3 (tCons3 (tOp3 rAdd3 (tC3 (.str "days ")) (tCB3 rStr3 (tCons3 (tFld3 ad.c_Yard "days" (tVar3 0)) tNil3))) tNil3)))
 (tSeq3 (tExtO3 1 (tComp3 (iSeq3 (tFld3 ad.c_Yard "hands" (tVar3 0))) (gTup3 2 (gCons3 (gName3 6) (gCons3 (gName3 7) gNil3))) tYes3 (tOp3 rAdd3 (tOp3 rAdd3 (tOp3 rAdd3 (tC3 (.str "hand ")) (tCall3 (sp_crafts_text ad) W0 (tCons3 (tVar3 6) tNil3))) (tC3 (.str " "))) (tCall3 (sp_days_text ad) W0 (tCons3 (tVar3 7) tNil3))) [6, 7]))
 (tSeq3 (tFor3 (iSeq3 (tFld3 ad.c_Yard "boats" (tVar3 0))) (gTup3 4 (gCons3 (gName3 2) (gCons3 (gName3 3) (gCons3 (gName3 4) (gCons3 (gName3 5) gNil3))))) (b1_text_of ad W))
 (tRet3 (tMt3 "str" wJoin (tC3 (.str "")) (tCons3 (tComp3 (iLst3 (tVarB3 1)) (gName3 8) tYes3 (tOp3 rAdd3 (tVarB3 8) (tC3 (.str "\n"))) [8]) tNil3)))))))
def t_read_crafts (ad : Ad) (W : W3) : TS3 :=
 (tSeq3 (tIfS3 (tOr3 (tNot3 (tTru3 (tVarB3 0))) (tNot3 (tTru3 (tCB3 rAll3 (tCons3 (tComp3 (iStr3 (tVar3 0)) (gName3 2) tYes3 (tOp3 rIn3 (tVarB3 2) (tC3 (.str "abcd"))) [2]) tNil3))))) (tRet3 (tC3 .non)) tNext3)
 (tSeq3 (tSet3 1 (tCB3 rTuple3 (tCons3 (tComp3 (iStr3 (tVar3 0)) (gName3 2) tYes3 (tMt3 "str" wSIdx (tC3 (.str "abcd")) (tCons3 (tVarB3 2) tNil3)) [2]) tNil3)))
 (tRet3 (tIf3 (tTru3 (tCall3 (sp_is_set ad) W (tCons3 (tVar3 1) (tCons3 (tOp3 rSub3 (tC3 (.int 4)) (tC3 (.int 1))) tNil3)))) (tVar3 1) (tC3 .non)))))
def t_read_days (ad : Ad) (W : W3) : TS3 :=
 (tSeq3 (tIfS3 (tTest3 (tOp3 rEq3 (tVarB3 0) (tC3 (.str "-")))) (tRet3 (tTup3 tNil3)) tNext3)
 (tSeq3 (tSet3 2 (tCB3 rTuple3 (tCons3 (tComp3 (iLst3 (tMt3 "str" wSplit (tVarB3 0) (tCons3 (tC3 (.str ",")) tNil3))) (gName3 3) tYes3 (tCall3 (sp_as_count ad) W0 (tCons3 (tVar3 3) (tCons3 (tC3 (.int 14)) tNil3))) [3]) tNil3)))
 (tSeq3 (tIfS3 (tOr3 (tTest3 (tOp3 rIn3 (tC3 .non) (tVarB3 2))) (tNot3 (tTru3 (tCall3 (sp_is_set ad) W (tCons3 (tVar3 2) (tCons3 (tOp3 rSub3 (tVarB3 1) (tC3 (.int 1))) tNil3)))))) (tRet3 (tC3 .non)) tNext3)
 (tRet3 (tVarB3 2)))))
def t_read_hand (ad : Ad) (W : W3) : TS3 :=
 (tSeq3 (tIfS3 (tOr3 (tTest3 (tOp3 rNe3 (tCB3 rLen3 (tCons3 (tVarB3 0) tNil3)) (tC3 (.int 3)))) (tTest3 (tOp3 rNe3 (tOp3 rIx3 (tVarB3 0) (tC3 (.int 0))) (tC3 (.str "hand"))))) (tRet3 (tC3 .non)) tNext3)
 (tSeq3 (tPar3 2 3 (tCons3 (tCall3 (sp_read_crafts ad) W (tCons3 (tOp3 rIx3 (tVarB3 0) (tC3 (.int 1))) tNil3)) (tCons3 (tCall3 (sp_read_days ad) W (tCons3 (tOp3 rIx3 (tVarB3 0) (tC3 (.int 2))) (tCons3 (tVar3 1) tNil3))) tNil3)))
 (tRet3 (tIf3 (tOr3 (tTest3 (tOp3 rIsN3 (tVarB3 2) (tC3 .non))) (tTest3 (tOp3 rIsN3 (tVarB3 3) (tC3 .non)))) (tC3 .non) (tTup3 (tCons3 (tVar3 2) (tCons3 (tVar3 3) tNil3)))))))
def t_read_boat (ad : Ad) (W : W3) : TS3 :=
 (tSeq3 (tIfS3 (tOr3 (tTest3 (tOp3 rNe3 (tCB3 rLen3 (tCons3 (tVarB3 0) tNil3)) (tC3 (.int 5)))) (tOr3 (tTest3 (tOp3 rNe3 (tOp3 rIx3 (tVarB3 0) (tC3 (.int 0))) (tC3 (.str "boat")))) (tOr3 (tTest3 (tOp3 rNe3 (tCB3 rLen3 (tCons3 (tOp3 rIx3 (tVarB3 0) (tC3 (.int 1))) tNil3)) (tC3 (.int 1)))) (tTest3 (tOp3 rNotIn3 (tOp3 rIx3 (tVarB3 0) (tC3 (.int 1))) (tC3 (.str "abcd"))))))) (tRet3 (tC3 .non)) tNext3)
 (tSeq3 (tAsg3 (tComp3 (iSeq3 (tSl3 (tVarB3 0) (tP3 (tC3 (.int 2))) tNoP3)) (gName3 5) tYes3 (tCall3 (sp_as_count ad) W0 (tCons3 (tVar3 5) (tCons3 (tC3 (.int 14)) tNil3))) [5]) (gLst3 3 (gCons3 (gName3 2) (gCons3 (gName3 3) (gCons3 (gName3 4) gNil3)))))
 (tSeq3 (tIfS3 (tOr3 (tTest3 (tOp3 rIsN3 (tVarB3 2) (tC3 .non))) (tOr3 (tTest3 (tOp3 rIsN3 (tVarB3 3) (tC3 .non))) (tOr3 (tTest3 (tOp3 rIsN3 (tVarB3 4) (tC3 .non))) (tNot3 (tTest3 (tChain3 rLeX rLeX (tVarB3 3) (tVarB3 4) (tVarB3 1))))))) (tRet3 (tC3 .non)) tNext3)
 (tRet3 (tTup3 (tCons3 (tMt3 "str" wSIdx (tC3 (.str "abcd")) (tCons3 (tOp3 rIx3 (tVarB3 0) (tC3 (.int 1))) tNil3)) (tCons3 (tVar3 2) (tCons3 (tVar3 3) (tCons3 (tVar3 4) tNil3)))))))))
def t_read_days_line (ad : Ad) (W : W3) : TS3 :=
 (tSeq3 (tIfS3 (tOr3 (tTest3 (tOp3 rNe3 (tCB3 rLen3 (tCons3 (tVarB3 0) tNil3)) (tC3 (.int 2)))) (tTest3 (tOp3 rNe3 (tOp3 rIx3 (tVarB3 0) (tC3 (.int 0))) (tC3 (.str "days"))))) (tRet3 (tC3 .non)) tNext3)
 (tSeq3 (tSet3 1 (tCall3 (sp_as_count ad) W (tCons3 (tOp3 rIx3 (tVarB3 0) (tC3 (.int 1))) (tCons3 (tC3 (.int 14)) tNil3))))
 (tRet3 (tIf3 (tAnd3 (tTest3 (tOp3 rNotN3 (tVarB3 1) (tC3 .non))) (tTest3 (tOp3 rGtX (tVarB3 1) (tC3 (.int 0))))) (tVar3 1) (tC3 .non)))))
end Y

namespace Y
open PySem PySem.Spec PyProof.Rows L2 T3
variable {ad : Ad}
/-! ### texts of signs -/
theorem if_y {c : Prop} {i : Decidable c} {a b : Prop} (h : c) (ha : a) : @ite Prop c i a b := by rw [if_pos h]; exact ha
theorem if_n {c : Prop} {i : Decidable c} {a b : Prop} (h : ¬ c) (hb : b) : @ite Prop c i a b := by rw [if_neg h]; exact hb
@[simp] theorem len_S {l : List Nat} : (SX.S l).length = l.length := SX.S_len l
@[simp] theorem cps_S {l : List Nat} : (SX.S l).cps.toList = l := rfl
theorem signs_tx {l : List Nat} : (T3.signs (SX.S l)).map PV.str = l.map fun c => tx [c] := by rw [signs_S, List.map_map]; rfl
@[simp] theorem add_S {a b : List Nat} : SX.S a ++ SX.S b = SX.S (a ++ b) := SX.S_cat a b
theorem in_tx {c : Nat} {l : List Nat} {k : Bool → Prop} : inW (tx [c]) (tx l) k = k (decide (c ∈ l)) := rfl
@[simp] theorem eq_tx {a b : List Nat} : eqP (tx a) (tx b) = decide (a = b) := SX.S_beq_eq
theorem l_abcd : (Str.ofString "abcd") = SX.S [97, 98, 99, 100] := by decide +kernel
theorem l_digits : (Str.ofString "0123456789") = SX.S [48, 49, 50, 51, 52, 53, 54, 55, 56, 57] := by decide +kernel
theorem l_0 : (Str.ofString "0") = SX.S [48] := by decide +kernel
theorem l_nil : (Str.ofString "") = SX.S [] := by decide +kernel
theorem l_dash : (Str.ofString "-") = SX.S [45] := by decide +kernel
theorem l_comma : (Str.ofString ",") = SX.S [44] := by decide +kernel
theorem l_blank : (Str.ofString " ") = SX.S [32] := by decide +kernel
theorem l_nl : (Str.ofString "\n") = SX.S [10] := by decide +kernel
theorem l_hand : (Str.ofString "hand") = SX.S wHand := by decide +kernel
theorem l_boat : (Str.ofString "boat") = SX.S wBoat := by decide +kernel
theorem l_days : (Str.ofString "days") = SX.S wDays := by decide +kernel
theorem l_handB : (Str.ofString "hand ") = SX.S (wHand ++ [32]) := by decide +kernel
theorem l_boatB : (Str.ofString "boat ") = SX.S (wBoat ++ [32]) := by decide +kernel
theorem l_daysB : (Str.ofString "days ") = SX.S (wDays ++ [32]) := by decide +kernel
theorem num_tx {n : Nat} {k : PV → Prop} (hn : n < 10 ^ 12) (q : k (tx (TL.numL n))) : rStr3 [nP n] k := by
  refine ⟨?_, ?_⟩
  · show (n : Int).natAbs.log2 < 1920
    by_cases z : n = 0
    · subst z; decide
    · rw [Int.natAbs_natCast, Nat.log2_lt z]
      exact Nat.lt_of_lt_of_le (show n < 2 ^ 40 from by omega) (Nat.pow_le_pow_right (by decide) (show 40 ≤ 1920 by omega))
  · show k (.str (Str.ofString (toString ((n : Nat) : Int))))
    rw [SX.num_S]; exact q
theorem is_digit {c : Nat} : decide (c ∈ [48, 49, 50, 51, 52, 53, 54, 55, 56, 57]) = isDig c := by
  unfold isDig
  rw [Bool.eq_iff_iff]
  simp
  omega
theorem sem_as_count : Sem (sp_as_count ad) 3 (t_as_count ad) := by
  rintro _ M Q E ⟨w, most, rfl, q⟩
  simp -implicitDefEqProofs [t_as_count, l_digits, l_0, signs_tx]
  have no : asCount w most = none → clQ Q .non M := fun e => by rw [e] at q; exact clQ.of q
  by_cases h1 : 1 ≤ w.length
  · refine if_y (by omega) ?_
    by_cases h2 : w.length ≤ 12
    · refine if_y (by omega) ?_
      refine comp_mapF (fun c => tx [c]) (fun c => .bl (isDig c)) w (fun c hc Qt Qf k => ?_) ?_
      · simp [turnW]
        rw [in_tx, is_digit]
        exact k
      rw [List.nil_append, show (w.map fun c => PV.bl (isDig c)) = (w.map isDig).map .bl from by rw [List.map_map]; rfl]
      show rAll3 [.lst ((w.map isDig).map .bl)] _
      rw [rAll_bools, all_id]
      simp -implicitDefEqProofs
      by_cases h3 : w.all isDig = true
      · refine if_y (by simpa using h3) ?_
        have ne : w ≠ [] := fun z => by rw [z] at h1; simp at h1
        have ei : PySem.intText? (SX.S w) = some ((NumText.digitsVal w : Nat) : Int) := SX.int_S (by
          have := h3
          unfold isDig at this
          exact this) ne (by omega)
        obtain ⟨c, r, ew⟩ := List.exists_cons_of_ne_nil ne
        rw [ei]
        have a0 : atI w 0 = some c := by rw [ew]; exact atI_zero
        rw [a0, e_optS, e_optS, e_optS]
        have fin : (if (most : Int) < ((NumText.digitsVal w : Nat) : Int) then clQ Q .non M else (w.length ≤ 640 ∧ clQ Q (.int ((NumText.digitsVal w : Nat) : Int)) M)) ∨ (w.head? = some 48 ∧ w ≠ [48]) := by
          by_cases z : w.head? = some 48 ∧ w ≠ [48]
          · exact .inr z
          · left
            by_cases g : most < NumText.digitsVal w
            · refine if_y (by omega) (no ?_)
              unfold asCount
              rw [if_pos ⟨⟨h1, h2⟩, h3⟩, if_pos (.inr g)]
            · refine if_n (by omega) ⟨by omega, ?_⟩
              have : asCount w most = some (NumText.digitsVal w) := by
                unfold asCount
                rw [if_pos ⟨⟨h1, h2⟩, h3⟩, if_neg (by rintro (z2 | z2); exact z z2; exact g z2)]
              rw [this] at q
              exact clQ.of q
        have hd : w.head? = some c := by rw [ew]; rfl
        by_cases z : c = 48
        · refine if_y z ?_
          by_cases y1 : w = [48]
          · refine if_y y1 ⟨by omega, ?_⟩
            rcases fin with f | f
            · exact f
            · exact absurd y1 f.2
          · refine if_n y1 (no ?_)
            unfold asCount
            rw [if_pos ⟨⟨h1, h2⟩, h3⟩, if_pos (.inl ⟨by rw [hd, z], y1⟩)]
        · refine if_n z ⟨by omega, ?_⟩
          rcases fin with f | f
          · exact f
          · rw [hd] at f
            exact absurd (by simpa using f.1) z
      · refine if_n (by simpa using h3) (no ?_)
        unfold asCount
        rw [if_neg fun z => h3 z.2]
    · refine if_n (by omega) (no ?_)
      unfold asCount
      rw [if_neg fun z => h2 z.1.2]
  · refine if_n (by omega) (no ?_)
    unfold asCount
    rw [if_neg fun z => h1 z.1.1]
theorem lens_sum {ls : List (List Nat)} {b : Nat} (h : ∀ l ∈ ls, l.length ≤ b) : ((ls.map SX.S).map (·.length)).sum ≤ b * ls.length := by
  rw [SX.lens]
  induction ls with
  | nil => simp
  | cons l ls ih =>
    have h1 := h l (by simp)
    have := ih fun x hx => h x (by simp [hx])
    simp only [List.map_cons, List.sum_cons, List.length_cons, Nat.mul_add]
    omega
/-- a join of texts -/
theorem join_tx {s : List Nat} {ls : List (List Nat)} {b : Nat} {k : PV → Prop} (hb : ∀ l ∈ ls, l.length ≤ b) (hs : (b + s.length) * ls.length ≤ 16777216) (q : k (tx (TL.joinL s ls))) : optW (strsOf (ls.map tx)) fun ss => (ss.map (·.length)).sum + ss.length * (SX.S s).length ≤ 16777216 ∧ k (.str (Txt.join (SX.S s) ss)) := by
  have e : strsOf (ls.map tx) = some (ls.map SX.S) := by
    rw [← strsOf_map (ls.map SX.S), List.map_map]; rfl
  rw [e, e_optS, SX.join_S]
  refine ⟨?_, q⟩
  have := lens_sum hb
  rw [len_S, List.length_map]
  rw [Nat.add_mul] at hs
  rw [Nat.mul_comm ls.length]
  omega
theorem join0 {ls : List (List Nat)} {b : Nat} {k : PV → Prop} (hb : ∀ l ∈ ls, l.length ≤ b) (hs : b * ls.length ≤ 16777216) (q : k (tx (TL.joinL [] ls))) : optW (strsOf (ls.map tx)) fun ss => (ss.map fun x => x.length).sum ≤ 16777216 ∧ k (.str (Txt.join (SX.S []) ss)) := by
  have := join_tx (s := []) (ls := ls) (b := b) (k := k) hb (by simpa using hs) q
  simpa using this
theorem join1 {c : Nat} {ls : List (List Nat)} {b : Nat} {k : PV → Prop} (hb : ∀ l ∈ ls, l.length ≤ b) (hs : (b + 1) * ls.length ≤ 16777216) (q : k (tx (TL.joinL [c] ls))) : optW (strsOf (ls.map tx)) fun ss => (ss.map fun x => x.length).sum + ss.length ≤ 16777216 ∧ k (.str (Txt.join (SX.S [c]) ss)) := by
  have := join_tx (s := [c]) (ls := ls) (b := b) (k := k) hb (by simpa using hs) q
  simpa using this
theorem letter {c : Nat} (h : c < 4) : atI [97, 98, 99, 100] (c : Int) = some (97 + c) := by
  match c, h with
  | 0, _ => rfl
  | 1, _ => rfl
  | 2, _ => rfl
  | 3, _ => rfl
theorem join_nil : ∀ {ls : List (List Nat)}, TL.joinL [] ls = ls.flatten
  | [] => rfl
  | [l] => by simp [TL.joinL]
  | l :: m :: r => by
    show l ++ ([] ++ TL.joinL [] (m :: r)) = _
    rw [join_nil]; simp
theorem flat_one {cs : List Nat} : (cs.map fun c => [97 + c]).flatten = craftsT cs := by
  unfold craftsT
  induction cs with
  | nil => rfl
  | cons c cs ih => rw [List.map_cons, List.flatten_cons, ih]; rfl
theorem sem_crafts_text : Sem (sp_crafts_text ad) 2 (t_crafts_text ad) := by
  rintro _ M Q E ⟨cs, rfl, hc, hl, q⟩
  simp -implicitDefEqProofs [t_crafts_text, l_abcd, l_nil]
  refine comp_mapF nP (fun c => tx [97 + c]) cs (fun c hcs Qt Qf k => ?_) ?_
  · simp [turnW]
    rw [letter (hc c hcs), e_optS]
    exact k
  rw [List.nil_append, show (cs.map fun c => tx [97 + c]) = (cs.map fun c => [97 + c]).map tx from by rw [List.map_map]; rfl]
  show optW (strsOf _) _
  refine join0 (k := fun z => clQ Q z M) (b := 1) (fun l h => ?_) ?_ ?_
  · obtain ⟨c, _, rfl⟩ := List.mem_map.mp h; simp
  · simp; omega
  · rw [join_nil, flat_one]; exact clQ.of q
theorem sem_days_text : Sem (sp_days_text ad) 2 (t_days_text ad) := by
  rintro _ M Q E ⟨ds, rfl, hd, hl, q⟩
  simp -implicitDefEqProofs [t_days_text, l_comma, l_dash]
  show truW (.tup (ds.map nP)) _
  simp -implicitDefEqProofs
  by_cases e : ds = []
  · subst e
    exact if_y rfl (clQ.of q)
  · refine if_n e ?_
    refine comp_mapF nP (fun d => tx (TL.numL d)) ds (fun d h Qt Qf k => ?_) ?_
    · simp only [turnW]
      exact num_tx (n := d) (k := fun z => Qt z M) (by have := hd d h; omega) k
    rw [List.nil_append, show (ds.map fun d => tx (TL.numL d)) = (ds.map TL.numL).map tx from by rw [List.map_map]; rfl]
    show optW (strsOf _) _
    refine join1 (k := fun z => clQ Q z M) (b := 2) (fun l h => ?_) ?_ ?_
    · obtain ⟨d, hd2, rfl⟩ := List.mem_map.mp h
      exact TL.numL_len (by decide) (by have := hd d hd2; omega)
    · rw [List.length_map]; omega
    · unfold daysT at q
      rw [if_neg e] at q
      exact clQ.of q
/-! ### words read -/
theorem letters_in {c : Nat} : decide (c ∈ [97, 98, 99, 100]) = (decide (97 ≤ c) && decide (c ≤ 100)) := by
  rw [Bool.eq_iff_iff]
  simp
  omega
theorem letter_at {c : Nat} (h : 97 ≤ c ∧ c ≤ 100) : (Builtin.Str.occurrences (SX.S [97, 98, 99, 100]) (SX.S [c]) 0 4 1).head? = some (c - 97) := by
  have : c = 97 ∨ c = 98 ∨ c = 99 ∨ c = 100 := by omega
  rcases this with rfl | rfl | rfl | rfl <;> decide +kernel
theorem bools_all {α : Type} (f : α → Bool) (xs : List α) {k : PV → Prop} : rAll3 [.lst (xs.map fun x => .bl (f x))] k = k (.bl (xs.all f)) := by
  rw [map_bl, rAll_bools, all_id]
theorem asc_setP {ns : List Nat} : asc (ns.map nP) = true ↔ ns.Pairwise (· < ·) := by
  have e : ns.map nP = (ns.map fun (n : Nat) => (n : Int)).map PV.int := by simp [nP]
  rw [e, asc_ints]
  clear e
  induction ns with
  | nil => simp [ascI]
  | cons a r ih =>
    cases r with
    | nil => simp [ascI]
    | cons b r =>
      simp only [List.map_cons, ascI] at ih ⊢
      rw [Bool.and_eq_true]
      have ih : _ ↔ (b :: r).Pairwise (· < ·) := ih
      rw [show (ascI ((b : Int) :: List.map (fun (n : Nat) => (n : Int)) r) = true) = ((b :: r).Pairwise (· < ·)) from propext ih]
      constructor
      · rintro ⟨h1, h2⟩
        have h1 : a < b := by simpa using h1
        refine List.pairwise_cons.mpr ⟨fun c hc => ?_, h2⟩
        rcases List.mem_cons.mp hc with rfl | hc
        · exact h1
        · have := (List.pairwise_cons.mp h2).1 c hc
          omega
      · intro h
        have := List.pairwise_cons.mp h
        exact ⟨by have := this.1 b (by simp); simp; omega, this.2⟩
theorem isSet_iff {ns : List Nat} {m : Int} : isSet m (setP ns) = true ↔ ns.Pairwise (· < ·) ∧ ∀ n ∈ ns, (n : Int) ≤ m := by
  constructor
  · intro h
    have : ((ns.map nP).all (within 0 m) && asc (ns.map nP)) = true := h
    rw [Bool.and_eq_true] at this
    refine ⟨asc_setP.mp this.2, fun n hn => ?_⟩
    have := List.all_eq_true.mp this.1 (nP n) (List.mem_map.mpr ⟨n, hn, rfl⟩)
    simp [within, nP] at this
    exact this
  · rintro ⟨h1, h2⟩
    exact isSet_of h1 h2
theorem sem_read_crafts : Sem (sp_read_crafts ad) 3 (t_read_crafts ad) := by
  rintro _ M Q E ⟨w, rfl, hl, q⟩
  simp -implicitDefEqProofs [t_read_crafts, l_abcd]
  have no : readCrafts w = none → clQ Q .non M := fun e => by rw [e] at q; exact clQ.of q
  by_cases h0 : w = []
  · refine if_n (by simp [h0]) (no ?_)
    unfold readCrafts
    rw [if_neg fun z => z.1 h0]
  refine if_y (by simpa using h0) ?_
  rw [signs_tx]
  refine comp_mapF (fun c => tx [c]) (fun c => .bl (decide (97 ≤ c) && decide (c ≤ 100))) w (fun c hc Qt Qf k => ?_) ?_
  · simp [turnW]
    rw [in_tx, letters_in]
    exact k
  rw [List.nil_append]
  show rAll3 [.lst _] _
  rw [bools_all]
  show truW (.bl _) _
  simp -implicitDefEqProofs
  by_cases h1 : w.all (fun c => decide (97 ≤ c) && decide (c ≤ 100)) = true
  · refine if_y (by simpa using h1) ?_
    refine comp_mapF (fun c => tx [c]) (fun c => nP (c - 97)) w (fun c hc Qt Qf k => ?_) ?_
    · simp [turnW]
      have := List.all_eq_true.mp h1 c hc
      simp at this
      rw [letter_at this, e_optS]
      exact k
    rw [List.nil_append]
    show plain2 (PV.tup _) = true ∧ _
    rw [show (w.map fun c => nP (c - 97)) = (w.map (· - 97)).map nP from by rw [List.map_map]; rfl]
    refine ⟨plain_setP, ?_⟩
    have b : ∀ n ∈ (w.map fun c => c - 97 : List Nat), (n : Int) ≤ 3 := fun n hn => by
      obtain ⟨c, hc, rfl⟩ := List.mem_map.mp hn
      have := List.all_eq_true.mp h1 c hc
      simp at this
      omega
    by_cases h2 : (w.map (· - 97)).Pairwise (· < ·)
    · refine if_y (isSet_iff.mpr ⟨h2, b⟩) ?_
      have : readCrafts w = some (w.map (· - 97)) := by
        unfold readCrafts
        rw [if_pos ⟨h0, h1⟩, if_pos h2]
      rw [this] at q
      exact clQ.of q
    · refine if_n (fun z => h2 (isSet_iff.mp z).1) (no ?_)
      unfold readCrafts
      rw [if_pos ⟨h0, h1⟩, if_neg h2]
  · refine if_n (by simpa using h1) (no ?_)
    unfold readCrafts
    rw [if_neg fun z => h1 z.2]
@[simp] theorem s_as_count {w : List Nat} {most : Nat} {M : Mem} {Q : PV → Mem → Prop} {E : W3} : sp_as_count ad [tx w, nP most] M Q E = Q (optP nP (asCount w most)) M := propext ⟨fun ⟨_, _, h, q⟩ => by
    injection h with h1 h2; injection h2 with h2 _
    injection h1 with h1
    have h1 := SX.S_inj h1
    have h2 : most = _ := Int.ofNat.inj (PV.int.inj h2)
    subst h1; subst h2; exact q, fun q => ⟨_, _, rfl, q⟩⟩
@[simp] theorem s_as_count14 {w : List Nat} {M : Mem} {Q : PV → Mem → Prop} {E : W3} : sp_as_count ad [tx w, .int 14] M Q E = Q (optP nP (asCount w 14)) M := s_as_count (most := 14)
theorem some_none {os : List (Option Nat)} (h : none ∈ os) : allSome os = none := by
  induction os with
  | nil => simp at h
  | cons o os ih =>
    cases o with
    | none => rfl
    | some n =>
      unfold allSome
      rw [ih (by simpa using h)]; rfl
theorem some_all {os : List (Option Nat)} (h : none ∉ os) : ∃ ns, allSome os = some ns ∧ os = ns.map some := by
  induction os with
  | nil => exact ⟨[], rfl, rfl⟩
  | cons o os ih =>
    cases o with
    | none => simp at h
    | some n =>
      obtain ⟨ns, e1, e2⟩ := ih (by simpa using h)
      exact ⟨n :: ns, by unfold allSome; rw [e1]; rfl, by rw [e2]; rfl⟩
theorem split_fine {c : Nat} {w : List Nat} (hc : c < 256) (hl : w.length ≤ 1000000) : (Txt.split (SX.S w) (SX.S [c])).length ≤ 16777216 ∧ ∀ s ∈ Txt.split (SX.S w) (SX.S [c]), s.length ≤ 16777216 := by
  rw [split_cut hc]
  refine ⟨?_, fun s hs => ?_⟩
  · have := cut1_len (c := c) w
    rw [List.length_map]; omega
  · obtain ⟨p, hp, rfl⟩ := List.mem_map.mp hs
    have := cut1_part w p hp
    rw [len_S]; omega
theorem sem_read_days : Sem (sp_read_days ad) 4 (t_read_days ad) := by
  rintro _ M Q E ⟨w, days, rfl, hd, hl, q⟩
  simp -implicitDefEqProofs [t_read_days, l_comma, l_dash]
  by_cases h0 : w = [45]
  · refine if_y h0 ?_
    subst h0
    exact clQ.of q
  refine if_n h0 ?_
  have no : readDays w days = none → clQ Q .non M := fun e => by rw [e] at q; exact clQ.of q
  refine ⟨⟨by omega, split_fine (by omega) hl⟩, ?_⟩
  rw [split_cut (by omega), List.map_map]
  refine comp_mapF tx (fun v => optP nP (asCount v 14)) (cut1 44 w) (fun v hv Qt Qf k => ?_) ?_
  · simp [turnW]
    exact k
  rw [List.nil_append, show ((cut1 44 w).map fun v => optP nP (asCount v 14)) = ((cut1 44 w).map fun v => asCount v 14).map (optP nP) from by rw [List.map_map]; rfl]
  obtain ⟨os, eo⟩ : ∃ os, (cut1 44 w).map (fun v => asCount v 14) = os := ⟨_, rfl⟩
  rw [eo]
  have fl : (os.map (optP nP)).all flatP = true := List.all_eq_true.mpr fun x hx => by
    obtain ⟨o, _, rfl⟩ := List.mem_map.mp hx
    cases o <;> rfl
  rw [e_lkL, e_seqL]
  show inW .non (.tup (os.map (optP nP))) _
  refine ⟨⟨rfl, fl⟩, ?_⟩
  by_cases h1 : none ∈ os
  · refine if_y (List.any_eq_true.mpr ⟨.non, List.mem_map.mpr ⟨none, h1, rfl⟩, rfl⟩) (no ?_)
    unfold readDays
    rw [if_neg h0, eo, some_none h1]
  · obtain ⟨ns, e1, e2⟩ := some_all h1
    refine if_n (fun z => ?_) ?_
    · obtain ⟨x, hx, e⟩ := List.any_eq_true.mp z
      obtain ⟨o, ho, rfl⟩ := List.mem_map.mp hx
      cases o with
      | none => exact h1 ho
      | some n => cases e
    rw [e2, List.map_map, show (optP nP) ∘ some = nP from rfl]
    refine ⟨plain_setP, ?_⟩
    have er : readDays w days = if ns.Pairwise (· < ·) ∧ ∀ n ∈ ns, n < days then some ns else none := by
      unfold readDays
      rw [if_neg h0, eo, e1]
    by_cases h2 : ns.Pairwise (· < ·) ∧ ∀ n ∈ ns, n < days
    · refine if_y (isSet_iff.mpr ⟨h2.1, fun n hn => by have := h2.2 n hn; omega⟩) ?_
      rw [er, if_pos h2] at q
      exact clQ.of q
    · refine if_n (fun z => h2 ⟨(isSet_iff.mp z).1, fun n hn => by have := (isSet_iff.mp z).2 n hn; omega⟩) (no ?_)
      rw [er, if_neg h2]
theorem isN_none {k : PV → Prop} (h : k (.bl true)) : rIsN3 .non .non k := h
theorem isN_set {ns : List Nat} {k : PV → Prop} (h : k (.bl false)) : rIsN3 (setP ns) .non k := h
@[simp] theorem lk_words {M : Mem} {ws : List (List Nat)} : look M (wordsP ws) = wordsP ws := rfl
@[simp] theorem len_words {ws : List (List Nat)} {k : Int → Prop} : lenW (wordsP ws) k = k (ws.length : Int) := by
  show k _ = k _
  rw [List.length_map]
@[simp] theorem isN_i {i : Int} {k : PV → Prop} : rIsN3 (.int i) .non k = k (.bl false) := rfl
@[simp] theorem isN_n {k : PV → Prop} : rIsN3 .non .non k = k (.bl true) := rfl
theorem sl_words {ws : List (List Nat)} {lo hi : Option Int} {k : PV → Prop} : slW (wordsP ws) lo hi k = k (.lst (cutP (ws.map tx) lo hi)) := rfl
@[simp] theorem ix_words0 {a : List Nat} {ws : List (List Nat)} {k : PV → Prop} : rIx3 (wordsP (a :: ws)) (.int 0) k = k (tx a) := by
  show optW (atI _ _) k = _
  rw [T3.atI_nat (by decide)]; rfl
@[simp] theorem ix_words1 {a b : List Nat} {ws : List (List Nat)} {k : PV → Prop} : rIx3 (wordsP (a :: b :: ws)) (.int 1) k = k (tx b) := by
  show optW (atI _ _) k = _
  rw [T3.atI_nat (by decide)]; rfl
@[simp] theorem ix_words2 {a b c : List Nat} {ws : List (List Nat)} {k : PV → Prop} : rIx3 (wordsP (a :: b :: c :: ws)) (.int 2) k = k (tx c) := by
  show optW (atI _ _) k = _
  rw [T3.atI_nat (by decide)]; rfl
@[simp] theorem s_read_crafts {w : List Nat} {M : Mem} {Q : PV → Mem → Prop} {E : W3} (h : w.length ≤ 1000000) : sp_read_crafts ad [tx w] M Q E = Q (optP setP (readCrafts w)) M := propext ⟨fun ⟨_, h, _, q⟩ => by
    injection h with h1 _
    injection h1 with h1
    have h1 := SX.S_inj h1
    subst h1; exact q, fun q => ⟨_, rfl, h, q⟩⟩
@[simp] theorem s_read_days {w : List Nat} {d : Nat} {M : Mem} {Q : PV → Mem → Prop} {E : W3} (hd : 1 ≤ d) (h : w.length ≤ 1000000) : sp_read_days ad [tx w, nP d] M Q E = Q (optP setP (readDays w d)) M := propext ⟨fun ⟨_, _, h, _, _, q⟩ => by
    injection h with h1 h2; injection h2 with h2 _
    injection h1 with h1
    have h1 := SX.S_inj h1
    have h2 : d = _ := Int.ofNat.inj (PV.int.inj h2)
    subst h1; subst h2; exact q, fun q => ⟨_, _, rfl, hd, h, q⟩⟩
theorem three {α : Type} {ws : List α} (h : ws.length = 3) : ∃ a b c, ws = [a, b, c] := by
  match ws, h with
  | [a, b, c], _ => exact ⟨a, b, c, rfl⟩
theorem five {α : Type} {ws : List α} (h : ws.length = 5) : ∃ a b c d e, ws = [a, b, c, d, e] := by
  match ws, h with
  | [a, b, c, d, e], _ => exact ⟨a, b, c, d, e, rfl⟩
theorem two {α : Type} {ws : List α} (h : ws.length = 2) : ∃ a b, ws = [a, b] := by
  match ws, h with
  | [a, b], _ => exact ⟨a, b, rfl⟩
theorem hand_len {ws : List (List Nat)} {d : Nat} (h : ws.length ≠ 3) : readHand ws d = none := by
  unfold readHand
  split
  · exact absurd rfl h
  · rfl
theorem boat_len {ws : List (List Nat)} {d : Nat} (h : ws.length ≠ 5) : readBoat ws d = none := by
  unfold readBoat
  split
  · exact absurd rfl h
  · rfl
theorem dayL_len {ws : List (List Nat)} (h : ws.length ≠ 2) : readDayL ws = none := by
  unfold readDayL
  split
  · exact absurd rfl h
  · rfl
theorem sem_read_hand : Sem (sp_read_hand ad) 4 (t_read_hand ad) := by
  rintro _ M Q E ⟨ws, days, rfl, hd, hs, q⟩
  have no : readHand ws days = none → clQ Q .non M := fun e => by rw [e] at q; exact clQ.of q
  simp -implicitDefEqProofs [t_read_hand, l_hand]
  by_cases h0 : ws.length = 3
  · obtain ⟨a, b, c, rfl⟩ := three h0
    have s1 : b.length ≤ 1000000 := hs.2 b (by simp)
    have s2 : c.length ≤ 1000000 := hs.2 c (by simp)
    refine if_y (by omega) ?_
    simp -implicitDefEqProofs [s_read_crafts s1, s_read_days hd s2]
    by_cases h1 : a = wHand
    · refine if_y h1 ?_
      unfold readHand at q
      simp only at q
      rw [if_pos h1] at q
      have eh : readHand [a, b, c] days = match readCrafts b, readDays c days with
        | some cs, some as => some ⟨cs, as⟩
        | _, _ => none := if_pos h1
      cases e1 : readCrafts b with
      | none => exact no (by rw [eh, e1])
      | some cs =>
        cases e2 : readDays c days with
        | none => exact no (by rw [eh, e1, e2])
        | some as =>
          rw [e1, e2] at q
          exact clQ.of q
    · exact if_n h1 (no (if_neg h1))
  · exact if_n (by omega) (no (hand_len h0))
theorem sem_read_boat : Sem (sp_read_boat ad) 6 (t_read_boat ad) := by
  rintro _ M Q E ⟨ws, days, rfl, hs, q⟩
  have no : readBoat ws days = none → clQ Q .non M := fun e => by rw [e] at q; exact clQ.of q
  simp -implicitDefEqProofs [t_read_boat, l_boat, l_abcd]
  by_cases h0 : ws.length = 5
  · obtain ⟨a, b, c, d, e, rfl⟩ := five h0
    refine if_y (by omega) ?_
    simp -implicitDefEqProofs
    by_cases h1 : a = wBoat
    · refine if_y h1 ?_
      by_cases h2 : b.length = 1
      · refine if_y (by omega) ?_
        obtain ⟨x, rfl⟩ := List.length_eq_one_iff.mp h2
        rw [in_tx, letters_in]
        by_cases h3 : 97 ≤ x ∧ x ≤ 100
        · refine if_y (by simpa using h3) ?_
          rw [sl_words, cut_from (by decide), e_seqL]
          show compW _ _ _ _ _ _ ([c, d, e].map tx) [] M
          refine comp_mapF tx (fun v => optP nP (asCount v 14)) [c, d, e] (fun v hv Qt Qf k => ?_) ?_
          · simp [turnW]
            exact k
          have eb : readBoat [a, [x], c, d, e] days = match asCount c 14, asCount d 14, asCount e 14 with
            | some w, some l, some t => if l ≤ t ∧ t ≤ days then some ⟨x - 97, w, l, t⟩ else none
            | _, _, _ => none := by
            unfold readBoat
            simp only
            exact (if_pos h1).trans (if_pos h3)
          cases e1 : asCount c 14 with
          | none =>
            simp -implicitDefEqProofs [e1, optP, nP]
            exact no (by rw [eb, e1])
          | some w =>
            cases e2 : asCount d 14 with
            | none =>
              simp -implicitDefEqProofs [e1, e2, optP, nP]
              exact no (by rw [eb, e1, e2])
            | some l =>
              cases e3 : asCount e 14 with
              | none =>
                simp -implicitDefEqProofs [e1, e2, e3, optP, nP]
                exact no (by rw [eb, e1, e2, e3])
              | some t =>
                rw [e1, e2, e3] at eb
                simp only at eb
                simp -implicitDefEqProofs [e1, e2, e3, optP, nP]
                by_cases h4 : l ≤ t
                · refine if_y h4 ?_
                  by_cases h5 : t ≤ days
                  · refine if_y h5 ?_
                    rw [letter_at h3, e_optS]
                    rw [eb, if_pos ⟨h4, h5⟩] at q
                    exact clQ.of q
                  · exact if_n h5 (no (by rw [eb, if_neg fun z => h5 z.2]))
                · exact if_n h4 (no (by rw [eb, if_neg fun z => h4 z.1]))
        · refine if_n (by simpa using h3) (no ?_)
          unfold readBoat
          simp only
          rw [if_pos h1, if_neg h3]
      · refine if_n (by omega) (no ?_)
        unfold readBoat
        simp only
        rw [if_pos h1]
        split
        · exact absurd rfl h2
        · rfl
    · exact if_n h1 (no (if_neg h1))
  · exact if_n (by omega) (no (boat_len h0))
theorem sem_read_days_line : Sem (sp_read_days_line ad) 2 (t_read_days_line ad) := by
  rintro _ M Q E ⟨ws, rfl, hs, q⟩
  have no : readDayL ws = none → clQ Q .non M := fun e => by rw [e] at q; exact clQ.of q
  simp -implicitDefEqProofs [t_read_days_line, l_days]
  by_cases h0 : ws.length = 2
  · obtain ⟨a, b, rfl⟩ := two h0
    refine if_y (by omega) ?_
    simp -implicitDefEqProofs
    by_cases h1 : a = wDays
    · refine if_y h1 ?_
      have ed : readDayL [a, b] = match asCount b 14 with
        | some n => if 0 < n then some n else none
        | none => none := if_pos h1
      cases e1 : asCount b 14 with
      | none => exact no (by rw [ed, e1])
      | some n =>
        rw [e1] at ed
        simp only at ed
        simp -implicitDefEqProofs [optP, nP]
        by_cases h2 : 0 < n
        · refine if_y (by omega) ?_
          rw [ed, if_pos h2] at q
          exact clQ.of q
        · exact if_n (by omega) (no (by rw [ed, if_neg h2]))
    · exact if_n h1 (no (if_neg h1))
  · exact if_n (by omega) (no (dayL_len h0))
theorem num_repr {n : Nat} : Str.ofString ((n : Int)).repr = SX.S (TL.numL n) := SX.num_S n
@[simp] theorem e_extOT {i : Nat} {te : TE3} {D : D3} {σ : Sl} {M : Mem} : tExtO3 i te D σ M = ownLst σ i fun xs => te σ M fun v M1 => lstW v fun ys => szW (xs ++ ys) ∧ D.nx (σ.set i (.own (.lst (xs ++ ys)))) M1 := rfl
theorem asc_le {n : Nat} : ∀ {xs : List Nat} {a : Nat}, xs.Pairwise (· < ·) → (∀ x ∈ xs, a ≤ x ∧ x < n) → xs.length ≤ n - a
  | [], _, _, _ => by simp
  | x :: r, a, h, hb => by
    have p := List.pairwise_cons.mp h
    have hx := hb x (by simp)
    have := asc_le (n := n) (xs := r) (a := x + 1) p.2 fun z hz => ⟨p.1 z hz, (hb z (by simp [hz])).2⟩
    rw [List.length_cons]; omega
theorem joinL_le {c b : Nat} : ∀ {ls : List (List Nat)}, (∀ l ∈ ls, l.length ≤ b) → (TL.joinL [c] ls).length ≤ (b + 1) * ls.length
  | [], _ => by simp [TL.joinL]
  | [l], h => by
    have := h l (by simp)
    show l.length ≤ _
    simp; omega
  | l :: m :: r, h => by
    have ih := joinL_le (c := c) (b := b) (ls := m :: r) fun x hx => h x (by simp [hx])
    have := h l (by simp)
    rw [join_cons (by simp), List.length_append, List.length_cons, List.length_cons, Nat.mul_succ]
    omega
theorem crafts_le {h : Hd} {d : Nat} (ok : HOk d h) : (craftsT h.crafts).length ≤ 4 := by
  unfold craftsT
  rw [List.length_map]
  have := asc_le (n := 4) (a := 0) ok.ac fun x hx => ⟨by omega, ok.bc x hx⟩
  omega
theorem num_le {n : Nat} (h : n < 100) : (TL.numL n).length ≤ 2 := TL.numL_len (by decide) (by omega)
theorem away_le {h : Hd} {d : Nat} (hd : d ≤ 14) (ok : HOk d h) : h.away.length ≤ 14 := by
  have := asc_le (n := d) (a := 0) ok.aa fun x hx => ⟨by omega, ok.ba x hx⟩
  omega
theorem daysT_le {h : Hd} {d : Nat} (hd : d ≤ 14) (ok : HOk d h) : (daysT h.away).length ≤ 42 := by
  unfold daysT
  split
  · simp
  · have := joinL_le (c := 44) (b := 2) (ls := h.away.map TL.numL) fun l hl => by
      obtain ⟨x, hx, rfl⟩ := List.mem_map.mp hl
      exact num_le (by have := ok.ba x hx; omega)
    have := away_le hd ok
    rw [List.length_map] at *
    omega
theorem hand_line {h : Hd} : lineT (handW h) = wHand ++ 32 :: (craftsT h.crafts ++ 32 :: daysT h.away) := by
  unfold lineT handW
  rw [join_cons (by simp), join_cons (by simp)]; rfl
theorem boat_line {b : Bt} : lineT (boatW b) = wBoat ++ 32 :: TL.joinL [32] [[97 + b.craft], TL.numL b.work, TL.numL b.laid, TL.numL b.tide] := by
  unfold lineT boatW
  rw [join_cons (by simp)]
theorem day_line {d : Nat} : lineT (dayW d) = wDays ++ 32 :: TL.numL d := by
  unfold lineT dayW
  rw [join_cons (by simp)]; rfl
theorem hand_le {h : Hd} {d : Nat} (hd : d ≤ 14) (ok : HOk d h) : (lineT (handW h)).length ≤ 60 := by
  rw [hand_line]
  have := daysT_le hd ok
  have := crafts_le ok
  simp [wHand]; omega
theorem boat_words_le {b : Bt} {d : Nat} (hd : d ≤ 14) (ok : BOk d b) : ∀ l ∈ [[97 + b.craft], TL.numL b.work, TL.numL b.laid, TL.numL b.tide], l.length ≤ 2 := by
  have h1 := ok.w; have h2 := ok.lt; have h3 := ok.td
  intro l hl
  simp only [List.mem_cons, List.not_mem_nil, or_false] at hl
  rcases hl with rfl | rfl | rfl | rfl
  · simp
  all_goals exact num_le (by omega)
theorem boat_le {b : Bt} {d : Nat} (hd : d ≤ 14) (ok : BOk d b) : (lineT (boatW b)).length ≤ 60 := by
  rw [boat_line]
  have := joinL_le (c := 32) (boat_words_le hd ok)
  simp [wBoat] at this ⊢; omega
theorem day_le {d : Nat} (hd : d ≤ 14) : (lineT (dayW d)).length ≤ 60 := by
  rw [day_line]
  have := num_le (n := d) (by omega)
  simp [wDays]; omega
theorem rows_le {y : YD} (ok : YOk y) : ∀ l ∈ (rowsOf y).map lineT, l.length ≤ 60 := fun l hl => by
  obtain ⟨ws, hws, rfl⟩ := List.mem_map.mp hl
  unfold rowsOf at hws
  rcases List.mem_cons.mp hws with h | h
  · rw [h]; exact day_le ok.d2
  · rcases List.mem_append.mp h with h | h
    · obtain ⟨x, hx, rfl⟩ := List.mem_map.mp h; exact hand_le ok.d2 (ok.ho x hx)
    · obtain ⟨x, hx, rfl⟩ := List.mem_map.mp h; exact boat_le ok.d2 (ok.bo x hx)
theorem rows_len {y : YD} (ok : YOk y) : (rowsOf y).length ≤ 17 := by
  have := ok.nh; have := ok.nb
  unfold rowsOf
  simp; omega
theorem log_small {n : Nat} (h : n < 100) : n.log2 < 1920 := by
  by_cases z : n = 0
  · subst z; decide
  · rw [Nat.log2_lt z]
    exact Nat.lt_of_lt_of_le (show n < 2 ^ 7 from by omega) (Nat.pow_le_pow_right (by decide) (show 7 ≤ 1920 by omega))
theorem boats_lines {y : YD} {M : Mem} {W : W3} (hd : y.days ≤ 14) : ∀ (bs : List Bt) (ls : List (List Nat)) (s2 s3 s4 s5 : Slot) (D : D3), (∀ b ∈ bs, BOk y.days b) → ls.length + bs.length ≤ 100 →
    (∀ s2 s3 s4 s5, D.nx [.val (yv ad y), .own (.lst ((ls ++ bs.map fun b => lineT (boatW b)).map tx)), s2, s3, s4, s5, .un, .un, .un] M) →
    forW (gTup3 4 (gCons3 (gName3 2) (gCons3 (gName3 3) (gCons3 (gName3 4) (gCons3 (gName3 5) gNil3))))) (b1_text_of ad W) D (bs.map boatP) [.val (yv ad y), .own (.lst (ls.map tx)), s2, s3, s4, s5, .un, .un, .un] M
  | [], ls, s2, s3, s4, s5, D, _, _, q => by
    have := q s2 s3 s4 s5
    rw [List.map_nil, List.append_nil] at this
    exact this
  | b :: bs, ls, s2, s3, s4, s5, D, hb, hl, q => by
    have bo := hb b (by simp)
    have h1 := bo.w; have h2 := bo.lt; have h3 := bo.td
    rw [List.map_cons, e_forC]
    refine ⟨rfl, rfl, ?_⟩
    show b1_text_of ad W _ [.val (yv ad y), .own (.lst (ls.map tx)), .val (nP b.craft), .val (nP b.work), .val (nP b.laid), .val (nP b.tide), .un, .un, .un] M
    rw [b1_text_of, l_boatB, l_blank, l_abcd]
    simp -implicitDefEqProofs [nP, num_repr, letter bo.c]
    refine ⟨log_small (by omega), log_small (by omega), log_small (by omega), ?_⟩
    have wl := boat_words_le hd bo
    have jl := joinL_le (c := 32) wl
    show optW (strsOf ([[97 + b.craft], TL.numL b.work, TL.numL b.laid, TL.numL b.tide].map tx)) _
    rw [show strsOf ([[97 + b.craft], TL.numL b.work, TL.numL b.laid, TL.numL b.tide].map tx) = some ([[97 + b.craft], TL.numL b.work, TL.numL b.laid, TL.numL b.tide].map SX.S) from by rw [← strsOf_map, List.map_map]; rfl, e_optS, SX.join_S]
    have sl := lens_sum wl
    rw [List.length_cons] at hl
    refine ⟨?_, ?_, by omega, ?_⟩
    · rw [List.length_map]
      simp only [List.length_cons, List.length_nil] at sl ⊢
      omega
    · rw [len_S]
      simp only [List.length_cons, List.length_nil, wBoat] at jl ⊢
      omega
    rw [add_S, List.append_assoc, List.singleton_append, ← boat_line]
    have := boats_lines hd bs (ls ++ [lineT (boatW b)]) (.val (nP b.craft)) (.val (nP b.work)) (.val (nP b.laid)) (.val (nP b.tide)) D (W := W) (fun x hx => hb x (by simp [hx])) (by simp; omega) (by simpa using q)
    rw [List.map_append] at this
    exact this
theorem sem_text_of : Sem (sp_text_of ad) 9 (t_text_of ad) := by
  rintro _ M Q E ⟨x, rfl, q⟩
  simp -implicitDefEqProofs [t_text_of]
  refine ⟨x, rfl, onYard_imp q clW.of fun y e ok q2 => ?_⟩
  subst e
  have l1 := ok.d2
  rw [l_daysB, l_handB, l_blank, l_nil, l_nl]
  simp -implicitDefEqProofs [num_repr]
  refine ⟨log_small (by omega), ?_, ?_⟩
  · have := num_le (n := y.days) (by omega)
    simp [wDays]; omega
  refine comp_mapF handP (fun h => tx (lineT (handW h))) y.hands (fun h hh Qt Qf k => ?_) ?_
  · simp -implicitDefEqProofs [turnW]
    refine ⟨rfl, rfl, ?_⟩
    have ho := ok.ho h hh
    have c4 := crafts_le ho
    have d4 := daysT_le ok.d2 ho
    have a4 := away_le ok.d2 ho
    simp -implicitDefEqProofs [wipe3]
    refine ⟨h.crafts, rfl, ho.bc, by unfold craftsT at c4; rw [List.length_map] at c4; omega, ?_⟩
    simp -implicitDefEqProofs
    refine ⟨by simp [wHand]; omega, by simp [wHand]; omega, ?_⟩
    refine ⟨h.away, rfl, fun d hd => by have := ho.ba d hd; omega, by omega, ?_⟩
    simp -implicitDefEqProofs
    refine ⟨by simp [wHand]; omega, ?_⟩
    rw [hand_line] at k
    simpa using k
  rw [List.nil_append]
  have nh := ok.nh
  have nb := ok.nb
  show 1 + _ ≤ 16777216 ∧ _
  refine ⟨by rw [List.length_map]; omega, ?_⟩
  rw [show (PV.str (SX.S (wDays ++ 32 :: TL.numL y.days)) :: y.hands.map fun h => tx (lineT (handW h))) = (lineT (dayW y.days) :: y.hands.map fun h => lineT (handW h)).map tx from by rw [List.map_cons, List.map_map, day_line]; rfl]
  refine boats_lines ok.d2 y.boats _ .un .un .un .un _ ok.bo (by simp; omega) fun s2 s3 s4 s5 => ?_
  have eR : (lineT (dayW y.days) :: y.hands.map fun h => lineT (handW h)) ++ (y.boats.map fun b => lineT (boatW b)) = (rowsOf y).map lineT := by
    unfold rowsOf
    rw [List.map_cons, List.map_append, List.map_map, List.map_map]; rfl
  rw [eR]
  have rl := rows_le ok
  have rn := rows_len ok
  simp -implicitDefEqProofs [-List.map_map]
  obtain ⟨ls, els⟩ : ∃ ls, (rowsOf y).map lineT = ls := ⟨_, rfl⟩
  have ln : ls.length ≤ 17 := by rw [← els, List.length_map]; exact rn
  rw [els] at rl ⊢
  refine comp_mapF tx (fun l => tx (l ++ [10])) ls (fun l hl Qt Qf k => ?_) ?_
  · simp [turnW]
    have := rl l hl
    exact ⟨by omega, k⟩
  rw [List.nil_append, e_lkL, e_seqL, show (ls.map fun l => tx (l ++ [10])) = (ls.map fun l => l ++ [10]).map tx from by rw [List.map_map]; rfl]
  refine join0 (k := fun z => clQ Q z M) (b := 61) (fun l hl => ?_) (by rw [List.length_map]; omega) ?_
  · obtain ⟨z, hz, rfl⟩ := List.mem_map.mp hl
    have := rl z hz
    simp; omega
  · rw [join_nil]
    have : (ls.map fun l => l ++ [10]).flatten = printY y := by
      unfold printY endL
      rw [els, List.flatMap_def]
    rw [this]
    exact clQ.of q2
end Y

namespace Y
open PySem PySem.Spec PyProof.Rows L2 T3
section
def sp_yard_of (ad : Ad) : Sp3 := fun xs M Q E => ∃ x, xs = [x] ∧ plain x = true ∧ match txtOf x with
  | some l => l.length ≤ 1000000 ∧ (match parseY l with
    | some y => Q (yv ad y) M
    | none => E ad.c_BadText x M)
  | none => E ad.c_BadText x M
end
end Y


namespace Y
open PySem PySem.Spec PyProof.Rows L2 T3
def b1_yard_of (ad : Ad) (W : W3) : TS3 :=
 (tSeq3 (tPar3 6 7 (tCons3 (tCall3 (sp_read_hand ad) W (tCons3 (tVar3 5) (tCons3 (tVar3 2) tNil3))) (tCons3 (tCall3 (sp_read_boat ad) W (tCons3 (tVar3 5) (tCons3 (tVar3 2) tNil3))) tNil3)))
 (tIfS3 (tAnd3 (tTest3 (tOp3 rNotN3 (tVarB3 6) (tC3 .non))) (tNot3 (tTru3 (tVarB3 4)))) (tMtO3 3 wApp (tCons3 (tVar3 6) tNil3)) (tIfS3 (tTest3 (tOp3 rNotN3 (tVarB3 7) (tC3 .non))) (tMtO3 4 wApp (tCons3 (tVar3 7) tNil3)) (tRaise3 ad.c_BadText W (tVar3 0)))))
def t_yard_of (ad : Ad) (W : W3) : TS3 :=
 (tSeq3 (tIfS3 (tOr3 (tNot3 (tTru3 (tIsi3 isStr (tVarB3 0)))) (tNot3 (tTru3 (tMt3 "str" wEnds (tVarB3 0) (tCons3 (tC3 (.str "\n")) tNil3))))) (tRaise3 ad.c_BadText W (tVar3 0)) tNext3)
 (tSeq3 (tSet3 1 (tComp3 (iLst3 (tMt3 "str" wSplit (tSlS3 (tVarB3 0) tNoP3 (tP3 (tUn3 rNeg3 (tC3 (.int 1))))) (tCons3 (tC3 (.str "\n")) tNil3))) (gName3 8) tYes3 (tMt3 "str" wSplit (tVarB3 8) (tCons3 (tC3 (.str " ")) tNil3)) [8]))
 (tSeq3 (tSet3 2 (tCall3 (sp_read_days_line ad) W (tCons3 (tOp3 rIx3 (tVarB3 1) (tC3 (.int 0))) tNil3)))
 (tSeq3 (tIfS3 (tTest3 (tOp3 rIsN3 (tVarB3 2) (tC3 .non))) (tRaise3 ad.c_BadText W (tVar3 0)) tNext3)
 (tSeq3 (tParOO 3 4)
 (tSeq3 (tFor3 (iSeq3 (tSl3 (tVarB3 1) (tP3 (tC3 (.int 1))) tNoP3)) (gName3 5) (b1_yard_of ad W))
 (tSeq3 (tIfS3 (tOr3 (tTest3 (tOp3 rGtX (tCB3 rLen3 (tCons3 (tVarB3 3) tNil3)) (tC3 (.int 8)))) (tTest3 (tOp3 rGtX (tCB3 rLen3 (tCons3 (tVarB3 4) tNil3)) (tC3 (.int 8))))) (tRaise3 ad.c_BadText W (tVar3 0)) tNext3)
 (tFrz3 3 (tFrz3 4 (tRet3 (tMake3 ad.c_Yard (sp_Yard___init__ ad) W (tCons3 (tVar3 2) (tCons3 (tVar3 3) (tCons3 (tVar3 4) tNil3))))))))))))))
end Y

namespace Y
open PySem PySem.Spec PyProof.Rows L2 T3
variable {ad : Ad}
theorem snoc_cases {α : Type} (l : List α) : l = [] ∨ ∃ m c, l = m ++ [c] := by
  by_cases h : l = []
  · exact .inl h
  · exact .inr ⟨_, _, (List.dropLast_concat_getLast h).symm⟩
theorem ends_10 {l : List Nat} : Txt.endswith (SX.S l) (SX.S [10]) = decide (l.getLast? = some 10) := by
  unfold Txt.endswith
  rw [StrLaws.subAt_eq]
  rcases snoc_cases l with rfl | ⟨m, c, rfl⟩
  · rfl
  · simp
    by_cases e : c = 10 <;> simp [e]
theorem cut_last {l : List Nat} : cutS (SX.S l) none (some (-1)) = SX.S l.dropLast := by
  unfold cutS
  rcases snoc_cases l with rfl | ⟨m, c, rfl⟩
  · rfl
  · rw [HT.sIx, HT.sIx]
    simp
    rw [show (-1 + ((m.length : Int) + 1)).toNat = m.length from by omega, List.take_left]
@[simp] theorem len_tx {l : List Nat} {k : Int → Prop} : lenW (tx l) k = k (l.length : Int) := by
  show k _ = k _
  rw [len_S]
theorem lk_list {M : Mem} {xs : List PV} : look M (.lst xs) = .lst xs := rfl
theorem sl_lst {xs : List PV} {lo hi : Option Int} {k : PV → Prop} : slW (.lst xs) lo hi k = k (.lst (cutP xs lo hi)) := rfl
theorem ix_first {x : PV} {xs : List PV} {k : PV → Prop} : rIx3 (.lst (x :: xs)) (.int 0) k = k x := by
  show optW (atI _ _) k = _
  rw [T3.atI_nat (by decide)]; rfl
@[simp] theorem s_days_line {ws : List (List Nat)} {M : Mem} {Q : PV → Mem → Prop} {E : W3} (hs : shortW ws) (q : Q (optP nP (readDayL ws)) M) : sp_read_days_line ad [wordsP ws] M Q E := ⟨_, rfl, hs, q⟩
theorem dayL_pos {ws : List (List Nat)} {d : Nat} (h : readDayL ws = some d) : 1 ≤ d ∧ d ≤ 14 := by
  unfold readDayL at h
  split at h
  · split at h
    · split at h
      · rename_i n e
        split at h
        · cases h
          have := (count_back e).2
          omega
        · cases h
      · cases h
    · cases h
  · cases h
theorem asB_no {a b : Prop} (h : b) : asB (.bl false) (fun c => @ite Prop (c = true) (instDecidableEqBool c true) a b) := by
  show @ite Prop (false = true) _ a b
  rw [if_neg Bool.false_ne_true]; exact h
theorem asB_yes {a b : Prop} (h : a) : asB (.bl true) (fun c => @ite Prop (c = true) (instDecidableEqBool c true) a b) := by
  show @ite Prop (true = true) _ a b
  rw [if_pos rfl]; exact h
theorem cut_words {c : Nat} {l w : List Nat} {b : Nat} (hl : l.length ≤ b) (h : w ∈ cut1 c l) : w.length ≤ b := Nat.le_trans (cut1_part l w h) hl
theorem short_cut {l : List Nat} (hl : l.length ≤ 999999) : shortW (cut1 32 l) := ⟨by have := cut1_len (c := 32) l; omega, fun w hw => cut_words (by omega) hw⟩
theorem isN_nat {d : Nat} {M : Mem} {k : PV → Prop} : rIsN3 (look M (optP nP (some d))) .non k = k (.bl false) := rfl
theorem isN_no {α : Type} {e : α → PV} {M : Mem} {k : PV → Prop} : rIsN3 (look M (optP e none)) .non k = k (.bl true) := rfl
@[simp] theorem notN_hand {h : Hd} {M : Mem} {k : PV → Prop} : rNotN3 (look M (optP handP (some h))) .non k = k (.bl true) := rfl
@[simp] theorem notN_boat {h : Bt} {M : Mem} {k : PV → Prop} : rNotN3 (look M (optP boatP (some h))) .non k = k (.bl true) := rfl
@[simp] theorem notN_none {α : Type} {e : α → PV} {M : Mem} {k : PV → Prop} : rNotN3 (look M (optP e none)) .non k = k (.bl false) := rfl
theorem rows_loop {x r1 : PV} {M : Mem} {E : W3} {d : Nat} (hd : 1 ≤ d) : ∀ (rs : List (List (List Nat))) (hs : List Hd) (bs : List Bt) (s5 s6 s7 : Slot) (D : D3), (∀ ws ∈ rs, shortW ws) → hs.length + bs.length + rs.length ≤ 2000000 →
    (match rowsY d rs hs bs with
      | some (h, b) => ∀ s5 s6 s7, D.nx [.val x, .val r1, .val (nP d), .own (.lst (h.map handP)), .own (.lst (b.map boatP)), s5, s6, s7, .un] M
      | none => clW E ad.c_BadText x M) →
    forW (gName3 5) (b1_yard_of ad (clW E)) D (rs.map wordsP) [.val x, .val r1, .val (nP d), .own (.lst (hs.map handP)), .own (.lst (bs.map boatP)), s5, s6, s7, .un] M
  | [], hs, bs, s5, s6, s7, D, _, _, q => q s5 s6 s7
  | ws :: rs, hs, bs, s5, s6, s7, D, hw, hl, q => by
    have sh := hw ws (by simp)
    have ih := fun (hs : List Hd) (bs : List Bt) (h2 : hs.length + bs.length + rs.length ≤ 2000000) s5 s6 s7 => rows_loop (x := x) (r1 := r1) (M := M) (E := E) hd rs hs bs s5 s6 s7 D (fun w hw2 => hw w (by simp [hw2])) h2
    rw [List.length_cons] at hl
    rw [List.map_cons, e_forC]
    show b1_yard_of ad (clW E) _ [.val x, .val r1, .val (nP d), .own (.lst (hs.map handP)), .own (.lst (bs.map boatP)), .val (wordsP ws), s6, s7, .un] M
    simp -implicitDefEqProofs [b1_yard_of]
    refine ⟨ws, d, rfl, hd, sh, ws, d, rfl, sh, ?_⟩
    rw [rows_cons] at q
    have eh : ∀ (hs : List Hd) (h : Hd), hs.map handP ++ [handP h] = (hs ++ [h]).map handP := fun hs h => by rw [List.map_append]; rfl
    have eb : ∀ (bs : List Bt) (b : Bt), bs.map boatP ++ [boatP b] = (bs ++ [b]).map boatP := fun hs h => by rw [List.map_append]; rfl
    cases e1 : readHand ws d with
    | none =>
      rw [e1] at q
      rw [notN_none]
      refine asB_no ?_
      cases e2 : readBoat ws d with
      | none =>
        rw [e2] at q
        rw [notN_none]
        refine asB_no ?_
        exact q
      | some b =>
        rw [e2] at q
        rw [notN_boat]
        refine asB_yes ?_
        refine ⟨by omega, ?_⟩
        rw [show optP boatP (some b) = boatP b from rfl, eb]
        exact ih hs (bs ++ [b]) (by simp; omega) _ _ _ q
    | some h =>
      rw [e1] at q
      rw [notN_hand]
      refine asB_yes ?_
      by_cases c : bs = []
      · refine if_y c ?_
        simp only [if_pos c] at q
        refine ⟨by omega, ?_⟩
        rw [show optP handP (some h) = handP h from rfl, eh]
        exact ih (hs ++ [h]) bs (by simp; omega) _ _ _ q
      · refine if_n c ?_
        simp only [if_neg c] at q
        cases e2 : readBoat ws d with
        | none =>
          rw [e2] at q
          rw [notN_none]
          refine asB_no ?_
          exact q
        | some b =>
          rw [e2] at q
          rw [notN_boat]
          refine asB_yes ?_
          refine ⟨by omega, ?_⟩
          rw [show optP boatP (some b) = boatP b from rfl, eb]
          exact ih hs (bs ++ [b]) (by simp; omega) _ _ _ q
theorem sem_yard_of : Sem (sp_yard_of ad) 9 (t_yard_of ad) := by
  rintro _ M Q E ⟨x, rfl, hp, q⟩
  simp -implicitDefEqProofs [t_yard_of, l_nl, l_blank]
  cases x <;> first | (cases hp; done) | (exact clW.of q) | skip
  rename_i s
  obtain ⟨l, rfl⟩ : ∃ l, s = SX.S l := ⟨s.cps.toList, rfl⟩
  obtain ⟨hl, q⟩ : l.length ≤ 1000000 ∧ (match parseY l with
    | some y => Q (yv ad y) M
    | none => E ad.c_BadText (tx l) M) := q
  show tyP "str" (tx l) ∧ _
  simp -implicitDefEqProofs [ends_10, cut_last]
  by_cases h0 : l.getLast? = some 10
  · refine if_y h0 ?_
    have ll : l.dropLast.length ≤ 999999 := by rw [List.length_dropLast]; omega
    refine ⟨⟨by omega, split_fine (by omega) (by omega)⟩, ?_⟩
    rw [split_cut (by omega), List.map_map]
    refine comp_mapF tx (fun ln => wordsP (cut1 32 ln)) (cut1 10 l.dropLast) (fun ln hln Qt Qf k => ?_) ?_
    · have ln9 := cut_words ll hln
      simp [turnW]
      refine ⟨⟨by omega, split_fine (by omega) (by omega)⟩, ?_⟩
      rw [split_cut (by omega), List.map_map]
      exact k
    rw [List.nil_append, show ((cut1 10 l.dropLast).map fun ln => wordsP (cut1 32 ln)) = ((cut1 10 l.dropLast).map (cut1 32)).map wordsP from by rw [List.map_map]; rfl]
    have eq : parseY l = parseL ((cut1 10 l.dropLast).map (cut1 32)) := by unfold parseY; rw [if_pos h0]
    rw [eq] at q
    have sh : ∀ ws ∈ (cut1 10 l.dropLast).map (cut1 32), shortW ws := fun ws hws => by
      obtain ⟨ln, hln, rfl⟩ := List.mem_map.mp hws
      exact short_cut (cut_words ll hln)
    have rl : ((cut1 10 l.dropLast).map (cut1 32)).length ≤ 1000000 := by
      have := cut1_len (c := 10) l.dropLast
      rw [List.length_map]; omega
    have rn : (cut1 10 l.dropLast).map (cut1 32) ≠ [] := fun z => cut1_ne 10 l.dropLast (List.map_eq_nil_iff.mp z)
    generalize (cut1 10 l.dropLast).map (cut1 32) = rows at eq q sh rl rn ⊢
    obtain ⟨first, rest, rfl⟩ := List.exists_cons_of_ne_nil rn
    rw [List.map_cons, lk_list, ix_first]
    refine s_days_line (sh first (by simp)) ?_
    unfold parseL at q
    simp only at q
    cases e1 : readDayL first with
    | none =>
      rw [e1] at q
      rw [isN_no]
      exact asB_yes (clW.of q)
    | some d =>
      rw [e1] at q
      simp only at q
      have dp := dayL_pos e1
      rw [isN_nat]
      refine asB_no ?_
      rw [lk_list, sl_lst, cut_from (by decide), e_seqL]
      rw [List.length_cons] at rl
      refine rows_loop (hs := []) (bs := []) dp.1 rest _ _ _ _ (fun ws hws => sh ws (by simp [hws])) (by simp; omega) ?_
      cases e2 : rowsY d rest [] [] with
      | none =>
        rw [e2] at q
        exact clW.of q
      | some hb =>
        obtain ⟨hs, bs⟩ := hb
        rw [e2] at q
        simp only at q ⊢
        intro s5 s6 s7
        simp -implicitDefEqProofs
        have bad : ¬ (hs.length ≤ 8 ∧ bs.length ≤ 8) → clW E ad.c_BadText (PV.str (SX.S l)) M := fun z => by
          rw [if_neg z] at q; exact clW.of q
        by_cases z1 : hs.length ≤ 8
        · refine if_n (by omega) ?_
          by_cases z2 : bs.length ≤ 8
          · refine if_n (by omega) ?_
            rw [if_pos ⟨z1, z2⟩] at q
            simp only at q
            have ep : parseY l = some ⟨d, hs, bs⟩ := by
              rw [eq]
              unfold parseL
              simp only
              rw [e1]
              simp only
              rw [e2]
              simp only
              rw [if_pos ⟨z1, z2⟩]
            have ok := (print_parse ep).2
            simp -implicitDefEqProofs [tFrz3]
            exact yard_make (y := ⟨d, hs, bs⟩) ok rfl rfl (clQ.of q)
          · exact if_y (by omega) (bad fun z => z2 z.2)
        · exact if_y (by omega) (bad fun z => z1 z.1)
  · refine if_n h0 (clW.of ?_)
    unfold parseY at q
    rw [if_neg h0] at q
    exact q
end Y


namespace K11
open PySem PySem.Spec PyProof.Rows L2 T3 Y
def top (i : Nat) : Stmt := PySem.Challenge.pw_slipways_k11_whole_texts.main.body.getD i (.Pass ⟨0, 0, 0, 0⟩)
abbrev s_is_integer : Stmt := top 1
abbrev s_is_within : Stmt := top 2
abbrev s_is_row : Stmt := top 3
abbrev s_is_tuple_of : Stmt := top 4
abbrev s_is_set : Stmt := top 5
abbrev s_as_count : Stmt := top 6
abbrev s_check_hands : Stmt := top 19
abbrev s_check_boats : Stmt := top 20
abbrev s_Yard___init__ : Stmt := inClass (top 21) 0
abbrev s_check_yard : Stmt := top 22
abbrev s_crafts_text : Stmt := top 25
abbrev s_days_text : Stmt := top 26
abbrev s_text_of : Stmt := top 27
abbrev s_read_crafts : Stmt := top 28
abbrev s_read_days : Stmt := top 29
abbrev s_read_hand : Stmt := top 30
abbrev s_read_boat : Stmt := top 31
abbrev s_read_days_line : Stmt := top 32
abbrev s_yard_of : Stmt := top 33
abbrev s__law_taken : Stmt := top 35
abbrev s__law_pick : Stmt := top 36
abbrev s__law_alike : Stmt := top 37
abbrev s__law_unlike : Stmt := top 38
abbrev s__law_yard_parts : Stmt := top 39
abbrev s__law_bad_yard : Stmt := top 40
abbrev s__law_text : Stmt := top 41
abbrev s__law_refused : Stmt := top 42
abbrev s_law : Stmt := top 43
def words (ad : Ad) : List (Addr × Str) := [(ad.c_BadText, "text"), (ad.c_BadYard, "yard")]
/-- what is known of the module -/
structure GL (Pg : Program) (w : World) (K : PySem.W.Frag) (mg : Str → Option Value) (base : Heap) (ad : Ad) : Prop where
  n_all : mg "all" = none
  n_bool : mg "bool" = none
  n_dict : mg "dict" = none
  n_enumerate : mg "enumerate" = none
  n_int : mg "int" = none
  n_isinstance : mg "isinstance" = none
  n_len : mg "len" = none
  n_list : mg "list" = none
  n_min : mg "min" = none
  n_range : mg "range" = none
  n_repr : mg "repr" = none
  n_sorted : mg "sorted" = none
  n_str : mg "str" = none
  n_tuple : mg "tuple" = none
  n_zip : mg "zip" = none
  c_MOST_DAYS : ∃ t, mg "MOST_DAYS" = some (.int 14 t)
  c_MOST_HANDS : ∃ t, mg "MOST_HANDS" = some (.int 8 t)
  c_MOST_BOATS : ∃ t, mg "MOST_BOATS" = some (.int 8 t)
  c_CRAFTS : ∃ t, mg "CRAFTS" = some (.int 4 t)
  c_LETTERS : ∃ t, mg "LETTERS" = some (.str "abcd" t)
  e_BadDays : Err3 Pg w K mg base "BadDays" ad.c_BadDays
  e_BadHands : Err3 Pg w K mg base "BadHands" ad.c_BadHands
  e_BadBoats : Err3 Pg w K mg base "BadBoats" ad.c_BadBoats
  e_BadYard : Err3 Pg w K mg base "BadYard" ad.c_BadYard
  e_BadText : Err3 Pg w K mg base "BadText" ad.c_BadText
  cl_Yard : Cls K ad.c_Yard
  at_Yard_days : NoAttr K ad.c_Yard "days"
  at_Yard_hands : NoAttr K ad.c_Yard "hands"
  at_Yard_boats : NoAttr K ad.c_Yard "boats"
  isC_Yard : IsC K ad.c_Yard
  mg_Yard : mg "Yard" = some (.ref ad.c_Yard)
end K11

namespace K11
open PySem PySem.Spec PyProof.Rows L2 T3 Y
section
def sp__law_text (ad : Ad) : Sp3 := fun xs M Q _ => ∃ y : YD, xs = [nP y.days, .lst (y.hands.map handP), .lst (y.boats.map boatP)] ∧ YOk y ∧ Q (tx (printY y)) M
end
end K11

namespace K11
open PySem PySem.Spec PyProof.Rows L2 T3 Y
def b1__law_text (ad : Ad) (W : W3) : TS3 :=
 (tSet3 3 (tOp3 rAdd3 (tOp3 rAdd3 (tOp3 rAdd3 (tOp3 rAdd3 (tOp3 rAdd3 (tVarB3 3) (tC3 (.str "hand "))) (tMt3 "str" wJoin (tC3 (.str "")) (tCons3 (tComp3 (iSeq3 (tVar3 4)) (gName3 6) tYes3 (tOp3 rIx3 (tC3 (.str "abcd")) (tVarB3 6)) [6]) tNil3))) (tC3 (.str " "))) (tIf3 (tTest3 (tOp3 rNe3 (tVarB3 5) (tTup3 tNil3))) (tMt3 "str" wJoin (tC3 (.str ",")) (tCons3 (tComp3 (iSeq3 (tVar3 5)) (gName3 10) tYes3 (tCB3 rStr3 (tCons3 (tVarB3 10) tNil3)) [10]) tNil3)) (tC3 (.str "-")))) (tC3 (.str "\n"))))
def b2__law_text (ad : Ad) (W : W3) : TS3 :=
 (tSet3 3 (tOp3 rAdd3 (tOp3 rAdd3 (tOp3 rAdd3 (tOp3 rAdd3 (tOp3 rAdd3 (tOp3 rAdd3 (tOp3 rAdd3 (tOp3 rAdd3 (tOp3 rAdd3 (tVarB3 3) (tC3 (.str "boat "))) (tOp3 rIx3 (tC3 (.str "abcd")) (tVarB3 6))) (tC3 (.str " "))) (tCB3 rStr3 (tCons3 (tVarB3 7) tNil3))) (tC3 (.str " "))) (tCB3 rStr3 (tCons3 (tVarB3 8) tNil3))) (tC3 (.str " "))) (tCB3 rStr3 (tCons3 (tVarB3 9) tNil3))) (tC3 (.str "\n"))))
def t__law_text (ad : Ad) (W : W3) : TS3 :=
 (tSeq3 (tSet3 3 (tOp3 rAdd3 (tOp3 rAdd3 (tC3 (.str "days ")) (tCB3 rStr3 (tCons3 (tVarB3 0) tNil3))) (tC3 (.str "\n"))))
 (tSeq3 (tFor3 (iSeq3 (tVar3 1)) (gTup3 2 (gCons3 (gName3 4) (gCons3 (gName3 5) gNil3))) (b1__law_text ad W))
 (tSeq3 (tFor3 (iSeq3 (tVar3 2)) (gTup3 4 (gCons3 (gName3 6) (gCons3 (gName3 7) (gCons3 (gName3 8) (gCons3 (gName3 9) gNil3))))) (b2__law_text ad W))
 (tRet3 (tVarB3 3)))))
def r1_law (ad : Ad) : TS3 :=
 (tSeq3 (tSet3 17 (tRef3 (words ad) (fun W2 => (tCall3 (sp_yard_of ad) W2 (tCons3 (tVar3 16) tNil3)))))
 (tIfS3 (tTest3 (tOp3 rEq3 (tOp3 rIx3 (tVarB3 17) (tC3 (.int 0))) (tC3 (.str "text")))) (tIfS3 (tOr3 (tTest3 (tOp3 rNe3 (tOp3 rIx3 (tVarB3 17) (tC3 (.int 1))) (tVarB3 16))) (tTest3 (tOp3 rEq3 (tVarB3 16) (tVarB3 6)))) (tRet3 (tC3 (.bl false))) tNext3) (tIfS3 (tOr3 (tTest3 (tOp3 rNe3 (tOp3 rIx3 (tVarB3 17) (tC3 (.int 0))) (tC3 (.str "")))) (tTest3 (tOp3 rNe3 (tCall3 (sp_text_of ad) W0 (tCons3 (tCall3 (sp_yard_of ad) W0 (tCons3 (tVar3 16) tNil3)) tNil3)) (tVarB3 16)))) (tRet3 (tC3 (.bl false))) tNext3)))
def r2_law (ad : Ad) : TS3 :=
 (tSeq3 (tSet3 16 (tCall3 (sp__law_pick ad) W0 (tCons3 (tVar3 1) (tCons3 (tLst3 (tCons3 (tOp3 rAdd3 (tOp3 rAdd3 (tSlS3 (tVarB3 6) tNoP3 (tP3 (tVar3 14))) (tVarB3 15)) (tSlS3 (tVarB3 6) (tP3 (tOp3 rAdd3 (tVarB3 14) (tC3 (.int 1)))) tNoP3)) (tCons3 (tOp3 rAdd3 (tSlS3 (tVarB3 6) tNoP3 (tP3 (tVar3 14))) (tSlS3 (tVarB3 6) (tP3 (tOp3 rAdd3 (tVarB3 14) (tC3 (.int 1)))) tNoP3)) (tCons3 (tOp3 rAdd3 (tOp3 rAdd3 (tSlS3 (tVarB3 6) tNoP3 (tP3 (tVar3 14))) (tVarB3 15)) (tSlS3 (tVarB3 6) (tP3 (tVar3 14)) tNoP3)) tNil3)))) tNil3))))
 (r1_law ad))
def b1_law (ad : Ad) : TS3 :=
 (tSeq3 (tPar3 14 15 (tCons3 (tCall3 (sp__law_taken ad) W0 (tCons3 (tVar3 1) (tCons3 (tCB3 rLen3 (tCons3 (tVarB3 6) tNil3)) tNil3))) (tCons3 (tCall3 (sp__law_pick ad) W0 (tCons3 (tVar3 1) (tCons3 (tOp3 rAdd3 (tCB3 rListS (tCons3 (tC3 (.str "0123456789abcde -,\n")) tNil3)) (tLst3 (tCons3 (tC3 (.str "hand a -\n")) (tCons3 (tC3 (.str "boat a 0 0 0\n")) tNil3)))) tNil3))) tNil3)))
 (r2_law ad))
def b2_law (ad : Ad) : TS3 :=
 (tIfS3 (tTest3 (tOp3 rNe3 (tCB3 rRepr3 (tCons3 (tRef3 (words ad) (fun W2 => (tCall3 (sp_yard_of ad) W2 (tCons3 (tVar3 10) tNil3)))) tNil3)) (tCB3 rRepr3 (tCons3 (tTup3 (tCons3 (tC3 (.str "text")) (tCons3 (tVar3 10) tNil3))) tNil3)))) (tRet3 (tC3 (.bl false))) tNext3)
def r3_law (ad : Ad) : TS3 :=
 (tSeq3 (tSet3 13 (tCall3 (sp__law_bad_yard ad) W0 (tCons3 (tVar3 1) tNil3)))
 (tRet3 (tOp3 rEq3 (tCB3 rRepr3 (tCons3 (tRef3 (words ad) (fun W2 => (tCall3 (sp_text_of ad) W2 (tCons3 (tVar3 13) tNil3)))) tNil3)) (tCB3 rRepr3 (tCons3 (tTup3 (tCons3 (tC3 (.str "yard")) (tCons3 (tVar3 13) tNil3))) tNil3)))))
def r4_law (ad : Ad) : TS3 :=
 (tSeq3 (tIfS3 (tTest3 (tOp3 rNe3 (tRef3 (words ad) (fun W2 => (tCall3 (sp_yard_of ad) W2 (tCons3 (tVar3 12) tNil3)))) (tTup3 (tCons3 (tC3 (.str "text")) (tCons3 (tVar3 12) tNil3))))) (tRet3 (tC3 (.bl false))) tNext3)
 (r3_law ad))
def r5_law (ad : Ad) : TS3 :=
 (tSeq3 (tSet3 12 (tOp3 rAdd3 (tOp3 rIx3 (tVarB3 9) (tC3 (.int 0))) (tC3 (.str "\nboat a 0 0 0\nhand a -\n"))))
 (r4_law ad))
def r6_law (ad : Ad) : TS3 :=
 (tSeq3 (tIfS3 (tTest3 (tOp3 rNe3 (tRef3 (words ad) (fun W2 => (tCall3 (sp_yard_of ad) W2 (tCons3 (tVar3 11) tNil3)))) (tTup3 (tCons3 (tC3 (.str "text")) (tCons3 (tVar3 11) tNil3))))) (tRet3 (tC3 (.bl false))) tNext3)
 (r5_law ad))
def r7_law (ad : Ad) : TS3 :=
 (tSeq3 (tSet3 11 (tOp3 rAdd3 (tOp3 rAdd3 (tOp3 rIx3 (tVarB3 9) (tC3 (.int 0))) (tC3 (.str "\n"))) (tOp3 rSMul3 (tCall3 (sp__law_pick ad) W0 (tCons3 (tVar3 1) (tCons3 (tLst3 (tCons3 (tC3 (.str "hand a -\n")) (tCons3 (tC3 (.str "boat a 0 0 0\n")) tNil3))) tNil3))) (tC3 (.int 9)))))
 (r6_law ad))
def r8_law (ad : Ad) : TS3 :=
 (tSeq3 (tFor3 (iLst3 (tLst3 (tCons3 (tC3 .non) (tCons3 (tC3 (.str "")) (tCons3 (tC3 (.str "\n")) (tCons3 (tC3 (.int 5)) (tCons3 (tLst3 (tCons3 (tC3 (.str "days 1\n")) tNil3)) (tCons3 (tSlS3 (tVarB3 6) tNoP3 (tP3 (tUn3 rNeg3 (tC3 (.int 1))))) (tCons3 (tOp3 rAdd3 (tVarB3 6) (tC3 (.str "\n"))) (tCons3 (tC3 (.str "days 0\n")) (tCons3 (tC3 (.str "days 15\n")) (tCons3 (tC3 (.str "days 01\n")) (tCons3 (tOp3 rAdd3 (tC3 (.str "hand a -\n")) (tVarB3 6)) (tCons3 (tC3 (.str "days 1\nboat a 0 0 2\n")) (tCons3 (tC3 (.str "days 2\nhand ba -\n")) tNil3))))))))))))))) (gName3 10) (b2_law ad))
 (r7_law ad))
def r9_law (ad : Ad) : TS3 :=
 (tSeq3 (tSet3 9 (tSl3 (tMt3 "str" wSplit (tVarB3 6) (tCons3 (tC3 (.str "\n")) tNil3)) tNoP3 (tP3 (tUn3 rNeg3 (tC3 (.int 1))))))
 (r8_law ad))
def r10_law (ad : Ad) : TS3 :=
 (tSeq3 (tFor3 (iRange1 (tCons3 (tC3 (.int 6)) tNil3)) (gName3 8) (b1_law ad))
 (r9_law ad))
def r11_law (ad : Ad) : TS3 :=
 (tSeq3 (tIfS3 (tTest3 (tOp3 rNe3 (tTup3 (tCons3 (tFld3 ad.c_Yard "days" (tVar3 7)) (tCons3 (tFld3 ad.c_Yard "hands" (tVar3 7)) (tCons3 (tFld3 ad.c_Yard "boats" (tVar3 7)) tNil3)))) (tTup3 (tCons3 (tFld3 ad.c_Yard "days" (tVar3 5)) (tCons3 (tFld3 ad.c_Yard "hands" (tVar3 5)) (tCons3 (tFld3 ad.c_Yard "boats" (tVar3 5)) tNil3)))))) (tRet3 (tC3 (.bl false))) tNext3)
 (r10_law ad))
def r12_law (ad : Ad) : TS3 :=
 (tSeq3 (tSet3 7 (tCall3 (sp_yard_of ad) W0 (tCons3 (tVar3 6) tNil3)))
 (r11_law ad))
def r13_law (ad : Ad) : TS3 :=
 (tSeq3 (tIfS3 (tNot3 (tTru3 (tCall3 (sp__law_alike4 ad) W0 (tCons3 (tCall3 (sp_text_of ad) W0 (tCons3 (tVar3 5) tNil3)) (tCons3 (tVar3 6) tNil3))))) (tRet3 (tC3 (.bl false))) tNext3)
 (r12_law ad))
def r14_law (ad : Ad) : TS3 :=
 (tSeq3 (tPar3 5 6 (tCons3 (tMake3 ad.c_Yard (sp_Yard___init__ ad) W0 (tCons3 (tVar3 2) (tCons3 (tVar3 3) (tCons3 (tVar3 4) tNil3)))) (tCons3 (tCall3 (sp__law_text ad) W0 (tCons3 (tVar3 2) (tCons3 (tVar3 3) (tCons3 (tVar3 4) tNil3)))) tNil3)))
 (r13_law ad))
def r15_law (ad : Ad) : TS3 :=
 (tSeq3 (tAsg3 (tCall3 (sp__law_yard_parts ad) W0 (tCons3 (tVar3 1) (tCons3 (tC3 (.int 14)) tNil3))) (gTup3 3 (gCons3 (gName3 2) (gCons3 (gName3 3) (gCons3 (gName3 4) gNil3)))))
 (r14_law ad))
def t_law (ad : Ad) : TS3 :=
 (tSeq3 (tSetM3 1 (tLst3 (tCons3 (tVar3 0) (tCons3 (tC3 (.int 0)) (tCons3 (tC3 (.int 111)) (tCons3 (tC3 (.int 0)) tNil3))))))
 (r15_law ad))
end K11

namespace K11
open PySem PySem.Spec PyProof.Rows L2 T3 Y
abbrev N_is_integer : List Str := ["thing"]
theorem sc_is_integer : FnScope N_is_integer ["thing"] (defScope s_is_integer) := ⟨rfl, rfl, rfl, by decide +kernel, rfl, by decide +kernel, by decide +kernel⟩
theorem d_is_integer {Pg : Program} {w : World} {K : PySem.W.Frag} {mg : Str → Option Value} {base : Heap} {ad : Ad} (g : GL Pg w K mg base ad) {f : Addr} {cdv : Value} {A : Around} {outer : List Env} {s : Shared} {H : Hp} {E : XK} {P : BP} {W : W3}
  (hr : Room 0 (cxOf (L2.CX Pg w) Pg w K mg base N_is_integer "is_integer" (defScope s_is_integer) f cdv A outer s H E).A) (tk : TK (cxOf (L2.CX Pg w) Pg w K mg base N_is_integer "is_integer" (defScope s_is_integer) f cdv A outer s H E) P W) : PSs3 (cxOf (L2.CX Pg w) Pg w K mg base N_is_integer "is_integer" (defScope s_is_integer) f cdv A outer s H E) P (defBody s_is_integer) (t_is_integer ad W) :=
 (pss3_one (ps3_ret (PE3.b (pe3_and (pe3_isi isTy_int (pb3_var 0) g.n_isinstance g.n_int rfl) (pe3_one (pe3_not (pe3_isi isTy_bool (pb3_var 0) g.n_isinstance g.n_bool rfl)))))))
abbrev N_is_within : List Str := ["thing", "least", "most"]
theorem sc_is_within : FnScope N_is_within ["thing", "least", "most"] (defScope s_is_within) := ⟨rfl, rfl, rfl, by decide +kernel, rfl, by decide +kernel, by decide +kernel⟩
theorem d_is_within {Pg : Program} {w : World} {K : PySem.W.Frag} {mg : Str → Option Value} {base : Heap} {ad : Ad} (g : GL Pg w K mg base ad) (D_is_integer : Def3 Pg w K mg base 1 "is_integer" ["thing"] (sp_is_integer ad)) {f : Addr} {cdv : Value} {A : Around} {outer : List Env} {s : Shared} {H : Hp} {E : XK} {P : BP} {W : W3}
  (hr : Room 1 (cxOf (L2.CX Pg w) Pg w K mg base N_is_within "is_within" (defScope s_is_within) f cdv A outer s H E).A) (tk : TK (cxOf (L2.CX Pg w) Pg w K mg base N_is_within "is_within" (defScope s_is_within) f cdv A outer s H E) P W) : PSs3 (cxOf (L2.CX Pg w) Pg w K mg base N_is_within "is_within" (defScope s_is_within) f cdv A outer s H E) P (defBody s_is_within) (t_is_within ad W) :=
 (pss3_one (ps3_ret (PE3.b (pe3_and (pe3_callD D_is_integer (hr.mono (by decide)) tk (pa3_cons (pe3_var 0) pa3_nil)) (pe3_one (pe3_chain (op3_leX (hu64 hr)) (op3_leX (hu64 hr)) (pb3_var 1) (pb3_var 0) (pb3_var 2)))))))
abbrev N_is_row : List Str := ["thing"]
theorem sc_is_row : FnScope N_is_row ["thing"] (defScope s_is_row) := ⟨rfl, rfl, rfl, by decide +kernel, rfl, by decide +kernel, by decide +kernel⟩
theorem d_is_row {Pg : Program} {w : World} {K : PySem.W.Frag} {mg : Str → Option Value} {base : Heap} {ad : Ad} (g : GL Pg w K mg base ad) {f : Addr} {cdv : Value} {A : Around} {outer : List Env} {s : Shared} {H : Hp} {E : XK} {P : BP} {W : W3}
  (hr : Room 0 (cxOf (L2.CX Pg w) Pg w K mg base N_is_row "is_row" (defScope s_is_row) f cdv A outer s H E).A) (tk : TK (cxOf (L2.CX Pg w) Pg w K mg base N_is_row "is_row" (defScope s_is_row) f cdv A outer s H E) P W) : PSs3 (cxOf (L2.CX Pg w) Pg w K mg base N_is_row "is_row" (defScope s_is_row) f cdv A outer s H E) P (defBody s_is_row) (t_is_row ad W) :=
 (pss3_one (ps3_ret (PE3.b (pe3_isi2 isTy_lst isTy_tup (pb3_var 0) g.n_isinstance g.n_list rfl g.n_tuple rfl))))
abbrev N_is_tuple_of : List Str := ["thing", "many"]
theorem sc_is_tuple_of : FnScope N_is_tuple_of ["thing", "many"] (defScope s_is_tuple_of) := ⟨rfl, rfl, rfl, by decide +kernel, rfl, by decide +kernel, by decide +kernel⟩
theorem d_is_tuple_of {Pg : Program} {w : World} {K : PySem.W.Frag} {mg : Str → Option Value} {base : Heap} {ad : Ad} (g : GL Pg w K mg base ad) {f : Addr} {cdv : Value} {A : Around} {outer : List Env} {s : Shared} {H : Hp} {E : XK} {P : BP} {W : W3}
  (hr : Room 0 (cxOf (L2.CX Pg w) Pg w K mg base N_is_tuple_of "is_tuple_of" (defScope s_is_tuple_of) f cdv A outer s H E).A) (tk : TK (cxOf (L2.CX Pg w) Pg w K mg base N_is_tuple_of "is_tuple_of" (defScope s_is_tuple_of) f cdv A outer s H E) P W) : PSs3 (cxOf (L2.CX Pg w) Pg w K mg base N_is_tuple_of "is_tuple_of" (defScope s_is_tuple_of) f cdv A outer s H E) P (defBody s_is_tuple_of) (t_is_tuple_of ad W) :=
 (pss3_one (ps3_ret (PE3.b (pe3_and (pe3_isi isTy_tup (pb3_var 0) g.n_isinstance g.n_tuple rfl) (pe3_one (pe3_cmp (op3_eq (hu64 hr)) (PE3.b (pe3_callB call3_len (by rfl) g.n_len rfl (pab3_cons (pb3_var 0) pab3_nil))) (pb3_var 1) (nomark _)))))))
abbrev N_is_set : List Str := ["thing", "most", "one", "other"]
theorem sc_is_set : FnScope N_is_set ["thing", "most"] (defScope s_is_set) := ⟨rfl, rfl, rfl, by decide +kernel, rfl, by decide +kernel, by decide +kernel⟩
theorem d_is_set {Pg : Program} {w : World} {K : PySem.W.Frag} {mg : Str → Option Value} {base : Heap} {ad : Ad} (g : GL Pg w K mg base ad) (D_is_within : Def3 Pg w K mg base 2 "is_within" ["thing", "least", "most"] (sp_is_within ad)) {f : Addr} {cdv : Value} {A : Around} {outer : List Env} {s : Shared} {H : Hp} {E : XK} {P : BP} {W : W3}
  (hr : Room 2 (cxOf (L2.CX Pg w) Pg w K mg base N_is_set "is_set" (defScope s_is_set) f cdv A outer s H E).A) (tk : TK (cxOf (L2.CX Pg w) Pg w K mg base N_is_set "is_set" (defScope s_is_set) f cdv A outer s H E) P W) : PSs3 (cxOf (L2.CX Pg w) Pg w K mg base N_is_set "is_set" (defScope s_is_set) f cdv A outer s H E) P (defBody s_is_set) (t_is_set ad W) :=
 (pss3_cons (ps3_if (PW3.pt (pw3_or (pt3_not (pt3_truth (PE3.b (pe3_isi isTy_tup (pb3_var 0) g.n_isinstance g.n_tuple rfl)))) (pw3_or1 (pt3_not (pt3_truth (PE3.b (pe3_callB (call3_all rfl) (by rfl) g.n_all rfl (pab3_cons (PE3.b (PO3.f (po3_comp rfl sc_is_set.nd (PI3.b (pi3_seq (pe3_var 0))) (blkOk_by (own := [("one", 2)]) (by dsimp only [cxOf, envOfC]; decide +kernel)) (by decide) (fun _ _ _ _ _ => (pg3_name 2 sc_is_set.nd)) (fun _ _ _ _ _ => pts3_nil) (fun _ _ _ _ _ => (pe3_callD D_is_within (hr.mono (by decide)) tk0 (pa3_cons (pe3_var 2) (pa3_cons pe3_int (pa3_cons (pe3_var 1) pa3_nil)))))))) pab3_nil)))))))) (pss3_one (ps3_ret (PE3.b pe3_bl))) pss3_nil)
 (pss3_one (ps3_ret (PE3.b (pe3_callB (call3_all rfl) (by rfl) g.n_all rfl (pab3_cons (PE3.b (PO3.f (po3_comp rfl sc_is_set.nd (PI3.b (pi3_zip g.n_zip (pa3_cons (pe3_var 0) (pa3_cons (pe3_slice (pb3_var 0) (pp3_some pe3_int) pp3_none) pa3_nil)))) (blkOk_by (own := [("one", 2), ("other", 3)]) (by dsimp only [cxOf, envOfC]; decide +kernel)) (by decide) (fun _ _ _ _ _ => (pg3_tup rfl (pgs3_cons (pg3_name 2 sc_is_set.nd) (pgs3_cons (pg3_name 3 sc_is_set.nd) pgs3_nil)))) (fun _ _ _ _ _ => pts3_nil) (fun _ _ _ _ _ => (pe3_cmp (op3_ltX (hu64 hr)) (pb3_var 2) (pb3_var 3) (nomark _)))))) pab3_nil))))))
abbrev N_as_count : List Str := ["word", "most", "sign"]
theorem sc_as_count : FnScope N_as_count ["word", "most"] (defScope s_as_count) := ⟨rfl, rfl, rfl, by decide +kernel, rfl, by decide +kernel, by decide +kernel⟩
theorem d_as_count {Pg : Program} {w : World} {K : PySem.W.Frag} {mg : Str → Option Value} {base : Heap} {ad : Ad} (g : GL Pg w K mg base ad) {f : Addr} {cdv : Value} {A : Around} {outer : List Env} {s : Shared} {H : Hp} {E : XK} {P : BP} {W : W3}
  (hr : Room 0 (cxOf (L2.CX Pg w) Pg w K mg base N_as_count "as_count" (defScope s_as_count) f cdv A outer s H E).A) (tk : TK (cxOf (L2.CX Pg w) Pg w K mg base N_as_count "as_count" (defScope s_as_count) f cdv A outer s H E) P W) : PSs3 (cxOf (L2.CX Pg w) Pg w K mg base N_as_count "as_count" (defScope s_as_count) f cdv A outer s H E) P (defBody s_as_count) (t_as_count ad W) :=
 (pss3_cons (ps3_if (PW3.pt (pw3_or (pt3_not (pt3_chain (op3_leX (hu64 hr)) (op3_leX (hu64 hr)) (PE3.b pe3_int) (PE3.b (pe3_callB call3_len (by rfl) g.n_len rfl (pab3_cons (pb3_var 0) pab3_nil))) (PE3.b pe3_int))) (pw3_or1 (pt3_not (pt3_truth (PE3.b (pe3_callB (call3_all rfl) (by rfl) g.n_all rfl (pab3_cons (PE3.b (PO3.f (po3_comp rfl sc_as_count.nd (PI3.b (pi3_str (pe3_var 0))) (blkOk_by (own := [("sign", 2)]) (by dsimp only [cxOf, envOfC]; decide +kernel)) (by decide) (fun _ _ _ _ _ => (pg3_name 2 sc_as_count.nd)) (fun _ _ _ _ _ => pts3_nil) (fun _ _ _ _ _ => (pe3_cmp (op3_in (hu65 hr)) (pb3_var 2) (PE3.b pe3_str) (by with_unfolding_all rfl)))))) pab3_nil)))))))) (pss3_one (ps3_ret (PE3.b pe3_non))) pss3_nil)
 (pss3_cons (ps3_if (PW3.pt (pw3_or (PW3.pt (pw3_and (pt3_cmp (op3_eq (hu64 hr)) (PE3.b (pe3_ix (pb3_var 0) (PE3.b pe3_int))) (PE3.b pe3_str) (nomark _)) (pw3_and1 (pt3_cmp (op3_ne (hu64 hr)) (pb3_var 0) (PE3.b pe3_str) (nomark _))))) (pw3_or1 (pt3_cmp (op3_gtX (hu64 hr)) (PE3.b (pe3_callTy call3_intS (by rfl) g.n_int rfl (pab3_cons (pb3_var 0) pab3_nil))) (pb3_var 1) (nomark _))))) (pss3_one (ps3_ret (PE3.b pe3_non))) pss3_nil)
 (pss3_one (ps3_ret (PE3.b (pe3_callTy call3_intS (by rfl) g.n_int rfl (pab3_cons (pb3_var 0) pab3_nil)))))))
abbrev N_check_hands : List Str := ["days", "hands", "index", "hand"]
theorem sc_check_hands : FnScope N_check_hands ["days", "hands"] (defScope s_check_hands) := ⟨rfl, rfl, rfl, by decide +kernel, rfl, by decide +kernel, by decide +kernel⟩
theorem d_check_hands {Pg : Program} {w : World} {K : PySem.W.Frag} {mg : Str → Option Value} {base : Heap} {ad : Ad} (g : GL Pg w K mg base ad) (D_is_row : Def3 Pg w K mg base 1 "is_row" ["thing"] (sp_is_row ad)) (D_is_set : Def3 Pg w K mg base 3 "is_set" ["thing", "most"] (sp_is_set ad)) (D_is_tuple_of : Def3 Pg w K mg base 1 "is_tuple_of" ["thing", "many"] (sp_is_tuple_of ad)) {f : Addr} {cdv : Value} {A : Around} {outer : List Env} {s : Shared} {H : Hp} {E : XK} {P : BP} {W : W3}
  (hr : Room 3 (cxOf (L2.CX Pg w) Pg w K mg base N_check_hands "check_hands" (defScope s_check_hands) f cdv A outer s H E).A) (tk : TK (cxOf (L2.CX Pg w) Pg w K mg base N_check_hands "check_hands" (defScope s_check_hands) f cdv A outer s H E) P W) : PSs3 (cxOf (L2.CX Pg w) Pg w K mg base N_check_hands "check_hands" (defScope s_check_hands) f cdv A outer s H E) P (defBody s_check_hands) (t_check_hands ad W) :=
 (pss3_cons (ps3_if (PW3.pt (pw3_or (pt3_not (pt3_truth (PE3.b (pe3_callD D_is_row (hr.mono (by decide)) tk (pa3_cons (pe3_var 1) pa3_nil))))) (pw3_or1 (pt3_cmp (op3_gtX (hu64 hr)) (PE3.b (pe3_callB call3_len (by rfl) g.n_len rfl (pab3_cons (pb3_var 1) pab3_nil))) (PE3.b (pe3_gint g.c_MOST_HANDS)) (nomark _))))) (pss3_one (ps3_raiseD g.e_BadHands (hr.mono (by decide)) tk (pe3_un un3_neg (PE3.b pe3_int)))) pss3_nil)
 (pss3_one (ps3_forG (passes_of rfl) rfl (pig3_enum g.n_enumerate (pa3_cons (pe3_var 1) pa3_nil)) (pg3_tup rfl (pgs3_cons (pg3_name 2 sc_check_hands.nd) (pgs3_cons (pg3_name 3 sc_check_hands.nd) pgs3_nil))) (pss3_cons (ps3_if (PW3.pt (pw3_or (pt3_not (pt3_truth (PE3.b (pe3_callD D_is_tuple_of (hr.mono (by decide)) tk (pa3_cons (pe3_var 3) (pa3_cons pe3_int pa3_nil)))))) (pw3_or (pt3_not (pt3_truth (PE3.b (pe3_callD D_is_set (hr.mono (by decide)) tk (pa3_cons (pe3_ix (pb3_var 3) (PE3.b pe3_int)) (pa3_cons (pe3_op op3_sub (PE3.b (pe3_gint g.c_CRAFTS)) (PE3.b pe3_int)) pa3_nil)))))) (pw3_or1 (pt3_not (pt3_truth (PE3.b (pe3_ix (pb3_var 3) (PE3.b pe3_int))))))))) (pss3_one (ps3_raiseD g.e_BadHands (hr.mono (by decide)) tk (pe3_var 2))) pss3_nil)
 (pss3_one (ps3_if (pt3_not (pt3_truth (PE3.b (pe3_callD D_is_set (hr.mono (by decide)) tk (pa3_cons (pe3_ix (pb3_var 3) (PE3.b pe3_int)) (pa3_cons (pe3_op op3_sub (pb3_var 0) (PE3.b pe3_int)) pa3_nil)))))) (pss3_one (ps3_raiseD g.e_BadHands (hr.mono (by decide)) tk (pe3_var 2))) pss3_nil))))))
abbrev N_check_boats : List Str := ["days", "boats", "index", "boat"]
theorem sc_check_boats : FnScope N_check_boats ["days", "boats"] (defScope s_check_boats) := ⟨rfl, rfl, rfl, by decide +kernel, rfl, by decide +kernel, by decide +kernel⟩
theorem d_check_boats {Pg : Program} {w : World} {K : PySem.W.Frag} {mg : Str → Option Value} {base : Heap} {ad : Ad} (g : GL Pg w K mg base ad) (D_is_row : Def3 Pg w K mg base 1 "is_row" ["thing"] (sp_is_row ad)) (D_is_tuple_of : Def3 Pg w K mg base 1 "is_tuple_of" ["thing", "many"] (sp_is_tuple_of ad)) (D_is_within : Def3 Pg w K mg base 2 "is_within" ["thing", "least", "most"] (sp_is_within ad)) {f : Addr} {cdv : Value} {A : Around} {outer : List Env} {s : Shared} {H : Hp} {E : XK} {P : BP} {W : W3}
  (hr : Room 2 (cxOf (L2.CX Pg w) Pg w K mg base N_check_boats "check_boats" (defScope s_check_boats) f cdv A outer s H E).A) (tk : TK (cxOf (L2.CX Pg w) Pg w K mg base N_check_boats "check_boats" (defScope s_check_boats) f cdv A outer s H E) P W) : PSs3 (cxOf (L2.CX Pg w) Pg w K mg base N_check_boats "check_boats" (defScope s_check_boats) f cdv A outer s H E) P (defBody s_check_boats) (t_check_boats ad W) :=
 (pss3_cons (ps3_if (PW3.pt (pw3_or (pt3_not (pt3_truth (PE3.b (pe3_callD D_is_row (hr.mono (by decide)) tk (pa3_cons (pe3_var 1) pa3_nil))))) (pw3_or1 (pt3_cmp (op3_gtX (hu64 hr)) (PE3.b (pe3_callB call3_len (by rfl) g.n_len rfl (pab3_cons (pb3_var 1) pab3_nil))) (PE3.b (pe3_gint g.c_MOST_BOATS)) (nomark _))))) (pss3_one (ps3_raiseD g.e_BadBoats (hr.mono (by decide)) tk (pe3_un un3_neg (PE3.b pe3_int)))) pss3_nil)
 (pss3_one (ps3_forG (passes_of rfl) rfl (pig3_enum g.n_enumerate (pa3_cons (pe3_var 1) pa3_nil)) (pg3_tup rfl (pgs3_cons (pg3_name 2 sc_check_boats.nd) (pgs3_cons (pg3_name 3 sc_check_boats.nd) pgs3_nil))) (pss3_cons (ps3_if (PW3.pt (pw3_or (pt3_not (pt3_truth (PE3.b (pe3_callD D_is_tuple_of (hr.mono (by decide)) tk (pa3_cons (pe3_var 3) (pa3_cons pe3_int pa3_nil)))))) (pw3_or (pt3_not (pt3_truth (PE3.b (pe3_callD D_is_within (hr.mono (by decide)) tk (pa3_cons (pe3_ix (pb3_var 3) (PE3.b pe3_int)) (pa3_cons pe3_int (pa3_cons (pe3_op op3_sub (PE3.b (pe3_gint g.c_CRAFTS)) (PE3.b pe3_int)) pa3_nil))))))) (pw3_or1 (pt3_not (pt3_truth (PE3.b (pe3_callD D_is_within (hr.mono (by decide)) tk (pa3_cons (pe3_ix (pb3_var 3) (PE3.b pe3_int)) (pa3_cons pe3_int (pa3_cons (pe3_gint g.c_MOST_DAYS) pa3_nil))))))))))) (pss3_one (ps3_raiseD g.e_BadBoats (hr.mono (by decide)) tk (pe3_var 2))) pss3_nil)
 (pss3_one (ps3_if (PW3.pt (pw3_or (pt3_not (pt3_truth (PE3.b (pe3_callD D_is_within (hr.mono (by decide)) tk (pa3_cons (pe3_ix (pb3_var 3) (PE3.b pe3_int)) (pa3_cons pe3_int (pa3_cons (pe3_var 0) pa3_nil))))))) (pw3_or1 (pt3_not (pt3_truth (PE3.b (pe3_callD D_is_within (hr.mono (by decide)) tk (pa3_cons (pe3_ix (pb3_var 3) (PE3.b pe3_int)) (pa3_cons (pe3_ix (pb3_var 3) (PE3.b pe3_int)) (pa3_cons (pe3_var 0) pa3_nil)))))))))) (pss3_one (ps3_raiseD g.e_BadBoats (hr.mono (by decide)) tk (pe3_var 2))) pss3_nil))))))
abbrev N_Yard___init__ : List Str := ["self", "days", "hands", "boats"]
theorem sc_Yard___init__ : FnScope N_Yard___init__ ["self", "days", "hands", "boats"] (defScope s_Yard___init__) := ⟨rfl, rfl, rfl, by decide +kernel, rfl, by decide +kernel, by decide +kernel⟩
theorem d_Yard___init__ {Pg : Program} {w : World} {K : PySem.W.Frag} {mg : Str → Option Value} {base : Heap} {ad : Ad} (g : GL Pg w K mg base ad) (D_check_boats : Def3 Pg w K mg base 3 "check_boats" ["days", "boats"] (sp_check_boats ad)) (D_check_hands : Def3 Pg w K mg base 4 "check_hands" ["days", "hands"] (sp_check_hands ad)) (D_is_within : Def3 Pg w K mg base 2 "is_within" ["thing", "least", "most"] (sp_is_within ad)) {f : Addr} {cdv : Value} {A : Around} {outer : List Env} {s : Shared} {H : Hp} {E : XK} {P : BP} {W : W3}
  (hr : Room 4 (cxOf (L2.CX Pg w) Pg w K mg base N_Yard___init__ "Yard.__init__" (defScope s_Yard___init__) f cdv A outer s H E).A) (tk : TK (cxOf (L2.CX Pg w) Pg w K mg base N_Yard___init__ "Yard.__init__" (defScope s_Yard___init__) f cdv A outer s H E) P W) : PSs3 (cxOf (L2.CX Pg w) Pg w K mg base N_Yard___init__ "Yard.__init__" (defScope s_Yard___init__) f cdv A outer s H E) P (defBody s_Yard___init__) (t_Yard___init__ ad W) :=
 (pss3_cons (ps3_if (pt3_not (pt3_truth (PE3.b (pe3_callD D_is_within (hr.mono (by decide)) tk (pa3_cons (pe3_var 1) (pa3_cons pe3_int (pa3_cons (pe3_gint g.c_MOST_DAYS) pa3_nil))))))) (pss3_one (ps3_raiseD g.e_BadDays (hr.mono (by decide)) tk (pe3_var 1))) pss3_nil)
 (pss3_cons (ps3_expr (pe3_callD D_check_hands (hr.mono (by decide)) tk (pa3_cons (pe3_var 1) (pa3_cons (pe3_var 2) pa3_nil))))
 (pss3_cons (ps3_expr (pe3_callD D_check_boats (hr.mono (by decide)) tk (pa3_cons (pe3_var 1) (pa3_cons (pe3_var 3) pa3_nil))))
 (pss3_cons (ps3_fld g.cl_Yard g.at_Yard_days (pe3_var 1) (pe3_var 0))
 (pss3_cons (ps3_fld g.cl_Yard g.at_Yard_hands (pe3_callTy call3_tuple (by rfl) g.n_tuple rfl (pab3_cons (pb3_var 2) pab3_nil)) (pe3_var 0))
 (pss3_one (ps3_fld g.cl_Yard g.at_Yard_boats (pe3_callTy call3_tuple (by rfl) g.n_tuple rfl (pab3_cons (pb3_var 3) pab3_nil)) (pe3_var 0))))))))
abbrev N_check_yard : List Str := ["yard"]
theorem sc_check_yard : FnScope N_check_yard ["yard"] (defScope s_check_yard) := ⟨rfl, rfl, rfl, by decide +kernel, rfl, by decide +kernel, by decide +kernel⟩
theorem d_check_yard {Pg : Program} {w : World} {K : PySem.W.Frag} {mg : Str → Option Value} {base : Heap} {ad : Ad} (g : GL Pg w K mg base ad) {f : Addr} {cdv : Value} {A : Around} {outer : List Env} {s : Shared} {H : Hp} {E : XK} {P : BP} {W : W3}
  (hr : Room 2 (cxOf (L2.CX Pg w) Pg w K mg base N_check_yard "check_yard" (defScope s_check_yard) f cdv A outer s H E).A) (tk : TK (cxOf (L2.CX Pg w) Pg w K mg base N_check_yard "check_yard" (defScope s_check_yard) f cdv A outer s H E) P W) : PSs3 (cxOf (L2.CX Pg w) Pg w K mg base N_check_yard "check_yard" (defScope s_check_yard) f cdv A outer s H E) P (defBody s_check_yard) (t_check_yard ad W) :=
 (pss3_one (ps3_if (pt3_not (pt3_truth (PE3.b (pe3_isiC g.isC_Yard g.mg_Yard (pb3_var 0) g.n_isinstance)))) (pss3_one (ps3_raiseD g.e_BadYard (hr.mono (by decide)) tk (pe3_var 0))) pss3_nil))
abbrev N_crafts_text : List Str := ["crafts", "craft"]
theorem sc_crafts_text : FnScope N_crafts_text ["crafts"] (defScope s_crafts_text) := ⟨rfl, rfl, rfl, by decide +kernel, rfl, by decide +kernel, by decide +kernel⟩
theorem d_crafts_text {Pg : Program} {w : World} {K : PySem.W.Frag} {mg : Str → Option Value} {base : Heap} {ad : Ad} (g : GL Pg w K mg base ad) {f : Addr} {cdv : Value} {A : Around} {outer : List Env} {s : Shared} {H : Hp} {E : XK} {P : BP} {W : W3}
  (hr : Room 0 (cxOf (L2.CX Pg w) Pg w K mg base N_crafts_text "crafts_text" (defScope s_crafts_text) f cdv A outer s H E).A) (tk : TK (cxOf (L2.CX Pg w) Pg w K mg base N_crafts_text "crafts_text" (defScope s_crafts_text) f cdv A outer s H E) P W) : PSs3 (cxOf (L2.CX Pg w) Pg w K mg base N_crafts_text "crafts_text" (defScope s_crafts_text) f cdv A outer s H E) P (defBody s_crafts_text) (t_crafts_text ad W) :=
 (pss3_one (ps3_ret (PE3.b (pe3_mt PySem.F.plainAttrs_str PySem.F.slot_str_join PySem.F.type_str_join mt3_join (PE3.b pe3_str) (pab3_cons (PE3.b (PO3.f (po3_comp rfl sc_crafts_text.nd (PI3.b (pi3_seq (pe3_var 0))) (blkOk_by (own := [("craft", 1)]) (by dsimp only [cxOf, envOfC]; decide +kernel)) (by decide) (fun _ _ _ _ _ => (pg3_name 1 sc_crafts_text.nd)) (fun _ _ _ _ _ => pts3_nil) (fun _ _ _ _ _ => (pe3_ix (PE3.b (pe3_gstr g.c_LETTERS)) (pb3_var 1)))))) pab3_nil)))))
abbrev N_days_text : List Str := ["days", "day"]
theorem sc_days_text : FnScope N_days_text ["days"] (defScope s_days_text) := ⟨rfl, rfl, rfl, by decide +kernel, rfl, by decide +kernel, by decide +kernel⟩
theorem d_days_text {Pg : Program} {w : World} {K : PySem.W.Frag} {mg : Str → Option Value} {base : Heap} {ad : Ad} (g : GL Pg w K mg base ad) {f : Addr} {cdv : Value} {A : Around} {outer : List Env} {s : Shared} {H : Hp} {E : XK} {P : BP} {W : W3}
  (hr : Room 0 (cxOf (L2.CX Pg w) Pg w K mg base N_days_text "days_text" (defScope s_days_text) f cdv A outer s H E).A) (tk : TK (cxOf (L2.CX Pg w) Pg w K mg base N_days_text "days_text" (defScope s_days_text) f cdv A outer s H E) P W) : PSs3 (cxOf (L2.CX Pg w) Pg w K mg base N_days_text "days_text" (defScope s_days_text) f cdv A outer s H E) P (defBody s_days_text) (t_days_text ad W) :=
 (pss3_one (ps3_ret (PE3.b (pe3_ifExp (pt3_truth (pb3_var 0)) (pe3_mt PySem.F.plainAttrs_str PySem.F.slot_str_join PySem.F.type_str_join mt3_join (PE3.b pe3_str) (pab3_cons (PE3.b (PO3.f (po3_comp rfl sc_days_text.nd (PI3.b (pi3_seq (pe3_var 0))) (blkOk_by (own := [("day", 1)]) (by dsimp only [cxOf, envOfC]; decide +kernel)) (by decide) (fun _ _ _ _ _ => (pg3_name 1 sc_days_text.nd)) (fun _ _ _ _ _ => pts3_nil) (fun _ _ _ _ _ => (pe3_callTy call3_str (by rfl) g.n_str rfl (pab3_cons (pb3_var 1) pab3_nil)))))) pab3_nil)) pe3_str))))
abbrev N_text_of : List Str := ["yard", "lines", "craft", "work", "laid", "tide", "crafts", "away", "line"]
theorem sc_text_of : FnScope N_text_of ["yard"] (defScope s_text_of) := ⟨rfl, rfl, rfl, by decide +kernel, rfl, by decide +kernel, by decide +kernel⟩
theorem d_text_of {Pg : Program} {w : World} {K : PySem.W.Frag} {mg : Str → Option Value} {base : Heap} {ad : Ad} (g : GL Pg w K mg base ad) (D_check_yard : Def3 Pg w K mg base 3 "check_yard" ["yard"] (sp_check_yard ad)) (D_crafts_text : Def3 Pg w K mg base 1 "crafts_text" ["crafts"] (sp_crafts_text ad)) (D_days_text : Def3 Pg w K mg base 1 "days_text" ["days"] (sp_days_text ad)) {f : Addr} {cdv : Value} {A : Around} {outer : List Env} {s : Shared} {H : Hp} {E : XK} {P : BP} {W : W3}
  (hr : Room 3 (cxOf (L2.CX Pg w) Pg w K mg base N_text_of "text_of" (defScope s_text_of) f cdv A outer s H E).A) (tk : TK (cxOf (L2.CX Pg w) Pg w K mg base N_text_of "text_of" (defScope s_text_of) f cdv A outer s H E) P W) : PSs3 (cxOf (L2.CX Pg w) Pg w K mg base N_text_of "text_of" (defScope s_text_of) f cdv A outer s H E) P (defBody s_text_of) (t_text_of ad W) :=
 (pss3_cons (ps3_expr (pe3_callD D_check_yard (hr.mono (by decide)) tk (pa3_cons (pe3_var 0) pa3_nil)))
 (pss3_cons (ps3_setO 1 sc_text_of.nd (po3_lst (pa3_cons (pe3_op op3_add (PE3.b pe3_str) (PE3.b (pe3_callTy call3_str (by rfl) g.n_str rfl (pab3_cons (PE3.b (pe3_fld g.cl_Yard g.at_Yard_days (pe3_var 0))) pab3_nil)))) pa3_nil)))
 (pss3_cons (ps3_extO 1 (po3_comp rfl sc_text_of.nd (PI3.b (pi3_seq (pe3_fld g.cl_Yard g.at_Yard_hands (pe3_var 0)))) (blkOk_by (own := [("crafts", 6), ("away", 7)]) (by dsimp only [cxOf, envOfC]; decide +kernel)) (by decide) (fun _ _ _ _ _ => (pg3_tup rfl (pgs3_cons (pg3_name 6 sc_text_of.nd) (pgs3_cons (pg3_name 7 sc_text_of.nd) pgs3_nil)))) (fun _ _ _ _ _ => pts3_nil) (fun _ _ _ _ _ => (pe3_op op3_add (PE3.b (pe3_op op3_add (PE3.b (pe3_op op3_add (PE3.b pe3_str) (PE3.b (pe3_callD D_crafts_text (hr.mono (by decide)) tk0 (pa3_cons (pe3_var 6) pa3_nil))))) (PE3.b pe3_str))) (PE3.b (pe3_callD D_days_text (hr.mono (by decide)) tk0 (pa3_cons (pe3_var 7) pa3_nil)))))))
 (pss3_cons (ps3_for (passes_of rfl) rfl (pi3_seq (pe3_fld g.cl_Yard g.at_Yard_boats (pe3_var 0))) (pg3_tup rfl (pgs3_cons (pg3_name 2 sc_text_of.nd) (pgs3_cons (pg3_name 3 sc_text_of.nd) (pgs3_cons (pg3_name 4 sc_text_of.nd) (pgs3_cons (pg3_name 5 sc_text_of.nd) pgs3_nil))))) (pss3_one (ps3_mtO 1 PySem.F.slot_list_append PySem.F.type_list_append mt3_append (pa3_cons (pe3_op op3_add (PE3.b pe3_str) (PE3.b (pe3_mt PySem.F.plainAttrs_str PySem.F.slot_str_join PySem.F.type_str_join mt3_join (PE3.b pe3_str) (pab3_cons (PE3.b (PO3.f (po3_lst (pa3_cons (pe3_ix (PE3.b (pe3_gstr g.c_LETTERS)) (pb3_var 2)) (pa3_cons (pe3_callTy call3_str (by rfl) g.n_str rfl (pab3_cons (pb3_var 3) pab3_nil)) (pa3_cons (pe3_callTy call3_str (by rfl) g.n_str rfl (pab3_cons (pb3_var 4) pab3_nil)) (pa3_cons (pe3_callTy call3_str (by rfl) g.n_str rfl (pab3_cons (pb3_var 5) pab3_nil)) pa3_nil))))))) pab3_nil)))) pa3_nil))))
 (pss3_one (ps3_ret (PE3.b (pe3_mt PySem.F.plainAttrs_str PySem.F.slot_str_join PySem.F.type_str_join mt3_join (PE3.b pe3_str) (pab3_cons (PE3.b (PO3.f (po3_comp rfl sc_text_of.nd (pib3_own (pb3_var 1)) (blkOk_by (own := [("line", 8)]) (by dsimp only [cxOf, envOfC]; decide +kernel)) (by decide) (fun _ _ _ _ _ => (pg3_name 8 sc_text_of.nd)) (fun _ _ _ _ _ => pts3_nil) (fun _ _ _ _ _ => (pe3_op op3_add (pb3_var 8) (PE3.b pe3_str)))))) pab3_nil)))))))))
abbrev N_read_crafts : List Str := ["word", "crafts", "letter"]
theorem sc_read_crafts : FnScope N_read_crafts ["word"] (defScope s_read_crafts) := ⟨rfl, rfl, rfl, by decide +kernel, rfl, by decide +kernel, by decide +kernel⟩
theorem d_read_crafts {Pg : Program} {w : World} {K : PySem.W.Frag} {mg : Str → Option Value} {base : Heap} {ad : Ad} (g : GL Pg w K mg base ad) (D_is_set : Def3 Pg w K mg base 3 "is_set" ["thing", "most"] (sp_is_set ad)) {f : Addr} {cdv : Value} {A : Around} {outer : List Env} {s : Shared} {H : Hp} {E : XK} {P : BP} {W : W3}
  (hr : Room 3 (cxOf (L2.CX Pg w) Pg w K mg base N_read_crafts "read_crafts" (defScope s_read_crafts) f cdv A outer s H E).A) (tk : TK (cxOf (L2.CX Pg w) Pg w K mg base N_read_crafts "read_crafts" (defScope s_read_crafts) f cdv A outer s H E) P W) : PSs3 (cxOf (L2.CX Pg w) Pg w K mg base N_read_crafts "read_crafts" (defScope s_read_crafts) f cdv A outer s H E) P (defBody s_read_crafts) (t_read_crafts ad W) :=
 (pss3_cons (ps3_if (PW3.pt (pw3_or (pt3_not (pt3_truth (pb3_var 0))) (pw3_or1 (pt3_not (pt3_truth (PE3.b (pe3_callB (call3_all rfl) (by rfl) g.n_all rfl (pab3_cons (PE3.b (PO3.f (po3_comp rfl sc_read_crafts.nd (PI3.b (pi3_str (pe3_var 0))) (blkOk_by (own := [("letter", 2)]) (by dsimp only [cxOf, envOfC]; decide +kernel)) (by decide) (fun _ _ _ _ _ => (pg3_name 2 sc_read_crafts.nd)) (fun _ _ _ _ _ => pts3_nil) (fun _ _ _ _ _ => (pe3_cmp (op3_in (hu65 hr)) (pb3_var 2) (PE3.b (pe3_gstr g.c_LETTERS)) (by with_unfolding_all rfl)))))) pab3_nil)))))))) (pss3_one (ps3_ret (PE3.b pe3_non))) pss3_nil)
 (pss3_cons (ps3_set 1 sc_read_crafts.nd (pe3_callTy call3_tuple (by rfl) g.n_tuple rfl (pab3_cons (PE3.b (PO3.f (po3_comp rfl sc_read_crafts.nd (PI3.b (pi3_str (pe3_var 0))) (blkOk_by (own := [("letter", 2)]) (by dsimp only [cxOf, envOfC]; decide +kernel)) (by decide) (fun _ _ _ _ _ => (pg3_name 2 sc_read_crafts.nd)) (fun _ _ _ _ _ => pts3_nil) (fun _ _ _ _ _ => (pe3_mt PySem.F.plainAttrs_str PySem.F.slot_str_index PySem.F.type_str_index mt3_sindex (PE3.b (pe3_gstr g.c_LETTERS)) (pab3_cons (pb3_var 2) pab3_nil)))))) pab3_nil)))
 (pss3_one (ps3_ret (PE3.b (pe3_ifExp (pt3_truth (PE3.b (pe3_callD D_is_set (hr.mono (by decide)) tk (pa3_cons (pe3_var 1) (pa3_cons (pe3_op op3_sub (PE3.b (pe3_gint g.c_CRAFTS)) (PE3.b pe3_int)) pa3_nil))))) (pe3_var 1) pe3_non))))))
abbrev N_read_days : List Str := ["word", "days", "found", "one"]
theorem sc_read_days : FnScope N_read_days ["word", "days"] (defScope s_read_days) := ⟨rfl, rfl, rfl, by decide +kernel, rfl, by decide +kernel, by decide +kernel⟩
theorem d_read_days {Pg : Program} {w : World} {K : PySem.W.Frag} {mg : Str → Option Value} {base : Heap} {ad : Ad} (g : GL Pg w K mg base ad) (D_as_count : Def3 Pg w K mg base 1 "as_count" ["word", "most"] (sp_as_count ad)) (D_is_set : Def3 Pg w K mg base 3 "is_set" ["thing", "most"] (sp_is_set ad)) {f : Addr} {cdv : Value} {A : Around} {outer : List Env} {s : Shared} {H : Hp} {E : XK} {P : BP} {W : W3}
  (hr : Room 3 (cxOf (L2.CX Pg w) Pg w K mg base N_read_days "read_days" (defScope s_read_days) f cdv A outer s H E).A) (tk : TK (cxOf (L2.CX Pg w) Pg w K mg base N_read_days "read_days" (defScope s_read_days) f cdv A outer s H E) P W) : PSs3 (cxOf (L2.CX Pg w) Pg w K mg base N_read_days "read_days" (defScope s_read_days) f cdv A outer s H E) P (defBody s_read_days) (t_read_days ad W) :=
 (pss3_cons (ps3_if (pt3_cmp (op3_eq (hu64 hr)) (pb3_var 0) (PE3.b pe3_str) (nomark _)) (pss3_one (ps3_ret (PE3.b (pe3_tup pa3_nil)))) pss3_nil)
 (pss3_cons (ps3_set 2 sc_read_days.nd (pe3_callTy call3_tuple (by rfl) g.n_tuple rfl (pab3_cons (PE3.b (PO3.f (po3_comp rfl sc_read_days.nd (PI3.b (pi3_list (PO3.f (po3_mt PySem.F.plainAttrs_str PySem.F.slot_str_split PySem.F.type_str_split mt3_split (pb3_var 0) (pab3_cons (PE3.b pe3_str) pab3_nil))))) (blkOk_by (own := [("one", 3)]) (by dsimp only [cxOf, envOfC]; decide +kernel)) (by decide) (fun _ _ _ _ _ => (pg3_name 3 sc_read_days.nd)) (fun _ _ _ _ _ => pts3_nil) (fun _ _ _ _ _ => (pe3_callD D_as_count (hr.mono (by decide)) tk0 (pa3_cons (pe3_var 3) (pa3_cons (pe3_gint g.c_MOST_DAYS) pa3_nil))))))) pab3_nil)))
 (pss3_cons (ps3_if (PW3.pt (pw3_or (pt3_cmp (op3_in (hu65 hr)) (PE3.b pe3_non) (pb3_var 2) (by with_unfolding_all rfl)) (pw3_or1 (pt3_not (pt3_truth (PE3.b (pe3_callD D_is_set (hr.mono (by decide)) tk (pa3_cons (pe3_var 2) (pa3_cons (pe3_op op3_sub (pb3_var 1) (PE3.b pe3_int)) pa3_nil))))))))) (pss3_one (ps3_ret (PE3.b pe3_non))) pss3_nil)
 (pss3_one (ps3_ret (pb3_var 2))))))
abbrev N_read_hand : List Str := ["words", "days", "crafts", "away"]
theorem sc_read_hand : FnScope N_read_hand ["words", "days"] (defScope s_read_hand) := ⟨rfl, rfl, rfl, by decide +kernel, rfl, by decide +kernel, by decide +kernel⟩
theorem d_read_hand {Pg : Program} {w : World} {K : PySem.W.Frag} {mg : Str → Option Value} {base : Heap} {ad : Ad} (g : GL Pg w K mg base ad) (D_read_crafts : Def3 Pg w K mg base 4 "read_crafts" ["word"] (sp_read_crafts ad)) (D_read_days : Def3 Pg w K mg base 4 "read_days" ["word", "days"] (sp_read_days ad)) {f : Addr} {cdv : Value} {A : Around} {outer : List Env} {s : Shared} {H : Hp} {E : XK} {P : BP} {W : W3}
  (hr : Room 4 (cxOf (L2.CX Pg w) Pg w K mg base N_read_hand "read_hand" (defScope s_read_hand) f cdv A outer s H E).A) (tk : TK (cxOf (L2.CX Pg w) Pg w K mg base N_read_hand "read_hand" (defScope s_read_hand) f cdv A outer s H E) P W) : PSs3 (cxOf (L2.CX Pg w) Pg w K mg base N_read_hand "read_hand" (defScope s_read_hand) f cdv A outer s H E) P (defBody s_read_hand) (t_read_hand ad W) :=
 (pss3_cons (ps3_if (PW3.pt (pw3_or (pt3_cmp (op3_ne (hu64 hr)) (PE3.b (pe3_callB call3_len (by rfl) g.n_len rfl (pab3_cons (pb3_var 0) pab3_nil))) (PE3.b pe3_int) (nomark _)) (pw3_or1 (pt3_cmp (op3_ne (hu64 hr)) (PE3.b (pe3_ix (pb3_var 0) (PE3.b pe3_int))) (PE3.b pe3_str) (nomark _))))) (pss3_one (ps3_ret (PE3.b pe3_non))) pss3_nil)
 (pss3_cons (ps3_par 2 3 rfl sc_read_hand.nd (pa3_cons (pe3_callD D_read_crafts (hr.mono (by decide)) tk (pa3_cons (pe3_ix (pb3_var 0) (PE3.b pe3_int)) pa3_nil)) (pa3_cons (pe3_callD D_read_days (hr.mono (by decide)) tk (pa3_cons (pe3_ix (pb3_var 0) (PE3.b pe3_int)) (pa3_cons (pe3_var 1) pa3_nil))) pa3_nil)))
 (pss3_one (ps3_ret (PE3.b (pe3_ifExp (PW3.pt (pw3_or (pt3_cmp op3_isN (pb3_var 2) (PE3.b pe3_non) (nomark _)) (pw3_or1 (pt3_cmp op3_isN (pb3_var 3) (PE3.b pe3_non) (nomark _))))) pe3_non (pe3_tup (pa3_cons (pe3_var 2) (pa3_cons (pe3_var 3) pa3_nil)))))))))
abbrev N_read_boat : List Str := ["words", "days", "work", "laid", "tide", "word"]
theorem sc_read_boat : FnScope N_read_boat ["words", "days"] (defScope s_read_boat) := ⟨rfl, rfl, rfl, by decide +kernel, rfl, by decide +kernel, by decide +kernel⟩
theorem d_read_boat {Pg : Program} {w : World} {K : PySem.W.Frag} {mg : Str → Option Value} {base : Heap} {ad : Ad} (g : GL Pg w K mg base ad) (D_as_count : Def3 Pg w K mg base 1 "as_count" ["word", "most"] (sp_as_count ad)) {f : Addr} {cdv : Value} {A : Around} {outer : List Env} {s : Shared} {H : Hp} {E : XK} {P : BP} {W : W3}
  (hr : Room 1 (cxOf (L2.CX Pg w) Pg w K mg base N_read_boat "read_boat" (defScope s_read_boat) f cdv A outer s H E).A) (tk : TK (cxOf (L2.CX Pg w) Pg w K mg base N_read_boat "read_boat" (defScope s_read_boat) f cdv A outer s H E) P W) : PSs3 (cxOf (L2.CX Pg w) Pg w K mg base N_read_boat "read_boat" (defScope s_read_boat) f cdv A outer s H E) P (defBody s_read_boat) (t_read_boat ad W) :=
 (pss3_cons (ps3_if (PW3.pt (pw3_or (pt3_cmp (op3_ne (hu64 hr)) (PE3.b (pe3_callB call3_len (by rfl) g.n_len rfl (pab3_cons (pb3_var 0) pab3_nil))) (PE3.b pe3_int) (nomark _)) (pw3_or (pt3_cmp (op3_ne (hu64 hr)) (PE3.b (pe3_ix (pb3_var 0) (PE3.b pe3_int))) (PE3.b pe3_str) (nomark _)) (pw3_or (pt3_cmp (op3_ne (hu64 hr)) (PE3.b (pe3_callB call3_len (by rfl) g.n_len rfl (pab3_cons (PE3.b (pe3_ix (pb3_var 0) (PE3.b pe3_int))) pab3_nil))) (PE3.b pe3_int) (nomark _)) (pw3_or1 (pt3_cmp (op3_notIn (hu65 hr)) (PE3.b (pe3_ix (pb3_var 0) (PE3.b pe3_int))) (PE3.b (pe3_gstr g.c_LETTERS)) (by with_unfolding_all rfl))))))) (pss3_one (ps3_ret (PE3.b pe3_non))) pss3_nil)
 (pss3_cons (ps3_asg (PO3.f (po3_comp rfl sc_read_boat.nd (PI3.b (pi3_seq (pe3_slice (pb3_var 0) (pp3_some pe3_int) pp3_none))) (blkOk_by (own := [("word", 5)]) (by dsimp only [cxOf, envOfC]; decide +kernel)) (by decide) (fun _ _ _ _ _ => (pg3_name 5 sc_read_boat.nd)) (fun _ _ _ _ _ => pts3_nil) (fun _ _ _ _ _ => (pe3_callD D_as_count (hr.mono (by decide)) tk0 (pa3_cons (pe3_var 5) (pa3_cons (pe3_gint g.c_MOST_DAYS) pa3_nil)))))) (pg3_lst rfl (pgs3_cons (pg3_name 2 sc_read_boat.nd) (pgs3_cons (pg3_name 3 sc_read_boat.nd) (pgs3_cons (pg3_name 4 sc_read_boat.nd) pgs3_nil)))))
 (pss3_cons (ps3_if (PW3.pt (pw3_or (pt3_cmp op3_isN (pb3_var 2) (PE3.b pe3_non) (nomark _)) (pw3_or (pt3_cmp op3_isN (pb3_var 3) (PE3.b pe3_non) (nomark _)) (pw3_or (pt3_cmp op3_isN (pb3_var 4) (PE3.b pe3_non) (nomark _)) (pw3_or1 (pt3_not (pt3_chain (op3_leX (hu64 hr)) (op3_leX (hu64 hr)) (pb3_var 3) (pb3_var 4) (pb3_var 1)))))))) (pss3_one (ps3_ret (PE3.b pe3_non))) pss3_nil)
 (pss3_one (ps3_ret (PE3.b (pe3_tup (pa3_cons (pe3_mt PySem.F.plainAttrs_str PySem.F.slot_str_index PySem.F.type_str_index mt3_sindex (PE3.b (pe3_gstr g.c_LETTERS)) (pab3_cons (PE3.b (pe3_ix (pb3_var 0) (PE3.b pe3_int))) pab3_nil)) (pa3_cons (pe3_var 2) (pa3_cons (pe3_var 3) (pa3_cons (pe3_var 4) pa3_nil)))))))))))
abbrev N_read_days_line : List Str := ["words", "days"]
theorem sc_read_days_line : FnScope N_read_days_line ["words"] (defScope s_read_days_line) := ⟨rfl, rfl, rfl, by decide +kernel, rfl, by decide +kernel, by decide +kernel⟩
theorem d_read_days_line {Pg : Program} {w : World} {K : PySem.W.Frag} {mg : Str → Option Value} {base : Heap} {ad : Ad} (g : GL Pg w K mg base ad) (D_as_count : Def3 Pg w K mg base 1 "as_count" ["word", "most"] (sp_as_count ad)) {f : Addr} {cdv : Value} {A : Around} {outer : List Env} {s : Shared} {H : Hp} {E : XK} {P : BP} {W : W3}
  (hr : Room 1 (cxOf (L2.CX Pg w) Pg w K mg base N_read_days_line "read_days_line" (defScope s_read_days_line) f cdv A outer s H E).A) (tk : TK (cxOf (L2.CX Pg w) Pg w K mg base N_read_days_line "read_days_line" (defScope s_read_days_line) f cdv A outer s H E) P W) : PSs3 (cxOf (L2.CX Pg w) Pg w K mg base N_read_days_line "read_days_line" (defScope s_read_days_line) f cdv A outer s H E) P (defBody s_read_days_line) (t_read_days_line ad W) :=
 (pss3_cons (ps3_if (PW3.pt (pw3_or (pt3_cmp (op3_ne (hu64 hr)) (PE3.b (pe3_callB call3_len (by rfl) g.n_len rfl (pab3_cons (pb3_var 0) pab3_nil))) (PE3.b pe3_int) (nomark _)) (pw3_or1 (pt3_cmp (op3_ne (hu64 hr)) (PE3.b (pe3_ix (pb3_var 0) (PE3.b pe3_int))) (PE3.b pe3_str) (nomark _))))) (pss3_one (ps3_ret (PE3.b pe3_non))) pss3_nil)
 (pss3_cons (ps3_set 1 sc_read_days_line.nd (pe3_callD D_as_count (hr.mono (by decide)) tk (pa3_cons (pe3_ix (pb3_var 0) (PE3.b pe3_int)) (pa3_cons (pe3_gint g.c_MOST_DAYS) pa3_nil))))
 (pss3_one (ps3_ret (PE3.b (pe3_ifExp (PW3.pt (pw3_and (pt3_cmp op3_notN (pb3_var 1) (PE3.b pe3_non) (nomark _)) (pw3_and1 (pt3_cmp (op3_gtX (hu64 hr)) (pb3_var 1) (PE3.b pe3_int) (nomark _))))) (pe3_var 1) pe3_non))))))
abbrev N_yard_of : List Str := ["text", "rows", "days", "hands", "boats", "words", "hand", "boat", "line"]
theorem sc_yard_of : FnScope N_yard_of ["text"] (defScope s_yard_of) := ⟨rfl, rfl, rfl, by decide +kernel, rfl, by decide +kernel, by decide +kernel⟩
theorem d_yard_of {Pg : Program} {w : World} {K : PySem.W.Frag} {mg : Str → Option Value} {base : Heap} {ad : Ad} (g : GL Pg w K mg base ad) (D_Yard___init__ : Cls3 Pg w K mg base 5 "Yard" ad.c_Yard ["self", "days", "hands", "boats"] (sp_Yard___init__ ad)) (D_read_boat : Def3 Pg w K mg base 2 "read_boat" ["words", "days"] (sp_read_boat ad)) (D_read_days_line : Def3 Pg w K mg base 2 "read_days_line" ["words"] (sp_read_days_line ad)) (D_read_hand : Def3 Pg w K mg base 5 "read_hand" ["words", "days"] (sp_read_hand ad)) {f : Addr} {cdv : Value} {A : Around} {outer : List Env} {s : Shared} {H : Hp} {E : XK} {P : BP} {W : W3}
  (hr : Room 6 (cxOf (L2.CX Pg w) Pg w K mg base N_yard_of "yard_of" (defScope s_yard_of) f cdv A outer s H E).A) (tk : TK (cxOf (L2.CX Pg w) Pg w K mg base N_yard_of "yard_of" (defScope s_yard_of) f cdv A outer s H E) P W) : PSs3 (cxOf (L2.CX Pg w) Pg w K mg base N_yard_of "yard_of" (defScope s_yard_of) f cdv A outer s H E) P (defBody s_yard_of) (t_yard_of ad W) :=
 (pss3_cons (ps3_if (PW3.pt (pw3_or (pt3_not (pt3_truth (PE3.b (pe3_isi isTy_str (pb3_var 0) g.n_isinstance g.n_str rfl)))) (pw3_or1 (pt3_not (pt3_truth (PE3.b (pe3_mt PySem.F.plainAttrs_str PySem.F.slot_str_endswith PySem.F.type_str_endswith mt3_endswith (pb3_var 0) (pab3_cons (PE3.b pe3_str) pab3_nil)))))))) (pss3_one (ps3_raiseD g.e_BadText (hr.mono (by decide)) tk (pe3_var 0))) pss3_nil)
 (pss3_cons (ps3_setLc 1 rfl sc_yard_of.nd rfl (PI3.b (pi3_list (PO3.f (po3_mt PySem.F.plainAttrs_str PySem.F.slot_str_split PySem.F.type_str_split mt3_split (PE3.b (pe3_sliceS (pb3_var 0) pp3_none (pp3_some (pe3_un un3_neg (PE3.b pe3_int))))) (pab3_cons (PE3.b pe3_str) pab3_nil))))) (blkOk_by (own := [("line", 8)]) (by dsimp only [cxOf, envOfC]; decide +kernel)) (by decide) (fun _ _ _ _ _ => (pg3_name 8 sc_yard_of.nd)) (fun _ _ _ _ _ => pts3_nil) (fun _ _ _ _ _ => (PO3.f (po3_mt PySem.F.plainAttrs_str PySem.F.slot_str_split PySem.F.type_str_split mt3_split (pb3_var 8) (pab3_cons (PE3.b pe3_str) pab3_nil)))))
 (pss3_cons (ps3_set 2 sc_yard_of.nd (pe3_callD D_read_days_line (hr.mono (by decide)) tk (pa3_cons (pe3_ix (pb3_var 1) (PE3.b pe3_int)) pa3_nil)))
 (pss3_cons (ps3_if (pt3_cmp op3_isN (pb3_var 2) (PE3.b pe3_non) (nomark _)) (pss3_one (ps3_raiseD g.e_BadText (hr.mono (by decide)) tk (pe3_var 0))) pss3_nil)
 (pss3_cons (ps3_parOO 3 4 rfl sc_yard_of.nd)
 (pss3_cons (ps3_for (passes_of rfl) rfl (pi3_seq (pe3_slice (pb3_var 1) (pp3_some pe3_int) pp3_none)) (pg3_name 5 sc_yard_of.nd) (pss3_cons (ps3_par 6 7 rfl sc_yard_of.nd (pa3_cons (pe3_callD D_read_hand (hr.mono (by decide)) tk (pa3_cons (pe3_var 5) (pa3_cons (pe3_var 2) pa3_nil))) (pa3_cons (pe3_callD D_read_boat (hr.mono (by decide)) tk (pa3_cons (pe3_var 5) (pa3_cons (pe3_var 2) pa3_nil))) pa3_nil)))
 (pss3_one (ps3_if (PW3.pt (pw3_and (pt3_cmp op3_notN (pb3_var 6) (PE3.b pe3_non) (nomark _)) (pw3_and1 (pt3_not (pt3_truth (pb3_var 4)))))) (pss3_one (ps3_mtO 3 PySem.F.slot_list_append PySem.F.type_list_append mt3_append (pa3_cons (pe3_var 6) pa3_nil))) (pss3_one (ps3_if (pt3_cmp op3_notN (pb3_var 7) (PE3.b pe3_non) (nomark _)) (pss3_one (ps3_mtO 4 PySem.F.slot_list_append PySem.F.type_list_append mt3_append (pa3_cons (pe3_var 7) pa3_nil))) (pss3_one (ps3_raiseD g.e_BadText (hr.mono (by decide)) tk (pe3_var 0)))))))))
 (pss3_cons (ps3_if (PW3.pt (pw3_or (pt3_cmp (op3_gtX (hu64 hr)) (PE3.b (pe3_callB call3_len (by rfl) g.n_len rfl (pab3_cons (pb3_var 3) pab3_nil))) (PE3.b (pe3_gint g.c_MOST_HANDS)) (nomark _)) (pw3_or1 (pt3_cmp (op3_gtX (hu64 hr)) (PE3.b (pe3_callB call3_len (by rfl) g.n_len rfl (pab3_cons (pb3_var 4) pab3_nil))) (PE3.b (pe3_gint g.c_MOST_BOATS)) (nomark _))))) (pss3_one (ps3_raiseD g.e_BadText (hr.mono (by decide)) tk (pe3_var 0))) pss3_nil)
 (pss3_frz 3 (pss3_frz 4 (pss3_one (ps3_ret (PE3.b (pe3_makeD D_Yard___init__ (hr.mono (by decide)) tk (pa3_cons (pe3_var 2) (pa3_cons (pe3_var 3) (pa3_cons (pe3_var 4) pa3_nil))))))))))))))))
abbrev N__law_taken : List Str := ["row", "many", "cell", "found"]
theorem sc__law_taken : FnScope N__law_taken ["row", "many"] (defScope s__law_taken) := ⟨rfl, rfl, rfl, by decide +kernel, rfl, by decide +kernel, by decide +kernel⟩
theorem d__law_taken {Pg : Program} {w : World} {K : PySem.W.Frag} {mg : Str → Option Value} {base : Heap} {ad : Ad} (g : GL Pg w K mg base ad) {f : Addr} {cdv : Value} {A : Around} {outer : List Env} {s : Shared} {H : Hp} {E : XK} {P : BP} {W : W3}
  (hr : Room 0 (cxOf (L2.CX Pg w) Pg w K mg base N__law_taken "_law_taken" (defScope s__law_taken) f cdv A outer s H E).A) (tk : TK (cxOf (L2.CX Pg w) Pg w K mg base N__law_taken "_law_taken" (defScope s__law_taken) f cdv A outer s H E) P W) : PSs3 (cxOf (L2.CX Pg w) Pg w K mg base N__law_taken "_law_taken" (defScope s__law_taken) f cdv A outer s H E) P (defBody s__law_taken) (t__law_taken ad W) :=
 (pss3_cons (ps3_if (pt3_cmp (op3_gtX (hu64 hr)) (PE3.b (pe3_ix (pb3_var 0) (PE3.b pe3_int))) (PE3.b pe3_int) (nomark _)) (pss3_cons (ps3_set 3 sc__law_taken.nd (pe3_op op3_mod (PE3.b (pe3_callTy call3_int (by rfl) g.n_int rfl (pab3_cons (PE3.b (pe3_ix (pb3_var 0) (PE3.b pe3_int))) pab3_nil))) (pb3_var 1)))
 (pss3_cons (ps3_ixM (pe3_op op3_div (PE3.b (pe3_ix (pb3_var 0) (PE3.b pe3_int))) (pb3_var 1)) (pe3_var 0) pe3_int)
 (pss3_one (ps3_ret (pb3_var 3))))) pss3_nil)
 (pss3_cons (ps3_ixM (pe3_op op3_add (PE3.b (pe3_ix (pb3_var 0) (PE3.b pe3_int))) (PE3.b pe3_int)) (pe3_var 0) pe3_int)
 (pss3_cons (ps3_if (pt3_cmp (op3_gtX (hu64 hr)) (PE3.b (pe3_ix (pb3_var 0) (PE3.b pe3_int))) (PE3.b (pe3_callB call3_len (by rfl) g.n_len rfl (pab3_cons (PE3.b (pe3_ix (pb3_var 0) (PE3.b pe3_int))) pab3_nil))) (nomark _)) (pss3_cons (ps3_ixM (pe3_op op3_mod (PE3.b (pe3_callTy call3_int (by rfl) g.n_int rfl (pab3_cons (PE3.b (pe3_op op3_add (PE3.b (pe3_op op3_mul (PE3.b (pe3_ix (pb3_var 0) (PE3.b pe3_int))) (PE3.b pe3_int))) (PE3.b pe3_int))) pab3_nil))) (PE3.b pe3_int)) (pe3_var 0) pe3_int)
 (pss3_one (ps3_ret (PE3.b (pe3_op op3_mod (PE3.b (pe3_callTy call3_int (by rfl) g.n_int rfl (pab3_cons (PE3.b (pe3_op op3_div (PE3.b (pe3_ix (pb3_var 0) (PE3.b pe3_int))) (PE3.b pe3_int))) pab3_nil))) (pb3_var 1)))))) pss3_nil)
 (pss3_cons (ps3_set 2 sc__law_taken.nd (pe3_ix (PE3.b (pe3_ix (pb3_var 0) (PE3.b pe3_int))) (PE3.b (pe3_op op3_sub (PE3.b (pe3_ix (pb3_var 0) (PE3.b pe3_int))) (PE3.b pe3_int)))))
 (pss3_cons (ps3_ixM (pe3_op op3_mod (PE3.b (pe3_callTy call3_int (by rfl) g.n_int rfl (pab3_cons (PE3.b (pe3_op op3_add (PE3.b (pe3_op op3_add (PE3.b (pe3_op op3_mul (PE3.b (pe3_ix (pb3_var 0) (PE3.b pe3_int))) (PE3.b pe3_int))) (pb3_var 2))) (PE3.b pe3_int))) pab3_nil))) (PE3.b pe3_int)) (pe3_var 0) pe3_int)
 (pss3_cons (ps3_if (pt3_cmp (op3_geX (hu64 hr)) (pb3_var 2) (PE3.b (pe3_op op3_pow (PE3.b pe3_int) (PE3.b pe3_int))) (nomark _)) (pss3_one (ps3_ixM (pe3_op op3_div (pb3_var 2) (pb3_var 1)) (pe3_var 0) pe3_int)) pss3_nil)
 (pss3_one (ps3_ret (PE3.b (pe3_op op3_mod (PE3.b (pe3_callTy call3_int (by rfl) g.n_int rfl (pab3_cons (pb3_var 2) pab3_nil))) (pb3_var 1)))))))))))
abbrev N__law_pick : List Str := ["row", "some"]
theorem sc__law_pick : FnScope N__law_pick ["row", "some"] (defScope s__law_pick) := ⟨rfl, rfl, rfl, by decide +kernel, rfl, by decide +kernel, by decide +kernel⟩
theorem d__law_pick {Pg : Program} {w : World} {K : PySem.W.Frag} {mg : Str → Option Value} {base : Heap} {ad : Ad} (g : GL Pg w K mg base ad) (D__law_taken : Def3 Pg w K mg base 1 "_law_taken" ["row", "many"] (sp__law_taken ad)) {f : Addr} {cdv : Value} {A : Around} {outer : List Env} {s : Shared} {H : Hp} {E : XK} {P : BP} {W : W3}
  (hr : Room 1 (cxOf (L2.CX Pg w) Pg w K mg base N__law_pick "_law_pick" (defScope s__law_pick) f cdv A outer s H E).A) (tk : TK (cxOf (L2.CX Pg w) Pg w K mg base N__law_pick "_law_pick" (defScope s__law_pick) f cdv A outer s H E) P W) : PSs3 (cxOf (L2.CX Pg w) Pg w K mg base N__law_pick "_law_pick" (defScope s__law_pick) f cdv A outer s H E) P (defBody s__law_pick) (t__law_pick ad W) :=
 (pss3_one (ps3_ret (PE3.b (pe3_ix (pb3_var 1) (PE3.b (pe3_callD D__law_taken (hr.mono (by decide)) tk (pa3_cons (pe3_var 0) (pa3_cons (pe3_callB call3_len (by rfl) g.n_len rfl (pab3_cons (pb3_var 1) pab3_nil)) pa3_nil))))))))
abbrev N__law_alike : List Str := ["found", "due", "k", "key"]
theorem sc__law_alike : FnScope N__law_alike ["found", "due"] (defScope s__law_alike) := ⟨rfl, rfl, rfl, by decide +kernel, rfl, by decide +kernel, by decide +kernel⟩
theorem d__law_alike {Pg : Program} {w : World} {K : PySem.W.Frag} {mg : Str → Option Value} {base : Heap} {ad : Ad} (g : GL Pg w K mg base ad) {kk nn : Nat} (D__law_alike : Def3 Pg w K mg base kk "_law_alike" ["found", "due"] (sp__law_alike ad nn)) {f : Addr} {cdv : Value} {A : Around} {outer : List Env} {s : Shared} {H : Hp} {E : XK} {P : BP} {W : W3}
  (hr : Room (max kk 0) (cxOf (L2.CX Pg w) Pg w K mg base N__law_alike "_law_alike" (defScope s__law_alike) f cdv A outer s H E).A) (tk : TK (cxOf (L2.CX Pg w) Pg w K mg base N__law_alike "_law_alike" (defScope s__law_alike) f cdv A outer s H E) P W) : PSs3 (cxOf (L2.CX Pg w) Pg w K mg base N__law_alike "_law_alike" (defScope s__law_alike) f cdv A outer s H E) P (defBody s__law_alike) (t__law_alike ad nn W) :=
 (pss3_cons (ps3_if (pt3_truth (PE3.b (pe3_isi2 isTy_tup isTy_lst (pb3_var 1) g.n_isinstance g.n_tuple rfl g.n_list rfl))) (pss3_cons (ps3_if (PW3.pt (pw3_or (pt3_not (pt3_truth (PE3.b (pe3_isi2 isTy_tup isTy_lst (pb3_var 0) g.n_isinstance g.n_tuple rfl g.n_list rfl)))) (pw3_or1 (pt3_cmp (op3_ne (hu64 hr)) (PE3.b (pe3_isi isTy_lst (pb3_var 0) g.n_isinstance g.n_list rfl)) (PE3.b (pe3_isi isTy_lst (pb3_var 1) g.n_isinstance g.n_list rfl)) (nomark _))))) (pss3_one (ps3_ret (PE3.b pe3_bl))) pss3_nil)
 (pss3_cons (ps3_if (pt3_cmp (op3_ne (hu64 hr)) (PE3.b (pe3_callB call3_len (by rfl) g.n_len rfl (pab3_cons (pb3_var 0) pab3_nil))) (PE3.b (pe3_callB call3_len (by rfl) g.n_len rfl (pab3_cons (pb3_var 1) pab3_nil))) (nomark _)) (pss3_one (ps3_ret (PE3.b pe3_bl))) pss3_nil)
 (pss3_one (ps3_ret (PE3.b (pe3_cmp (op3_eq (hu64 hr)) (PE3.b (PO3.f (po3_comp rfl sc__law_alike.nd (PI3.b (pi3_range1 g.n_range (pa3_cons (pe3_callB call3_len (by rfl) g.n_len rfl (pab3_cons (pb3_var 1) pab3_nil)) pa3_nil))) (blkOk_by (own := [("k", 2)]) (by dsimp only [cxOf, envOfC]; decide +kernel)) (by decide) (fun _ _ _ _ _ => (pg3_name 2 sc__law_alike.nd)) (fun _ _ _ _ _ => (pts3_one (pt3_not (pt3_truth (PE3.b (pe3_callD D__law_alike (hr.mono (by omega)) tk0 (pa3_cons (pe3_ix (pb3_var 0) (pb3_var 2)) (pa3_cons (pe3_ix (pb3_var 1) (pb3_var 2)) pa3_nil)))))))) (fun _ _ _ _ _ => (pe3_var 2))))) (PE3.b (PO3.f (po3_lst pa3_nil))) (nomark _))))))) pss3_nil)
 (pss3_cons (ps3_if (pt3_truth (PE3.b (pe3_isi isTy_dic (pb3_var 1) g.n_isinstance g.n_dict rfl))) (pss3_cons (ps3_if (PW3.pt (pw3_or (pt3_not (pt3_truth (PE3.b (pe3_isi isTy_dic (pb3_var 0) g.n_isinstance g.n_dict rfl)))) (pw3_or1 (pt3_cmp (op3_ne (hu64 hr)) (PE3.b (PO3.f (po3_callTy callO3_list (by rfl) g.n_list rfl (pab3_cons (pb3_var 0) pab3_nil)))) (PE3.b (PO3.f (po3_callTy callO3_list (by rfl) g.n_list rfl (pab3_cons (pb3_var 1) pab3_nil)))) (nomark _))))) (pss3_one (ps3_ret (PE3.b pe3_bl))) pss3_nil)
 (pss3_one (ps3_ret (PE3.b (pe3_cmp (op3_eq (hu64 hr)) (PE3.b (PO3.f (po3_comp rfl sc__law_alike.nd (PI3.b (pi3_seq (pe3_var 1))) (blkOk_by (own := [("key", 3)]) (by dsimp only [cxOf, envOfC]; decide +kernel)) (by decide) (fun _ _ _ _ _ => (pg3_name 3 sc__law_alike.nd)) (fun _ _ _ _ _ => (pts3_one (pt3_not (pt3_truth (PE3.b (pe3_callD D__law_alike (hr.mono (by omega)) tk0 (pa3_cons (pe3_ix (pb3_var 0) (pb3_var 3)) (pa3_cons (pe3_ix (pb3_var 1) (pb3_var 3)) pa3_nil)))))))) (fun _ _ _ _ _ => (pe3_var 3))))) (PE3.b (PO3.f (po3_lst pa3_nil))) (nomark _)))))) pss3_nil)
 (pss3_cons (ps3_if (PW3.pt (pw3_or (pt3_cmp op3_isN (pb3_var 1) (PE3.b pe3_non) (nomark _)) (pw3_or1 (pt3_truth (PE3.b (pe3_isi isTy_str (pb3_var 1) g.n_isinstance g.n_str rfl)))))) (pss3_one (ps3_ret (PE3.b (pe3_and (pe3_cmp (op3_eq (hu64 hr)) (pb3_var 0) (pb3_var 1) (nomark _)) (pe3_one (pe3_cmp (op3_eq (hu64 hr)) (PE3.b (pe3_isi isTy_str (pb3_var 0) g.n_isinstance g.n_str rfl)) (PE3.b (pe3_isi isTy_str (pb3_var 1) g.n_isinstance g.n_str rfl)) (nomark _))))))) pss3_nil)
 (pss3_one (ps3_ret (PE3.b (pe3_and (pe3_isi isTy_int (pb3_var 0) g.n_isinstance g.n_int rfl) (pe3_and (pe3_cmp (op3_eq (hu64 hr)) (PE3.b (pe3_isi isTy_bool (pb3_var 0) g.n_isinstance g.n_bool rfl)) (PE3.b (pe3_isi isTy_bool (pb3_var 1) g.n_isinstance g.n_bool rfl)) (nomark _)) (pe3_one (pe3_cmp (op3_eq (hu64 hr)) (pb3_var 0) (pb3_var 1) (nomark _)))))))))))
abbrev N__law_unlike : List Str := ["things", "found", "one"]
theorem sc__law_unlike : FnScope N__law_unlike ["things"] (defScope s__law_unlike) := ⟨rfl, rfl, rfl, by decide +kernel, rfl, by decide +kernel, by decide +kernel⟩
theorem d__law_unlike {Pg : Program} {w : World} {K : PySem.W.Frag} {mg : Str → Option Value} {base : Heap} {ad : Ad} (g : GL Pg w K mg base ad) {f : Addr} {cdv : Value} {A : Around} {outer : List Env} {s : Shared} {H : Hp} {E : XK} {P : BP} {W : W3}
  (hr : Room 0 (cxOf (L2.CX Pg w) Pg w K mg base N__law_unlike "_law_unlike" (defScope s__law_unlike) f cdv A outer s H E).A) (tk : TK (cxOf (L2.CX Pg w) Pg w K mg base N__law_unlike "_law_unlike" (defScope s__law_unlike) f cdv A outer s H E) P W) : PSs3 (cxOf (L2.CX Pg w) Pg w K mg base N__law_unlike "_law_unlike" (defScope s__law_unlike) f cdv A outer s H E) P (defBody s__law_unlike) (t__law_unlike ad W) :=
 (pss3_cons (ps3_setO 1 sc__law_unlike.nd (po3_lst pa3_nil))
 (pss3_cons (ps3_for (passes_of rfl) rfl (pi3_list (PO3.f (po3_callB (callO3_sorted (hu64 hr)) (by rfl) g.n_sorted rfl (pab3_cons (PE3.b (PO3.f (po3_callTy callO3_list (by rfl) g.n_list rfl (pab3_cons (pb3_var 0) pab3_nil)))) pab3_nil)))) (pg3_name 2 sc__law_unlike.nd) (pss3_one (ps3_if (PW3.pt (pw3_or (pt3_cmp (op3_eq (hu64 hr)) (pb3_var 1) (PE3.b (PO3.f (po3_lst pa3_nil))) (nomark _)) (pw3_or1 (pt3_cmp (op3_ne (hu64 hr)) (PE3.b (pe3_ix (pb3_var 1) (PE3.b (pe3_un un3_neg (PE3.b pe3_int))))) (pb3_var 2) (nomark _))))) (pss3_one (ps3_mtO 1 PySem.F.slot_list_append PySem.F.type_list_append mt3_append (pa3_cons (pe3_var 2) pa3_nil))) pss3_nil)))
 (pss3_frz 1 (pss3_one (ps3_ret (pb3_var 1))))))
abbrev N__law_yard_parts : List Str := ["row", "most", "days", "hands", "boats", "kinds", "k", "crafts", "away", "laid", "tide", "work", "day", "j"]
theorem sc__law_yard_parts : FnScope N__law_yard_parts ["row", "most"] (defScope s__law_yard_parts) := ⟨rfl, rfl, rfl, by decide +kernel, rfl, by decide +kernel, by decide +kernel⟩
theorem d__law_yard_parts {Pg : Program} {w : World} {K : PySem.W.Frag} {mg : Str → Option Value} {base : Heap} {ad : Ad} (g : GL Pg w K mg base ad) (D__law_taken : Def3 Pg w K mg base 1 "_law_taken" ["row", "many"] (sp__law_taken ad)) (D__law_unlike : Def3 Pg w K mg base 1 "_law_unlike" ["things"] (sp__law_unlike ad)) {f : Addr} {cdv : Value} {A : Around} {outer : List Env} {s : Shared} {H : Hp} {E : XK} {P : BP} {W : W3}
  (hr : Room 1 (cxOf (L2.CX Pg w) Pg w K mg base N__law_yard_parts "_law_yard_parts" (defScope s__law_yard_parts) f cdv A outer s H E).A) (tk : TK (cxOf (L2.CX Pg w) Pg w K mg base N__law_yard_parts "_law_yard_parts" (defScope s__law_yard_parts) f cdv A outer s H E) P W) : PSs3 (cxOf (L2.CX Pg w) Pg w K mg base N__law_yard_parts "_law_yard_parts" (defScope s__law_yard_parts) f cdv A outer s H E) P (defBody s__law_yard_parts) (t__law_yard_parts ad W) :=
 (pss3_cons (ps3_parVOO 2 3 4 rfl sc__law_yard_parts.nd (pe3_op op3_add (PE3.b pe3_int) (PE3.b (pe3_callD D__law_taken (hr.mono (by decide)) tk (pa3_cons (pe3_var 0) (pa3_cons (pe3_var 1) pa3_nil))))))
 (pss3_cons (ps3_set 5 sc__law_yard_parts.nd (pe3_op op3_add (PE3.b pe3_int) (PE3.b (pe3_callD D__law_taken (hr.mono (by decide)) tk (pa3_cons (pe3_var 0) (pa3_cons pe3_int pa3_nil))))))
 (pss3_cons (ps3_for (passes_of rfl) rfl (pi3_range1 g.n_range (pa3_cons (pe3_callD D__law_taken (hr.mono (by decide)) tk (pa3_cons (pe3_var 0) (pa3_cons pe3_int pa3_nil))) pa3_nil)) (pg3_name 6 sc__law_yard_parts.nd) (pss3_cons (ps3_set 7 sc__law_yard_parts.nd (pe3_callD D__law_unlike (hr.mono (by decide)) tk (pa3_cons (PO3.f (po3_comp rfl sc__law_yard_parts.nd (PI3.b (pi3_range1 g.n_range (pa3_cons (pe3_op op3_add (PE3.b pe3_int) (PE3.b (pe3_callD D__law_taken (hr.mono (by decide)) tk (pa3_cons (pe3_var 0) (pa3_cons pe3_int pa3_nil))))) pa3_nil))) (blkOk_by (own := [("j", 13)]) (by dsimp only [cxOf, envOfC]; decide +kernel)) (by decide) (fun _ _ _ _ _ => (pg3_name 13 sc__law_yard_parts.nd)) (fun _ _ _ _ _ => pts3_nil) (fun _ _ _ _ _ => (pe3_callD D__law_taken (hr.mono (by decide)) tk0 (pa3_cons (pe3_var 0) (pa3_cons (pe3_var 5) pa3_nil)))))) pa3_nil)))
 (pss3_cons (ps3_setLc 8 rfl sc__law_yard_parts.nd rfl (PI3.b (pi3_range1 g.n_range (pa3_cons (pe3_var 2) pa3_nil))) (blkOk_by (own := [("day", 12)]) (by dsimp only [cxOf, envOfC]; decide +kernel)) (by decide) (fun _ _ _ _ _ => (pg3_name 12 sc__law_yard_parts.nd)) (fun _ _ _ _ _ => (pts3_one (pt3_cmp (op3_eq (hu64 hr)) (PE3.b (pe3_callD D__law_taken (hr.mono (by decide)) tk0 (pa3_cons (pe3_var 0) (pa3_cons pe3_int pa3_nil)))) (PE3.b pe3_int) (nomark _)))) (fun _ _ _ _ _ => (pe3_var 12)))
 (pss3_one (ps3_mtO 3 PySem.F.slot_list_append PySem.F.type_list_append mt3_append (pa3_cons (pe3_tup (pa3_cons (pe3_callTy call3_tuple (by rfl) g.n_tuple rfl (pab3_cons (pb3_var 7) pab3_nil)) (pa3_cons (pe3_callTy call3_tuple (by rfl) g.n_tuple rfl (pab3_cons (pb3_var 8) pab3_nil)) pa3_nil))) pa3_nil))))))
 (pss3_cons (ps3_for (passes_of rfl) rfl (pi3_range1 g.n_range (pa3_cons (pe3_callD D__law_taken (hr.mono (by decide)) tk (pa3_cons (pe3_var 0) (pa3_cons pe3_int pa3_nil))) pa3_nil)) (pg3_name 6 sc__law_yard_parts.nd) (pss3_cons (ps3_set 9 sc__law_yard_parts.nd (pe3_callD D__law_taken (hr.mono (by decide)) tk (pa3_cons (pe3_var 0) (pa3_cons (pe3_var 2) pa3_nil))))
 (pss3_cons (ps3_set 10 sc__law_yard_parts.nd (pe3_op op3_add (pb3_var 9) (PE3.b (pe3_callD D__law_taken (hr.mono (by decide)) tk (pa3_cons (pe3_var 0) (pa3_cons (pe3_op op3_add (PE3.b (pe3_op op3_sub (pb3_var 2) (pb3_var 9))) (PE3.b pe3_int)) pa3_nil))))))
 (pss3_cons (ps3_set 11 sc__law_yard_parts.nd (pe3_callB (call3_minX rfl (hu64 hr)) (by rfl) g.n_min rfl (pab3_cons (PE3.b pe3_int) (pab3_cons (PE3.b (pe3_callD D__law_taken (hr.mono (by decide)) tk (pa3_cons (pe3_var 0) (pa3_cons (pe3_op op3_add (PE3.b (pe3_op op3_sub (pb3_var 10) (pb3_var 9))) (PE3.b (pe3_ifExp (pt3_cmp (op3_eq (hu64 hr)) (PE3.b (pe3_callD D__law_taken (hr.mono (by decide)) tk (pa3_cons (pe3_var 0) (pa3_cons pe3_int pa3_nil)))) (PE3.b pe3_int) (nomark _)) pe3_int pe3_int))) pa3_nil)))) pab3_nil))))
 (pss3_one (ps3_mtO 4 PySem.F.slot_list_append PySem.F.type_list_append mt3_append (pa3_cons (pe3_tup (pa3_cons (pe3_callD D__law_taken (hr.mono (by decide)) tk (pa3_cons (pe3_var 0) (pa3_cons (pe3_var 5) pa3_nil))) (pa3_cons (pe3_var 11) (pa3_cons (pe3_var 9) (pa3_cons (pe3_var 10) pa3_nil))))) pa3_nil)))))))
 (pss3_frz 3 (pss3_frz 4 (pss3_one (ps3_ret (PE3.b (pe3_tup (pa3_cons (pe3_var 2) (pa3_cons (pe3_var 3) (pa3_cons (pe3_var 4) pa3_nil)))))))))))))
abbrev N__law_bad_yard : List Str := ["row"]
theorem sc__law_bad_yard : FnScope N__law_bad_yard ["row"] (defScope s__law_bad_yard) := ⟨rfl, rfl, rfl, by decide +kernel, rfl, by decide +kernel, by decide +kernel⟩
theorem d__law_bad_yard {Pg : Program} {w : World} {K : PySem.W.Frag} {mg : Str → Option Value} {base : Heap} {ad : Ad} (g : GL Pg w K mg base ad) (D__law_pick : Def3 Pg w K mg base 2 "_law_pick" ["row", "some"] (sp__law_pick ad)) {f : Addr} {cdv : Value} {A : Around} {outer : List Env} {s : Shared} {H : Hp} {E : XK} {P : BP} {W : W3}
  (hr : Room 2 (cxOf (L2.CX Pg w) Pg w K mg base N__law_bad_yard "_law_bad_yard" (defScope s__law_bad_yard) f cdv A outer s H E).A) (tk : TK (cxOf (L2.CX Pg w) Pg w K mg base N__law_bad_yard "_law_bad_yard" (defScope s__law_bad_yard) f cdv A outer s H E) P W) : PSs3 (cxOf (L2.CX Pg w) Pg w K mg base N__law_bad_yard "_law_bad_yard" (defScope s__law_bad_yard) f cdv A outer s H E) P (defBody s__law_bad_yard) (t__law_bad_yard ad W) :=
 (pss3_one (ps3_ret (PE3.b (pe3_callD D__law_pick (hr.mono (by decide)) tk (pa3_cons (pe3_var 0) (pa3_cons (PO3.f (po3_lst (pa3_cons pe3_non (pa3_cons pe3_int (pa3_cons (pe3_tup (pa3_cons pe3_int (pa3_cons (pe3_tup pa3_nil) (pa3_cons (pe3_tup pa3_nil) pa3_nil)))) (pa3_cons pe3_str (pa3_cons (PO3.f (po3_lst pa3_nil)) (pa3_cons (PO3.f po3_dnew) pa3_nil)))))))) pa3_nil))))))
abbrev N__law_text : List Str := ["days", "hands", "boats", "found", "crafts", "away", "craft", "work", "laid", "tide", "day"]
theorem sc__law_text : FnScope N__law_text ["days", "hands", "boats"] (defScope s__law_text) := ⟨rfl, rfl, rfl, by decide +kernel, rfl, by decide +kernel, by decide +kernel⟩
theorem d__law_text {Pg : Program} {w : World} {K : PySem.W.Frag} {mg : Str → Option Value} {base : Heap} {ad : Ad} (g : GL Pg w K mg base ad) {f : Addr} {cdv : Value} {A : Around} {outer : List Env} {s : Shared} {H : Hp} {E : XK} {P : BP} {W : W3}
  (hr : Room 0 (cxOf (L2.CX Pg w) Pg w K mg base N__law_text "_law_text" (defScope s__law_text) f cdv A outer s H E).A) (tk : TK (cxOf (L2.CX Pg w) Pg w K mg base N__law_text "_law_text" (defScope s__law_text) f cdv A outer s H E) P W) : PSs3 (cxOf (L2.CX Pg w) Pg w K mg base N__law_text "_law_text" (defScope s__law_text) f cdv A outer s H E) P (defBody s__law_text) (t__law_text ad W) :=
 (pss3_cons (ps3_set 3 sc__law_text.nd (pe3_op op3_add (PE3.b (pe3_op op3_add (PE3.b pe3_str) (PE3.b (pe3_callTy call3_str (by rfl) g.n_str rfl (pab3_cons (pb3_var 0) pab3_nil))))) (PE3.b pe3_str)))
 (pss3_cons (ps3_for (passes_of rfl) rfl (pi3_seq (pe3_var 1)) (pg3_tup rfl (pgs3_cons (pg3_name 4 sc__law_text.nd) (pgs3_cons (pg3_name 5 sc__law_text.nd) pgs3_nil))) (pss3_one (ps3_set 3 sc__law_text.nd (pe3_op op3_add (PE3.b (pe3_op op3_add (PE3.b (pe3_op op3_add (PE3.b (pe3_op op3_add (PE3.b (pe3_op op3_add (pb3_var 3) (PE3.b pe3_str))) (PE3.b (pe3_mt PySem.F.plainAttrs_str PySem.F.slot_str_join PySem.F.type_str_join mt3_join (PE3.b pe3_str) (pab3_cons (PE3.b (PO3.f (po3_comp rfl sc__law_text.nd (PI3.b (pi3_seq (pe3_var 4))) (blkOk_by (own := [("craft", 6)]) (by dsimp only [cxOf, envOfC]; decide +kernel)) (by decide) (fun _ _ _ _ _ => (pg3_name 6 sc__law_text.nd)) (fun _ _ _ _ _ => pts3_nil) (fun _ _ _ _ _ => (pe3_ix (PE3.b pe3_str) (pb3_var 6)))))) pab3_nil))))) (PE3.b pe3_str))) (PE3.b (pe3_ifExp (pt3_cmp (op3_ne (hu64 hr)) (pb3_var 5) (PE3.b (pe3_tup pa3_nil)) (nomark _)) (pe3_mt PySem.F.plainAttrs_str PySem.F.slot_str_join PySem.F.type_str_join mt3_join (PE3.b pe3_str) (pab3_cons (PE3.b (PO3.f (po3_comp rfl sc__law_text.nd (PI3.b (pi3_seq (pe3_var 5))) (blkOk_by (own := [("day", 10)]) (by dsimp only [cxOf, envOfC]; decide +kernel)) (by decide) (fun _ _ _ _ _ => (pg3_name 10 sc__law_text.nd)) (fun _ _ _ _ _ => pts3_nil) (fun _ _ _ _ _ => (pe3_callTy call3_str (by rfl) g.n_str rfl (pab3_cons (pb3_var 10) pab3_nil)))))) pab3_nil)) pe3_str)))) (PE3.b pe3_str)))))
 (pss3_cons (ps3_for (passes_of rfl) rfl (pi3_seq (pe3_var 2)) (pg3_tup rfl (pgs3_cons (pg3_name 6 sc__law_text.nd) (pgs3_cons (pg3_name 7 sc__law_text.nd) (pgs3_cons (pg3_name 8 sc__law_text.nd) (pgs3_cons (pg3_name 9 sc__law_text.nd) pgs3_nil))))) (pss3_one (ps3_set 3 sc__law_text.nd (pe3_op op3_add (PE3.b (pe3_op op3_add (PE3.b (pe3_op op3_add (PE3.b (pe3_op op3_add (PE3.b (pe3_op op3_add (PE3.b (pe3_op op3_add (PE3.b (pe3_op op3_add (PE3.b (pe3_op op3_add (PE3.b (pe3_op op3_add (pb3_var 3) (PE3.b pe3_str))) (PE3.b (pe3_ix (PE3.b pe3_str) (pb3_var 6))))) (PE3.b pe3_str))) (PE3.b (pe3_callTy call3_str (by rfl) g.n_str rfl (pab3_cons (pb3_var 7) pab3_nil))))) (PE3.b pe3_str))) (PE3.b (pe3_callTy call3_str (by rfl) g.n_str rfl (pab3_cons (pb3_var 8) pab3_nil))))) (PE3.b pe3_str))) (PE3.b (pe3_callTy call3_str (by rfl) g.n_str rfl (pab3_cons (pb3_var 9) pab3_nil))))) (PE3.b pe3_str)))))
 (pss3_one (ps3_ret (pb3_var 3))))))
end K11

namespace K11
open PySem PySem.Spec PyProof.Rows L2 T3 Y
abbrev N_law : List Str := ["script", "row", "days", "hands", "boats", "yard", "text", "back", "turn", "lines", "wrong", "many", "mixed", "odd", "at", "sign", "changed", "told"]
theorem sc_law : FnScope N_law ["script"] (defScope s_law) := ⟨rfl, rfl, rfl, by decide +kernel, rfl, by decide +kernel, by decide +kernel⟩
theorem d_law {Pg : Program} {w : World} {K : PySem.W.Frag} {mg : Str → Option Value} {base : Heap} {ad : Ad} (g : GL Pg w K mg base ad) (D_Yard___init__ : Cls3 Pg w K mg base 5 "Yard" ad.c_Yard ["self", "days", "hands", "boats"] (sp_Yard___init__ ad)) (D__law_alike : Def3 Pg w K mg base 6 "_law_alike" ["found", "due"] (sp__law_alike4 ad)) (D__law_bad_yard : Def3 Pg w K mg base 3 "_law_bad_yard" ["row"] (sp__law_bad_yard ad)) (D__law_pick : Def3 Pg w K mg base 2 "_law_pick" ["row", "some"] (sp__law_pick ad)) (D__law_taken : Def3 Pg w K mg base 1 "_law_taken" ["row", "many"] (sp__law_taken ad)) (D__law_text : Def3 Pg w K mg base 1 "_law_text" ["days", "hands", "boats"] (sp__law_text ad)) (D__law_yard_parts : Def3 Pg w K mg base 2 "_law_yard_parts" ["row", "most"] (sp__law_yard_parts ad)) (D_text_of : Def3 Pg w K mg base 4 "text_of" ["yard"] (sp_text_of ad)) (D_yard_of : Def3 Pg w K mg base 7 "yard_of" ["text"] (sp_yard_of ad)) (RR : Ref3 Pg w K mg base (words ad)) {fa c Pt : Addr} {s : Shared} {H : Hp} {P : BP}
  (hP : ∀ B, P B → B.T = [(Pt, (envOfC "law" (defScope s_law) s.heap.objs.size fa (.ref c)).qual ++ "<lambda>")]) (hDE : ∀ B, P B → ∀ b, ¬ B.DE b) (TB : LamX.TabB base mg c Pt) (hr : Room 14 (cxOf (L2.CX Pg w) Pg w K mg base N_law "law" (defScope s_law) fa (.ref c) callerA [] s H (fun _ _ _ => False)).A) : PSs3 (cxOf (L2.CX Pg w) Pg w K mg base N_law "law" (defScope s_law) fa (.ref c) callerA [] s H (fun _ _ _ => False)) P (defBody s_law) (t_law ad) :=
 (pss3_cons (ps3_setM 1 sc_law.nd (po3_lst (pa3_cons (pe3_var 0) (pa3_cons pe3_int (pa3_cons pe3_int (pa3_cons pe3_int pa3_nil))))))
 (pss3_cons (ps3_asg (pe3_callD D__law_yard_parts (hr.mono (by decide)) tk0 (pa3_cons (pe3_var 1) (pa3_cons pe3_int pa3_nil))) (pg3_tup rfl (pgs3_cons (pg3_name 2 sc_law.nd) (pgs3_cons (pg3_name 3 sc_law.nd) (pgs3_cons (pg3_name 4 sc_law.nd) pgs3_nil)))))
 (pss3_cons (ps3_par 5 6 rfl sc_law.nd (pa3_cons (pe3_makeD D_Yard___init__ (hr.mono (by decide)) tk0 (pa3_cons (pe3_var 2) (pa3_cons (pe3_var 3) (pa3_cons (pe3_var 4) pa3_nil)))) (pa3_cons (pe3_callD D__law_text (hr.mono (by decide)) tk0 (pa3_cons (pe3_var 2) (pa3_cons (pe3_var 3) (pa3_cons (pe3_var 4) pa3_nil)))) pa3_nil)))
 (pss3_cons (ps3_if (pt3_not (pt3_truth (PE3.b (pe3_callD D__law_alike (hr.mono (by decide)) tk0 (pa3_cons (pe3_callD D_text_of (hr.mono (by decide)) tk0 (pa3_cons (pe3_var 5) pa3_nil)) (pa3_cons (pe3_var 6) pa3_nil)))))) (pss3_one (ps3_ret (PE3.b pe3_bl))) pss3_nil)
 (pss3_cons (ps3_set 7 sc_law.nd (pe3_callD D_yard_of (hr.mono (by decide)) tk0 (pa3_cons (pe3_var 6) pa3_nil)))
 (pss3_cons (ps3_if (pt3_cmp (op3_ne (hu64 hr)) (PE3.b (pe3_tup (pa3_cons (pe3_fld g.cl_Yard g.at_Yard_days (pe3_var 7)) (pa3_cons (pe3_fld g.cl_Yard g.at_Yard_hands (pe3_var 7)) (pa3_cons (pe3_fld g.cl_Yard g.at_Yard_boats (pe3_var 7)) pa3_nil))))) (PE3.b (pe3_tup (pa3_cons (pe3_fld g.cl_Yard g.at_Yard_days (pe3_var 5)) (pa3_cons (pe3_fld g.cl_Yard g.at_Yard_hands (pe3_var 5)) (pa3_cons (pe3_fld g.cl_Yard g.at_Yard_boats (pe3_var 5)) pa3_nil))))) (nomark _)) (pss3_one (ps3_ret (PE3.b pe3_bl))) pss3_nil)
 (pss3_cons (ps3_for (passes_of rfl) rfl (pi3_range1 g.n_range (pa3_cons pe3_int pa3_nil)) (pg3_name 8 sc_law.nd) (pss3_cons (ps3_par 14 15 rfl sc_law.nd (pa3_cons (pe3_callD D__law_taken (hr.mono (by decide)) tk0 (pa3_cons (pe3_var 1) (pa3_cons (pe3_callB call3_len (by rfl) g.n_len rfl (pab3_cons (pb3_var 6) pab3_nil)) pa3_nil))) (pa3_cons (pe3_callD D__law_pick (hr.mono (by decide)) tk0 (pa3_cons (pe3_var 1) (pa3_cons (pe3_op op3_add (PE3.b (PO3.f (po3_callTy (callO3_listS rfl) (by rfl) g.n_list rfl (pab3_cons (PE3.b pe3_str) pab3_nil)))) (PE3.b (PO3.f (po3_lst (pa3_cons pe3_str (pa3_cons pe3_str pa3_nil)))))) pa3_nil))) pa3_nil)))
 (pss3_cons (ps3_set 16 sc_law.nd (pe3_callD D__law_pick (hr.mono (by decide)) tk0 (pa3_cons (pe3_var 1) (pa3_cons (PO3.f (po3_lst (pa3_cons (pe3_op op3_add (PE3.b (pe3_op op3_add (PE3.b (pe3_sliceS (pb3_var 6) pp3_none (pp3_some (pe3_var 14)))) (pb3_var 15))) (PE3.b (pe3_sliceS (pb3_var 6) (pp3_some (pe3_op op3_add (pb3_var 14) (PE3.b pe3_int))) pp3_none))) (pa3_cons (pe3_op op3_add (PE3.b (pe3_sliceS (pb3_var 6) pp3_none (pp3_some (pe3_var 14)))) (PE3.b (pe3_sliceS (pb3_var 6) (pp3_some (pe3_op op3_add (pb3_var 14) (PE3.b pe3_int))) pp3_none))) (pa3_cons (pe3_op op3_add (PE3.b (pe3_op op3_add (PE3.b (pe3_sliceS (pb3_var 6) pp3_none (pp3_some (pe3_var 14)))) (pb3_var 15))) (PE3.b (pe3_sliceS (pb3_var 6) (pp3_some (pe3_var 14)) pp3_none))) pa3_nil))))) pa3_nil))))
 (pss3_cons (ps3_set 17 sc_law.nd (pe3_ref (k := 12) RR hP TB rfl (hr.mono (by decide)) (fun A outer s H E f c2 P2 W2 tk2 hr2 => (pe3_callD D_yard_of (hr2.mono (by decide)) tk2 (pa3_cons (pe3_var 16) pa3_nil))) (LamX.lamS_by (by dsimp only [cxOf, envOfC]; decide +kernel))))
 (pss3_one (ps3_if (pt3_cmp (op3_eq (hu64 hr)) (PE3.b (pe3_ix (pb3_var 17) (PE3.b pe3_int))) (PE3.b pe3_str) (nomark _)) (pss3_one (ps3_if (PW3.pt (pw3_or (pt3_cmp (op3_ne (hu64 hr)) (PE3.b (pe3_ix (pb3_var 17) (PE3.b pe3_int))) (pb3_var 16) (nomark _)) (pw3_or1 (pt3_cmp (op3_eq (hu64 hr)) (pb3_var 16) (pb3_var 6) (nomark _))))) (pss3_one (ps3_ret (PE3.b pe3_bl))) pss3_nil)) (pss3_one (ps3_if (PW3.pt (pw3_or (pt3_cmp (op3_ne (hu64 hr)) (PE3.b (pe3_ix (pb3_var 17) (PE3.b pe3_int))) (PE3.b pe3_str) (nomark _)) (pw3_or1 (pt3_cmp (op3_ne (hu64 hr)) (PE3.b (pe3_callD D_text_of (hr.mono (by decide)) tk0 (pa3_cons (pe3_callD D_yard_of (hr.mono (by decide)) tk0 (pa3_cons (pe3_var 16) pa3_nil)) pa3_nil))) (pb3_var 16) (nomark _))))) (pss3_one (ps3_ret (PE3.b pe3_bl))) pss3_nil))))))))
 (pss3_cons (ps3_set 9 sc_law.nd (pe3_slice (PE3.b (PO3.f (po3_mt PySem.F.plainAttrs_str PySem.F.slot_str_split PySem.F.type_str_split mt3_split (pb3_var 6) (pab3_cons (PE3.b pe3_str) pab3_nil)))) pp3_none (pp3_some (pe3_un un3_neg (PE3.b pe3_int)))))
 (pss3_cons (ps3_for (passes_of rfl) rfl (pi3_list (PO3.f (po3_lst (pa3_cons pe3_non (pa3_cons pe3_str (pa3_cons pe3_str (pa3_cons pe3_int (pa3_cons (PO3.f (po3_lst (pa3_cons pe3_str pa3_nil))) (pa3_cons (pe3_sliceS (pb3_var 6) pp3_none (pp3_some (pe3_un un3_neg (PE3.b pe3_int)))) (pa3_cons (pe3_op op3_add (pb3_var 6) (PE3.b pe3_str)) (pa3_cons pe3_str (pa3_cons pe3_str (pa3_cons pe3_str (pa3_cons (pe3_op op3_add (PE3.b pe3_str) (pb3_var 6)) (pa3_cons pe3_str (pa3_cons pe3_str pa3_nil)))))))))))))))) (pg3_name 10 sc_law.nd) (pss3_one (ps3_if (pt3_cmp (op3_ne (hu64 hr)) (PE3.b (pe3_callB (call3_repr rfl (hu64 hr)) (by rfl) g.n_repr rfl (pab3_cons (PE3.b (pe3_ref (k := 12) RR hP TB rfl (hr.mono (by decide)) (fun A outer s H E f c2 P2 W2 tk2 hr2 => (pe3_callD D_yard_of (hr2.mono (by decide)) tk2 (pa3_cons (pe3_var 10) pa3_nil))) (LamX.lamS_by (by dsimp only [cxOf, envOfC]; decide +kernel)))) pab3_nil))) (PE3.b (pe3_callB (call3_repr rfl (hu64 hr)) (by rfl) g.n_repr rfl (pab3_cons (PE3.b (pe3_tup (pa3_cons pe3_str (pa3_cons (pe3_var 10) pa3_nil)))) pab3_nil))) (nomark _)) (pss3_one (ps3_ret (PE3.b pe3_bl))) pss3_nil)))
 (pss3_cons (ps3_set 11 sc_law.nd (pe3_op op3_add (PE3.b (pe3_op op3_add (PE3.b (pe3_ix (pb3_var 9) (PE3.b pe3_int))) (PE3.b pe3_str))) (PE3.b (pe3_op op3_smul (PE3.b (pe3_callD D__law_pick (hr.mono (by decide)) tk0 (pa3_cons (pe3_var 1) (pa3_cons (PO3.f (po3_lst (pa3_cons pe3_str (pa3_cons pe3_str pa3_nil)))) pa3_nil)))) (PE3.b pe3_int)))))
 (pss3_cons (ps3_if (pt3_cmp (op3_ne (hu64 hr)) (PE3.b (pe3_ref (k := 12) RR hP TB rfl (hr.mono (by decide)) (fun A outer s H E f c2 P2 W2 tk2 hr2 => (pe3_callD D_yard_of (hr2.mono (by decide)) tk2 (pa3_cons (pe3_var 11) pa3_nil))) (LamX.lamS_by (by dsimp only [cxOf, envOfC]; decide +kernel)))) (PE3.b (pe3_tup (pa3_cons pe3_str (pa3_cons (pe3_var 11) pa3_nil)))) (nomark _)) (pss3_one (ps3_ret (PE3.b pe3_bl))) pss3_nil)
 (pss3_cons (ps3_set 12 sc_law.nd (pe3_op op3_add (PE3.b (pe3_ix (pb3_var 9) (PE3.b pe3_int))) (PE3.b pe3_str)))
 (pss3_cons (ps3_if (pt3_cmp (op3_ne (hu64 hr)) (PE3.b (pe3_ref (k := 12) RR hP TB rfl (hr.mono (by decide)) (fun A outer s H E f c2 P2 W2 tk2 hr2 => (pe3_callD D_yard_of (hr2.mono (by decide)) tk2 (pa3_cons (pe3_var 12) pa3_nil))) (LamX.lamS_by (by dsimp only [cxOf, envOfC]; decide +kernel)))) (PE3.b (pe3_tup (pa3_cons pe3_str (pa3_cons (pe3_var 12) pa3_nil)))) (nomark _)) (pss3_one (ps3_ret (PE3.b pe3_bl))) pss3_nil)
 (pss3_cons (ps3_set 13 sc_law.nd (pe3_callD D__law_bad_yard (hr.mono (by decide)) tk0 (pa3_cons (pe3_var 1) pa3_nil)))
 (pss3_one (ps3_ret (PE3.b (pe3_cmp (op3_eq (hu64 hr)) (PE3.b (pe3_callB (call3_repr rfl (hu64 hr)) (by rfl) g.n_repr rfl (pab3_cons (PE3.b (pe3_ref (k := 12) RR hP TB rfl (hr.mono (by decide)) (fun A outer s H E f c2 P2 W2 tk2 hr2 => (pe3_callD D_text_of (hr2.mono (by decide)) tk2 (pa3_cons (pe3_var 13) pa3_nil))) (LamX.lamS_by (by dsimp only [cxOf, envOfC]; decide +kernel)))) pab3_nil))) (PE3.b (pe3_callB (call3_repr rfl (hu64 hr)) (by rfl) g.n_repr rfl (pab3_cons (PE3.b (pe3_tup (pa3_cons pe3_str (pa3_cons (pe3_var 13) pa3_nil)))) pab3_nil))) (nomark _)))))))))))))))))))
end K11

namespace K11
open PySem PySem.Spec PyProof.Rows L2 T3 Y
variable {ad : Ad}
theorem strsOf_tx {ls : List (List Nat)} : strsOf (ls.map tx) = some (ls.map SX.S) := by
  rw [← strsOf_map (ls.map SX.S), List.map_map]; rfl
theorem lens_of {ls : List (List Nat)} {b n : Nat} (hb : ∀ l ∈ ls, l.length ≤ b) (hn : ls.length ≤ n) : ((ls.map SX.S).map (·.length)).sum ≤ b * n := by
  have := lens_sum hb
  exact Nat.le_trans this (Nat.mul_le_mul_left b hn)
theorem endL_cons {l : List Nat} {ls : List (List Nat)} : endL (l :: ls) = l ++ 10 :: endL ls := by simp [endL]
theorem setP_nil {ns : List Nat} : eqP (setP ns) (.tup []) = decide (ns = []) := by
  cases ns <;> rfl
theorem hands_lines {y : YD} {M : Mem} {W : W3} {x1 x2 : PV} {s6 s7 s8 s9 : Slot} (hd : y.days ≤ 14) : ∀ (hs : List Hd) (t : List Nat) (s4 s5 s10 : Slot) (D : D3), (∀ h ∈ hs, HOk y.days h) → t.length + 100 * hs.length ≤ 10000 → nO s10 → nO s6 →
    (∀ s4 s5 s10, nO s10 → D.nx [.val (nP y.days), .val x1, .val x2, .val (tx (t ++ endL (hs.map fun h => lineT (handW h)))), s4, s5, s6, s7, s8, s9, s10] M) →
    forW (gTup3 2 (gCons3 (gName3 4) (gCons3 (gName3 5) gNil3))) (b1__law_text ad W) D (hs.map handP) [.val (nP y.days), .val x1, .val x2, .val (tx t), s4, s5, s6, s7, s8, s9, s10] M
  | [], t, s4, s5, s10, D, _, _, n10, n6, q => by
    have := q s4 s5 s10 n10
    simpa [endL] using this
  | h :: hs, t, s4, s5, s10, D, hb, hl, n10, n6, q => by
    have ho := hb h (by simp)
    have c4 := crafts_le ho
    have d4 := daysT_le hd ho
    have a4 := away_le hd ho
    rw [List.map_cons, e_forC]
    refine ⟨rfl, rfl, ?_⟩
    show b1__law_text ad W _ [.val (nP y.days), .val x1, .val x2, .val (tx t), .val (setP h.crafts), .val (setP h.away), s6, s7, s8, s9, s10] M
    have crL : h.crafts.length ≤ 4 := by unfold craftsT at c4; rw [List.length_map] at c4; exact c4
    rw [List.length_cons] at hl
    have go : ∀ s10, nO s10 → forW (gTup3 2 (gCons3 (gName3 4) (gCons3 (gName3 5) gNil3))) (b1__law_text ad W) D (hs.map handP) [.val (nP y.days), .val x1, .val x2, .val (tx (t ++ (wHand ++ [32]) ++ craftsT h.crafts ++ [32] ++ daysT h.away ++ [10])), .val (setP h.crafts), .val (setP h.away), s6, s7, s8, s9, s10] M := fun s10 n10 => by
      refine hands_lines hd hs _ _ _ _ D (fun x hx => hb x (by simp [hx])) ?_ n10 n6 fun s4 s5 s10 n10 => ?_
      · simp [wHand]; omega
      · have := q s4 s5 s10 n10
        rw [List.map_cons, endL_cons, hand_line] at this
        simpa using this
    rw [b1__law_text, l_handB, l_nil, l_abcd, l_blank, l_comma, l_dash, l_nl] at go ⊢
    simp -implicitDefEqProofs [wHand]
    refine ⟨by omega, no_of n6, ?_⟩
    show seqW (.tup (h.crafts.map nP)) _
    rw [e_seqT]
    refine comp_mapF nP (fun c => tx [97 + c]) h.crafts (fun c hcs Qt Qf k => ?_) ?_
    · simp [turnW]
      rw [letter (ho.bc c hcs), e_optS]
      exact k
    rw [List.nil_append, show (h.crafts.map fun c => tx [97 + c]) = (h.crafts.map fun c => [97 + c]).map tx from by rw [List.map_map]; rfl, e_lkL, e_seqL, strsOf_tx, e_optS, SX.join_S, Y.join_nil, flat_one]
    have l1 := lens_of (ls := h.crafts.map fun c => [97 + c]) (b := 1) (n := 4) (fun l hl => by obtain ⟨c, _, rfl⟩ := List.mem_map.mp hl; simp) (by simpa using crL)
    simp -implicitDefEqProofs only [len_S, add_S, List.length_append, List.length_cons, List.length_nil]
    refine ⟨by omega, by omega, by omega, ?_⟩
    rw [look_set, setP_nil]
    by_cases z : h.away = []
    · refine ⟨.inr (dpt_setP (n := 58)), if_y (decide_eq_true z) ⟨by omega, by omega, ?_⟩⟩
      have := go s10 n10
      rw [show daysT h.away = [45] from by unfold daysT; rw [if_pos z]] at this
      simpa [wHand] using this
    · refine ⟨.inr (dpt_setP (n := 58)), if_n (by simpa using z) ⟨no_of n10, ?_⟩⟩
      show seqW (.tup (h.away.map nP)) _
      rw [e_seqT]
      refine comp_mapF nP (fun d => tx (TL.numL d)) h.away (fun d hda Qt Qf k => ?_) ?_
      · simp only [turnW]
        exact num_tx (n := d) (k := fun z => Qt z M) (by have := ho.ba d hda; omega) k
      rw [List.nil_append, show (h.away.map fun d => tx (TL.numL d)) = (h.away.map TL.numL).map tx from by rw [List.map_map]; rfl, e_lkL, e_seqL, strsOf_tx, e_optS, SX.join_S]
      have ed : TL.joinL [44] (h.away.map TL.numL) = daysT h.away := by unfold daysT; rw [if_neg z]
      have l2 := lens_of (ls := h.away.map TL.numL) (b := 2) (n := 14) (fun l hl => by obtain ⟨c, hc, rfl⟩ := List.mem_map.mp hl; exact num_le (by have := ho.ba c hc; omega)) (by simpa using a4)
      rw [ed]
      simp -implicitDefEqProofs only [len_S, add_S, List.length_append, List.length_cons, List.length_nil, List.length_map]
      refine ⟨by omega, by omega, by omega, ?_⟩
      have := go s10 n10
      simpa [wHand] using this
theorem boats_lines {y : YD} {M : Mem} {W : W3} {x1 x2 : PV} {s4 s5 s10 : Slot} (hd : y.days ≤ 14) : ∀ (bs : List Bt) (t : List Nat) (s6 s7 s8 s9 : Slot) (D : D3), (∀ b ∈ bs, BOk y.days b) → t.length + 100 * bs.length ≤ 10000 →
    (∀ s6 s7 s8 s9, D.nx [.val (nP y.days), .val x1, .val x2, .val (tx (t ++ endL (bs.map fun b => lineT (boatW b)))), s4, s5, s6, s7, s8, s9, s10] M) →
    forW (gTup3 4 (gCons3 (gName3 6) (gCons3 (gName3 7) (gCons3 (gName3 8) (gCons3 (gName3 9) gNil3))))) (b2__law_text ad W) D (bs.map boatP) [.val (nP y.days), .val x1, .val x2, .val (tx t), s4, s5, s6, s7, s8, s9, s10] M
  | [], t, s6, s7, s8, s9, D, _, _, q => by
    have := q s6 s7 s8 s9
    simpa [endL] using this
  | b :: bs, t, s6, s7, s8, s9, D, hb, hl, q => by
    have bo := hb b (by simp)
    have h1 := bo.w; have h2 := bo.lt; have h3 := bo.td
    rw [List.map_cons, e_forC]
    refine ⟨rfl, rfl, ?_⟩
    show b2__law_text ad W _ [.val (nP y.days), .val x1, .val x2, .val (tx t), s4, s5, .val (nP b.craft), .val (nP b.work), .val (nP b.laid), .val (nP b.tide), s10] M
    have n1 := num_le (n := b.work) (by omega)
    have n2 := num_le (n := b.laid) (by omega)
    have n3 := num_le (n := b.tide) (by omega)
    rw [List.length_cons] at hl
    have go : ∀ t2, t2 = t ++ (lineT (boatW b) ++ [10]) → forW (gTup3 4 (gCons3 (gName3 6) (gCons3 (gName3 7) (gCons3 (gName3 8) (gCons3 (gName3 9) gNil3))))) (b2__law_text ad W) D (bs.map boatP) [.val (nP y.days), .val x1, .val x2, .val (tx t2), s4, s5, .val (nP b.craft), .val (nP b.work), .val (nP b.laid), .val (nP b.tide), s10] M := fun t2 e => by
      subst e
      refine boats_lines hd bs _ _ _ _ _ D (fun x hx => hb x (by simp [hx])) ?_ fun s6 s7 s8 s9 => ?_
      · have := boat_le hd bo
        simp; omega
      · have := q s6 s7 s8 s9
        rw [List.map_cons, endL_cons] at this
        simpa using this
    rw [b2__law_text, l_boatB, l_abcd, l_blank, l_nl] at go ⊢
    simp -implicitDefEqProofs [nP, num_repr, letter bo.c]
    simp only [wBoat, List.length_cons, List.length_nil]
    refine ⟨by omega, by omega, by omega, log_small (by omega), by omega, by omega, log_small (by omega), by omega, by omega, log_small (by omega), by omega, by omega, ?_⟩
    refine go _ ?_
    rw [boat_line, join_cons (by simp), join_cons (by simp), join_cons (by simp)]
    simp [wBoat, TL.joinL]
theorem sem__law_text : Sem (sp__law_text ad) 11 (t__law_text ad) := by
  rintro _ M Q E ⟨y, rfl, ok, q⟩
  have l1 := ok.d2
  rw [t__law_text, l_daysB, l_nl]
  simp -implicitDefEqProofs [nP, num_repr]
  have n1 := num_le (n := y.days) (by omega)
  have nh := ok.nh; have nb := ok.nb
  have sm : ∀ {hs : List Hd}, (∀ h ∈ hs, HOk y.days h) → (endL (hs.map fun h => lineT (handW h))).length ≤ 100 * hs.length := by
    intro hs
    induction hs with
    | nil => intro _; simp [endL]
    | cons h hs ih =>
      intro hb
      have := hand_le ok.d2 (hb h (by simp))
      have := ih fun x hx => hb x (by simp [hx])
      rw [List.map_cons, endL_cons]
      simp; omega
  have smh := sm ok.ho
  refine ⟨log_small (by omega), by simp [wDays]; omega, by simp [wDays]; omega, ?_⟩
  refine hands_lines (W := clW E) l1 y.hands _ _ _ _ _ ok.ho (by simp [wDays]; omega) trivial trivial fun s4 s5 s10 n10 => ?_
  simp -implicitDefEqProofs
  refine boats_lines (W := clW E) l1 y.boats _ _ _ _ _ _ ok.bo (by simp [wDays]; omega) fun s6 s7 s8 s9 => ?_
  simp -implicitDefEqProofs
  have : printY y = wDays ++ 32 :: (TL.numL y.days ++ 10 :: (endL (y.hands.map fun h => lineT (handW h)) ++ endL (y.boats.map fun b => lineT (boatW b)))) := by
    unfold printY rowsOf endL
    rw [List.map_cons, List.map_append, List.map_map, List.map_map, List.flatMap_cons, List.flatMap_append, day_line]
    simp [Function.comp_def]
  rw [this] at q
  exact clQ.of (by simpa using q)
end K11

namespace K11
open PySem PySem.Spec PyProof.Rows L2 T3 Y
variable {ad : Ad}
abbrev EL : D3 := { nx := fun _ _ => False, rt := fun y _ => y = .bl true }
structure Dis (ad : Ad) : Prop where
  d1 : ad.c_BadText ≠ ad.c_BadYard
theorem beq_no {a b : Addr} (h : a ≠ b) : (b == a) = false := by simpa using h.symm
theorem lk_text : (words ad).lookup ad.c_BadText = some (Str.ofString "text") := by simp [words]
theorem lk_yard (d : Dis ad) : (words ad).lookup ad.c_BadYard = some (Str.ofString "yard") := by simp [words, List.lookup_cons, beq_no d.d1]
/-! ### yard_of at a text -/
theorem yo_some {l : List Nat} {y : YD} {M : Mem} {Q : PV → Mem → Prop} {W : W3} (hl : l.length ≤ 1000000) (e : parseY l = some y) (q : Q (yv ad y) M) : sp_yard_of ad [tx l] M Q W := by
  refine ⟨_, rfl, rfl, ?_⟩
  show l.length ≤ 1000000 ∧ _
  refine ⟨hl, ?_⟩
  show (match parseY l with | some y => Q (yv ad y) M | none => W ad.c_BadText (tx l) M)
  rw [e]; exact q
theorem yo_none {l : List Nat} {M : Mem} {Q : PV → Mem → Prop} {W : W3} (hl : l.length ≤ 1000000) (e : parseY l = none) (q : W ad.c_BadText (tx l) M) : sp_yard_of ad [tx l] M Q W := by
  refine ⟨_, rfl, rfl, ?_⟩
  show l.length ≤ 1000000 ∧ _
  refine ⟨hl, ?_⟩
  show (match parseY l with | some y => Q (yv ad y) M | none => W ad.c_BadText (tx l) M)
  rw [e]; exact q
theorem yo_bad {x : PV} {M : Mem} {Q : PV → Mem → Prop} {W : W3} (hp : Y.plain x = true) (e : txtOf x = none) (q : W ad.c_BadText x M) : sp_yard_of ad [x] M Q W := by
  refine ⟨_, rfl, hp, ?_⟩
  rw [e]; exact q
/-! ### the length and the signs of a text -/
theorem endL_le {b : Nat} : ∀ {ls : List (List Nat)}, (∀ l ∈ ls, l.length ≤ b) → (endL ls).length ≤ (b + 1) * ls.length
  | [], _ => by simp [endL]
  | l :: ls, h => by
    have := h l (by simp)
    have := endL_le (b := b) (ls := ls) fun x hx => h x (by simp [hx])
    rw [endL_cons, List.length_append, List.length_cons, List.length_cons, Nat.mul_succ]
    omega
theorem print_le {y : YD} (ok : YOk y) : (printY y).length ≤ 1100 := by
  have h1 := endL_le (rows_le ok)
  have h2 := rows_len ok
  rw [List.length_map] at h1
  unfold printY
  omega
theorem endL_sign {ls : List (List Nat)} (h : ∀ l ∈ ls, ∀ c ∈ l, c < 1114112) : ∀ c ∈ endL ls, c < 1114112 := fun c hc => by
  unfold endL at hc
  obtain ⟨l, hl, hc⟩ := List.mem_flatMap.mp hc
  rcases List.mem_append.mp hc with hc | hc
  · exact h l hl c hc
  · rw [List.mem_singleton.mp hc]; decide
theorem print_sign {y : YD} (ok : YOk y) : ∀ c ∈ printY y, c < 1114112 := endL_sign fun l hl c hc => by
  obtain ⟨ws, hws, rfl⟩ := List.mem_map.mp hl
  rcases line_sign (rows_sign ok ws hws) c hc with h | h
  · rw [h]; decide
  · unfold wordSign at h; omega
theorem strOk_S {l : List Nat} (h : ∀ c ∈ l, c < 1114112) : PyData.strOk (SX.S l) = true := by
  unfold PyData.strOk
  rw [← Array.all_toList, List.all_eq_true]
  intro c hc
  exact decide_eq_true (h c hc)
theorem rep_text {l : List Nat} (h : ∀ c ∈ l, c < 1114112) (hl : l.length ≤ 100000) : repOk (.tup [.str "text", tx l]) = true := by
  unfold repOk
  have e : okR false 60 (.tup [.str "text", tx l]) = true := by
    show ([PV.str "text", tx l].all (okR false 59)) = true
    rw [List.all_cons, List.all_cons]
    rw [show okR false 59 (tx l) = PyData.strOk (SX.S l) from rfl, strOk_S h]
    decide +kernel
  rw [e, Bool.true_or, Bool.true_and, decide_eq_true_eq]
  have : szR (.tup [.str "text", tx l]) = (10 * 4 + 2 + (10 * (SX.S l).length + 2 + 0)) + 2 * 2 + 3 := by
    simp only [szR, szRs, List.length_cons, List.length_nil]
    rfl
  rw [this, len_S]
  omega
section
variable {sc : PV} {ra : Addr} {y : YD} {s7 s8 s9 s10 s11 s12 s13 s14 s15 s16 s17 : T3.Slot} {D : D3} {M : Mem}
abbrev St (ad : Ad) (sc : PV) (ra : Addr) (y : YD) (s7 s8 s9 s10 s11 s12 s13 s14 s15 s16 s17 : T3.Slot) : Sl :=
  [.val sc, .val (.raw (.ref ra)), .val (nP y.days), .val (handsL y), .val (boatsL y), .val (yv ad y), .val (tx (printY y)), s7, s8, s9, s10, s11, s12, s13, s14, s15, s16, s17]
theorem r3 (d : Dis ad) (r : RowAt M ra) : r3_law ad EL (St ad sc ra y s7 s8 s9 s10 s11 s12 s13 s14 s15 s16 s17) M := by
  simp -implicitDefEqProofs [r3_law]
  refine ⟨_, rfl, r, fun th M15 hth r17 e17 => ?_⟩
  have ht := (bad_yard (ad := ad) hth).2.2
  simp -implicitDefEqProofs
  refine ⟨_, rfl, off_yard hth ?_⟩
  rw [lk_yard d, e_optS]
  refine rep_do ht (rep_do ht ?_)
  simp -implicitDefEqProofs
theorem st_text : PyData.strOk "text" = true := by decide +kernel
theorem refused {l : List Nat} {k : PV → Mem → Prop} (hl : l.length ≤ 1000000) (e : parseY l = none) (q : k (.tup [.str "text", tx l]) M) : sp_yard_of ad [tx l] M (fun _ M' => k (.tup [.str "", .non]) M') (fun C y M' => optW ((words ad).lookup C) fun wd => k (.tup [.str wd, y]) M') := yo_none hl e (by rw [lk_text, e_optS]; exact q)
theorem r4 (d : Dis ad) {l : List Nat} (hl : l.length ≤ 1000000) (hs : ∀ c ∈ l, c < 1114112) (e : parseY l = none) (r : RowAt M ra) : r4_law ad EL (St ad sc ra y s7 s8 s9 s10 s11 (.val (tx l)) s13 s14 s15 s16 s17) M := by
  have go := r3 (sc := sc) (y := y) (s7 := s7) (s8 := s8) (s9 := s9) (s10 := s10) (s11 := s11) (s12 := .val (tx l)) (s13 := s13) (s14 := s14) (s15 := s15) (s16 := s16) (s17 := s17) d r
  simp -implicitDefEqProofs [r4_law]
  refine yo_none hl e ?_
  rw [lk_text, e_optS]
  refine ⟨.inr ⟨⟨dS st_text, strOk_S hs⟩, dS st_text, strOk_S hs⟩, ⟨rfl, by rw [eq_tx]; exact decide_eq_true rfl⟩, go⟩
theorem endL_join2 : ∀ {ls : List (List Nat)}, endL ls = TL.joinL [10] (ls ++ [[]])
  | [] => rfl
  | l :: ls => by
    rw [endL_cons, List.cons_append, join_cons (by simp), endL_join2 (ls := ls)]
theorem cut_print (ok : YOk y) : cut1 10 (printY y) = (rowsOf y).map lineT ++ [[]] := by
  unfold printY
  rw [endL_join2]
  refine cut_join (by simp) fun p hp => ?_
  rcases List.mem_append.mp hp with h | h
  · obtain ⟨ws, hws, rfl⟩ := List.mem_map.mp h
    exact line_free (rows_sign ok ws hws)
  · rw [List.mem_singleton.mp h]; simp
abbrev linesV (y : YD) : PV := .lst (((rowsOf y).map lineT).map tx)
theorem first_at : atI ((rowsOf y).map (tx ∘ lineT)) 0 = some (tx (lineT (dayW y.days))) := by
  unfold rowsOf
  rw [List.map_cons, T3.atI_zero]; rfl
theorem mixed_sign : ∀ c ∈ lineT (dayW y.days) ++ endL [[], lineT wB, lineT wA], c < 1114112 := fun c hc => by
  rcases List.mem_append.mp hc with h | h
  · rcases line_sign day_sign c h with h | h
    · omega
    · unfold wordSign at h; omega
  · revert c
    have : ∀ c ∈ endL [[], lineT wB, lineT wA], c < 1114112 := by decide +kernel
    exact fun c _ h => this c h
theorem mixed_eq : lineT (dayW y.days) ++ endL [[], lineT wB, lineT wA] = endL [lineT (dayW y.days), lineT wB, lineT wA] := by
  simp [endL]
theorem l_mixed : (Str.ofString "\nboat a 0 0 0\nhand a -\n") = SX.S (endL [[], lineT wB, lineT wA]) := by decide +kernel
theorem r5 (d : Dis ad) (ok : YOk y) (r : RowAt M ra) : r5_law ad EL (St ad sc ra y s7 s8 (.val (linesV y)) s10 s11 s12 s13 s14 s15 s16 s17) M := by
  have l1 := day_le ok.d2
  have l2 : (endL [[], lineT wB, lineT wA]).length ≤ 100 := by decide +kernel
  rw [r5_law, l_mixed]
  simp -implicitDefEqProofs
  rw [first_at, e_optS]
  simp -implicitDefEqProofs only [e_addS, e_lkS, len_S, add_S]
  refine ⟨by omega, ?_⟩
  refine r4 d (by rw [List.length_append]; omega) mixed_sign ?_ r
  rw [mixed_eq]
  exact parse_mixed ok.d1 ok.d2
theorem l_A : (Str.ofString "hand a -\n") = SX.S (lineT wA ++ [10]) := by decide +kernel
theorem l_B : (Str.ofString "boat a 0 0 0\n") = SX.S (lineT wB ++ [10]) := by decide +kernel
theorem mul_A : Txt.mul (SX.S (lineT wA ++ [10])) 9 = SX.S (endL (List.replicate 9 (lineT wA))) := by decide +kernel
theorem mul_B : Txt.mul (SX.S (lineT wB ++ [10])) 9 = SX.S (endL (List.replicate 9 (lineT wB))) := by decide +kernel
theorem many_sign {w : List (List Nat)} (hw : w = wA ∨ w = wB) : ∀ c ∈ lineT (dayW y.days) ++ [10] ++ endL (List.replicate 9 (lineT w)), c < 1114112 := fun c hc => by
  rcases List.mem_append.mp hc with h | h
  · rcases List.mem_append.mp h with h | h
    · rcases line_sign day_sign c h with h | h
      · omega
      · unfold wordSign at h; omega
    · rw [List.mem_singleton.mp h]; decide
  · revert c
    have : ∀ c ∈ endL (List.replicate 9 (lineT w)), c < 1114112 := by
      rcases hw with rfl | rfl <;> decide +kernel
    exact fun c _ h => this c h
theorem r6 (d : Dis ad) (ok : YOk y) {w : List (List Nat)} (hw : w = wA ∨ w = wB) (r : RowAt M ra) : r6_law ad EL (St ad sc ra y s7 s8 (.val (linesV y)) s10 (.val (tx (lineT (dayW y.days) ++ [10] ++ endL (List.replicate 9 (lineT w))))) s12 s13 s14 s15 s16 s17) M := by
  have go := r5 (sc := sc) (s7 := s7) (s8 := s8) (s10 := s10) (s11 := .val (tx (lineT (dayW y.days) ++ [10] ++ endL (List.replicate 9 (lineT w))))) (s12 := s12) (s13 := s13) (s14 := s14) (s15 := s15) (s16 := s16) (s17 := s17) d ok r
  have l1 := day_le ok.d2
  have l2 : (endL (List.replicate 9 (lineT w))).length ≤ 1000 := by rcases hw with rfl | rfl <;> decide +kernel
  have hs := many_sign (y := y) hw
  have pn : parseY (lineT (dayW y.days) ++ [10] ++ endL (List.replicate 9 (lineT w))) = none := by
    have := parse_many ok.d1 ok.d2 hw
    rw [endL_cons] at this
    simpa using this
  have hl : (lineT (dayW y.days) ++ [10] ++ endL (List.replicate 9 (lineT w))).length ≤ 1000000 := by rw [List.length_append, List.length_append, List.length_singleton]; omega
  generalize lineT (dayW y.days) ++ [10] ++ endL (List.replicate 9 (lineT w)) = l at go hs pn hl ⊢
  simp -implicitDefEqProofs [r6_law]
  refine yo_none hl pn ?_
  rw [lk_text, e_optS]
  exact ⟨.inr ⟨⟨dS st_text, strOk_S hs⟩, dS st_text, strOk_S hs⟩, ⟨rfl, by rw [eq_tx]; exact decide_eq_true rfl⟩, go⟩
theorem r7 (d : Dis ad) (ok : YOk y) (r : RowAt M ra) : r7_law ad EL (St ad sc ra y s7 s8 (.val (linesV y)) s10 s11 s12 s13 s14 s15 s16 s17) M := by
  have l1 := day_le ok.d2
  rw [r7_law, l_A, l_B, l_nl]
  simp -implicitDefEqProofs
  rw [first_at, e_optS]
  simp -implicitDefEqProofs only [e_addS, e_lkS, len_S, add_S]
  refine ⟨by simp; omega, ?_⟩
  refine pickN r (by simp) (by simp) fun z M1 hz r1 e1 => ?_
  have hz : z = tx (lineT wA ++ [10]) ∨ z = tx (lineT wB ++ [10]) := by simpa using hz
  rcases hz with rfl | rfl
  · rw [e_lkS, e_smul, mul_A]
    refine ⟨⟨?_, by rw [len_S]; decide +kernel⟩, ?_⟩
    · exact ⟨by decide, fun _ _ => by decide +kernel, fun _ _ => by decide +kernel⟩
    simp -implicitDefEqProofs only [e_addS, e_lkS, len_S, add_S]
    have l2 : (endL (List.replicate 9 (lineT wA))).length ≤ 1000 := by decide +kernel
    exact ⟨by rw [List.length_append, List.length_singleton]; omega, r6 d ok (.inl rfl) r1⟩
  · rw [e_lkS, e_smul, mul_B]
    refine ⟨⟨?_, by rw [len_S]; decide +kernel⟩, ?_⟩
    · exact ⟨by decide, fun _ _ => by decide +kernel, fun _ _ => by decide +kernel⟩
    simp -implicitDefEqProofs only [e_addS, e_lkS, len_S, add_S]
    have l2 : (endL (List.replicate 9 (lineT wB))).length ≤ 1000 := by decide +kernel
    exact ⟨by rw [List.length_append, List.length_singleton]; omega, r6 d ok (.inr rfl) r1⟩
/-! ### what is no text of a yard -/
def WrongOk (x : PV) : Prop := Y.plain x = true ∧ repOk (.tup [.str "text", x]) = true ∧ (txtOf x = none ∨ ∃ l, x = tx l ∧ l.length ≤ 1000000 ∧ parseY l = none)
theorem wrong_text {l : List Nat} (hl : l.length ≤ 100000) (hs : ∀ c ∈ l, c < 1114112) (e : parseY l = none) : WrongOk (tx l) := ⟨rfl, rep_text hs hl, .inr ⟨l, rfl, by omega, e⟩⟩
theorem no_parse {l : List Nat} (h : (parseY l).isNone = true) : parseY l = none := by simpa using h
theorem q0 : (Str.ofString "") = SX.S [] := by decide +kernel
theorem w0 : WrongOk (tx []) := wrong_text (by simp) (by decide +kernel) (no_parse (by decide +kernel))
theorem q1 : (Str.ofString "\n") = SX.S [10] := by decide +kernel
theorem w1 : WrongOk (tx [10]) := wrong_text (by simp) (by decide +kernel) (no_parse (by decide +kernel))
theorem q2 : (Str.ofString "days 0\n") = SX.S [100, 97, 121, 115, 32, 48, 10] := by decide +kernel
theorem w2 : WrongOk (tx [100, 97, 121, 115, 32, 48, 10]) := wrong_text (by simp) (by decide +kernel) (no_parse (by decide +kernel))
theorem q3 : (Str.ofString "days 15\n") = SX.S [100, 97, 121, 115, 32, 49, 53, 10] := by decide +kernel
theorem w3 : WrongOk (tx [100, 97, 121, 115, 32, 49, 53, 10]) := wrong_text (by simp) (by decide +kernel) (no_parse (by decide +kernel))
theorem q4 : (Str.ofString "days 01\n") = SX.S [100, 97, 121, 115, 32, 48, 49, 10] := by decide +kernel
theorem w4 : WrongOk (tx [100, 97, 121, 115, 32, 48, 49, 10]) := wrong_text (by simp) (by decide +kernel) (no_parse (by decide +kernel))
theorem q5 : (Str.ofString "days 1\nboat a 0 0 2\n") = SX.S [100, 97, 121, 115, 32, 49, 10, 98, 111, 97, 116, 32, 97, 32, 48, 32, 48, 32, 50, 10] := by decide +kernel
theorem w5 : WrongOk (tx [100, 97, 121, 115, 32, 49, 10, 98, 111, 97, 116, 32, 97, 32, 48, 32, 48, 32, 50, 10]) := wrong_text (by simp) (by decide +kernel) (no_parse (by decide +kernel))
theorem q6 : (Str.ofString "days 2\nhand ba -\n") = SX.S [100, 97, 121, 115, 32, 50, 10, 104, 97, 110, 100, 32, 98, 97, 32, 45, 10] := by decide +kernel
theorem w6 : WrongOk (tx [100, 97, 121, 115, 32, 50, 10, 104, 97, 110, 100, 32, 98, 97, 32, 45, 10]) := wrong_text (by simp) (by decide +kernel) (no_parse (by decide +kernel))
theorem wrong_loop (r : RowAt M ra) : ∀ (xs : List PV) (s10 : T3.Slot) (D : D3), (∀ x ∈ xs, WrongOk x) → (∀ s10, D.nx (St ad sc ra y s7 s8 s9 s10 s11 s12 s13 s14 s15 s16 s17) M) → forW (gName3 10) (b2_law ad) D xs (St ad sc ra y s7 s8 s9 s10 s11 s12 s13 s14 s15 s16 s17) M
  | [], s10, D, _, q => q s10
  | x :: xs, s10, D, h, q => by
    obtain ⟨hp, hr, hx⟩ := h x (by simp)
    rw [e_forC]
    show b2_law ad _ (St ad sc ra y s7 s8 s9 (.val x) s11 s12 s13 s14 s15 s16 s17) M
    have go : D.nx (St ad sc ra y s7 s8 s9 (.val x) s11 s12 s13 s14 s15 s16 s17) M → forW (gName3 10) (b2_law ad) D xs (St ad sc ra y s7 s8 s9 (.val x) s11 s12 s13 s14 s15 s16 s17) M := fun _ => wrong_loop r xs _ D (fun z hz => h z (by simp [hz])) q
    have yo : ∀ {Q : PV → Mem → Prop} {W : W3}, W ad.c_BadText x M → sp_yard_of ad [x] M Q W := fun {Q W} e => by
      rcases hx with hx | ⟨l, rfl, hl, hn⟩
      · exact yo_bad hp hx e
      · exact yo_none hl hn e
    simp -implicitDefEqProofs [b2_law]
    refine yo ?_
    rw [lk_text, e_optS]
    refine rep_do hr (rep_do hr ?_)
    simp -implicitDefEqProofs
    exact wrong_loop r xs _ D (fun z hz => h z (by simp [hz])) q
theorem r8 (d : Dis ad) (ok : YOk y) (r : RowAt M ra) : r8_law ad EL (St ad sc ra y s7 s8 (.val (linesV y)) s10 s11 s12 s13 s14 s15 s16 s17) M := by
  have pl := print_le ok
  have ps := print_sign ok
  rw [r8_law, q0, q1, q2, q3, q4, q5, q6, l_A]
  simp -implicitDefEqProofs [cut_last]
  have lA : (lineT wA).length ≤ 10 := by decide +kernel
  refine ⟨by omega, by omega, ?_⟩
  refine wrong_loop r _ s10 _ (fun x hx => ?_) fun s10 => ?_
  · simp only [List.mem_cons, List.not_mem_nil, or_false] at hx
    rcases hx with rfl | rfl | rfl | rfl | rfl | rfl | rfl | rfl | rfl | rfl | rfl | rfl | rfl
    · exact ⟨rfl, by decide +kernel, .inl rfl⟩
    · exact w0
    · exact w1
    · exact ⟨rfl, by decide +kernel, .inl rfl⟩
    · exact ⟨rfl, by decide +kernel, .inl rfl⟩
    · exact wrong_text (by rw [List.length_dropLast]; omega) (fun c hc => ps c (List.dropLast_subset _ hc)) (parse_drop ok)
    · refine wrong_text (by rw [List.length_append, List.length_singleton]; omega) (fun c hc => ?_) (parse_last ok)
      rcases List.mem_append.mp hc with h | h
      · exact ps c h
      · rw [List.mem_singleton.mp h]; decide
    · exact w2
    · exact w3
    · exact w4
    · refine wrong_text (by rw [List.length_append, List.length_cons]; omega) (fun c hc => ?_) (by simpa using parse_first ok)
      rcases List.mem_append.mp hc with h | h
      · have : ∀ c ∈ lineT wA, c < 1114112 := by decide +kernel
        exact this c h
      · rcases List.mem_cons.mp h with h | h
        · rw [h]; decide
        · exact ps c h
    · exact w5
    · exact w6
  · exact r7 d ok r
theorem cut_init {xs : List PV} {x : PV} : cutP (xs ++ [x]) none (some (-1)) = xs := by
  unfold cutP
  rw [HT.sIx, HT.sIx]
  simp
  rw [show (-1 + ((xs.length : Int) + 1)).toNat = xs.length from by omega, List.take_left]
theorem r9 (d : Dis ad) (ok : YOk y) (r : RowAt M ra) : r9_law ad EL (St ad sc ra y s7 s8 s9 s10 s11 s12 s13 s14 s15 s16 s17) M := by
  have pl := print_le ok
  rw [r9_law, l_nl]
  simp -implicitDefEqProofs
  refine ⟨⟨by omega, split_fine (by omega) (by omega)⟩, ?_⟩
  rw [split_cut (by omega), List.map_map, cut_print ok, List.map_append]
  rw [show ([[]] : List (List Nat)).map (PV.str ∘ SX.S) = [tx []] from rfl, cut_init]
  exact r8 d ok r
/-! ### texts changed -/
theorem b1_r1 (d : Dis ad) (ok : YOk y) {l : List Nat} (hl : l.length ≤ 100000) (r : RowAt M ra) (q : ∀ s17, D.nx (St ad sc ra y s7 s8 s9 s10 s11 s12 s13 s14 s15 (.val (tx l)) s17) M) : r1_law ad D (St ad sc ra y s7 s8 s9 s10 s11 s12 s13 s14 s15 (.val (tx l)) s17) M := by
  simp -implicitDefEqProofs [r1_law]
  cases e : parseY l with
  | none =>
    refine yo_none (by omega) e ?_
    rw [lk_text, e_optS]
    refine if_y rfl ?_
    rw [show atI [PV.str (Str.ofString "text"), tx l] 1 = some (tx l) from by rw [T3.atI_nat (by decide)]; rfl, e_optS]
    refine ⟨.inl rfl, if_y (eq_tx.trans (decide_eq_true rfl)) (if_n (fun z => ?_) (q _))⟩
    rw [z, parse_print ok] at e
    cases e
  | some z =>
    obtain ⟨ep, oz⟩ := print_parse e
    refine yo_some (by omega) e ?_
    refine if_n (by decide +kernel) ?_
    refine yo_some (by omega) e ?_
    refine ⟨_, rfl, on_yard rfl oz ?_⟩
    refine ⟨.inl rfl, if_y (eq_tx.trans (decide_eq_true ep)) (q _)⟩
theorem cut_S {l : List Nat} {a b : Option Int} : ∃ m : List Nat, cutS (SX.S l) a b = SX.S m ∧ m.length ≤ l.length := by
  refine ⟨(cutS (SX.S l) a b).cps.toList, rfl, ?_⟩
  have := T3.cutS_len (SX.S l) a b
  rw [len_S] at this
  exact this
theorem b1_r2 (d : Dis ad) (ok : YOk y) {g : List Nat} {at_ : Nat} (hg : g.length ≤ 100) (r : RowAt M ra) (q : ∀ s16 s17 M', RowAt M' ra → D.nx (St ad sc ra y s7 s8 s9 s10 s11 s12 s13 (.val (nP at_)) (.val (tx g)) s16 s17) M') : r2_law ad D (St ad sc ra y s7 s8 s9 s10 s11 s12 s13 (.val (nP at_)) (.val (tx g)) s16 s17) M := by
  have pl := print_le ok
  obtain ⟨u, eu, lu⟩ := cut_S (l := printY y) (a := none) (b := some (at_ : Int))
  obtain ⟨v, ev, lv⟩ := cut_S (l := printY y) (a := some ((at_ : Int) + 1)) (b := none)
  obtain ⟨w, ew, lw⟩ := cut_S (l := printY y) (a := some (at_ : Int)) (b := none)
  simp -implicitDefEqProofs [r2_law]
  rw [eu, ev, ew]
  simp -implicitDefEqProofs only [add_S, len_S, List.length_append]
  refine ⟨by omega, by omega, by omega, by omega, by omega, ?_⟩
  refine pickN r (by simp) (by simp) fun z M1 hz r1 e1 => ?_
  have hz : z = tx (u ++ g ++ v) ∨ z = tx (u ++ v) ∨ z = tx (u ++ g ++ w) := by simpa using hz
  rcases hz with rfl | rfl | rfl
  · exact b1_r1 d ok (by rw [List.length_append, List.length_append]; omega) r1 fun s17 => q _ _ _ r1
  · exact b1_r1 d ok (by rw [List.length_append]; omega) r1 fun s17 => q _ _ _ r1
  · exact b1_r1 d ok (by rw [List.length_append, List.length_append]; omega) r1 fun s17 => q _ _ _ r1
theorem l_19 : (Str.ofString "0123456789abcde -,\n") = SX.S [48, 49, 50, 51, 52, 53, 54, 55, 56, 57, 97, 98, 99, 100, 101, 32, 45, 44, 10] := by decide +kernel
theorem b1_ (d : Dis ad) (ok : YOk y) (r : RowAt M ra) (q : ∀ s14 s15 s16 s17 M', RowAt M' ra → D.nx (St ad sc ra y s7 s8 s9 s10 s11 s12 s13 s14 s15 s16 s17) M') : b1_law ad D (St ad sc ra y s7 s8 s9 s10 s11 s12 s13 s14 s15 s16 s17) M := by
  have pl := print_le ok
  have pn : 0 < (printY y).length := List.length_pos_iff.mpr print_ne
  have gA : (lineT wA ++ [10]).length ≤ 100 := by decide +kernel
  have gB : (lineT wB ++ [10]).length ≤ 100 := by decide +kernel
  rw [b1_law, l_A, l_B, l_19]
  simp -implicitDefEqProofs
  refine takenN r (by omega) (by omega) fun v M1 hv r1 e1 => ?_
  rw [signs_tx]
  refine ⟨by decide +kernel, ?_⟩
  refine pickN r1 (by simp) (by simp) fun z M2 hz r2 e2 => ?_
  have hz : (∃ c, z = tx [c]) ∨ z = tx (lineT wA ++ [10]) ∨ z = tx (lineT wB ++ [10]) := by
    rcases List.mem_append.mp hz with h | h
    · obtain ⟨c, _, rfl⟩ := List.mem_map.mp h
      exact .inl ⟨c, rfl⟩
    · exact .inr (by simpa using h)
  have go : ∀ g : List Nat, g.length ≤ 100 → r2_law ad D (St ad sc ra y s7 s8 s9 s10 s11 s12 s13 (.val (nP v)) (.val (tx g)) s16 s17) M2 := fun g hg => b1_r2 d ok hg r2 fun s16 s17 M' r' => q _ _ _ _ M' r'
  rcases hz with ⟨c, rfl⟩ | rfl | rfl
  · exact go [c] (by simp)
  · exact go _ gA
  · exact go _ gB
theorem b1_loop (d : Dis ad) (ok : YOk y) : ∀ (xs : List PV) (s8 s14 s15 s16 s17 : T3.Slot) (M : Mem) (D : D3), RowAt M ra → (∀ s8 s14 s15 s16 s17 M', RowAt M' ra → D.nx (St ad sc ra y s7 s8 s9 s10 s11 s12 s13 s14 s15 s16 s17) M') → forW (gName3 8) (b1_law ad) D xs (St ad sc ra y s7 s8 s9 s10 s11 s12 s13 s14 s15 s16 s17) M
  | [], s8, s14, s15, s16, s17, M, D, r, q => q _ _ _ _ _ M r
  | x :: xs, s8, s14, s15, s16, s17, M, D, r, q => by
    rw [e_forC]
    show b1_law ad _ (St ad sc ra y s7 (.val x) s9 s10 s11 s12 s13 s14 s15 s16 s17) M
    exact b1_ d ok r fun s14 s15 s16 s17 M' r' => b1_loop d ok xs _ s14 s15 s16 s17 M' D r' q
theorem r10 (d : Dis ad) (ok : YOk y) (r : RowAt M ra) : r10_law ad EL (St ad sc ra y s7 s8 s9 s10 s11 s12 s13 s14 s15 s16 s17) M := by
  simp -implicitDefEqProofs [r10_law]
  refine ⟨by unfold smW; omega, ?_⟩
  exact b1_loop d ok _ _ _ _ _ _ M _ r fun s8 s14 s15 s16 s17 M' r' => r9 d ok r'
theorem r11 (d : Dis ad) (ok : YOk y) (r : RowAt M ra) : r11_law ad EL (St ad sc ra y (.val (yv ad y)) s8 s9 s10 s11 s12 s13 s14 s15 s16 s17) M := by
  have go := r10 (sc := sc) (s7 := .val (yv ad y)) (s8 := s8) (s9 := s9) (s10 := s10) (s11 := s11) (s12 := s12) (s13 := s13) (s14 := s14) (s15 := s15) (s16 := s16) (s17 := s17) d ok r
  simp -implicitDefEqProofs [r11_law]
  exact ⟨.inr ⟨fun h _ => dpt_handP (n := 55), fun b _ => dpt_boatP (n := 56)⟩, ⟨hands_refl, boats_refl⟩, go⟩
theorem r13 (d : Dis ad) (ok : YOk y) (r : RowAt M ra) : r13_law ad EL (St ad sc ra y s7 s8 s9 s10 s11 s12 s13 s14 s15 s16 s17) M := by
  have pl := print_le ok
  simp -implicitDefEqProofs [r13_law]
  refine ⟨_, rfl, on_yard rfl ok ?_⟩
  refine ⟨_, rfl, ?_, ?_⟩
  · rfl
  simp -implicitDefEqProofs [r12_law]
  refine yo_some (by omega) (parse_print ok) ?_
  exact r11 d ok r
theorem rest (d : Dis ad) (ok : YOk y) (r : RowAt M ra) : r14_law ad EL ([.val sc, .val (.raw (.ref ra)), .val (nP y.days), .val (handsL y), .val (boatsL y)] ++ List.replicate 13 .un) M := by
  simp -implicitDefEqProofs [r14_law, List.replicate]
  refine yard_make (y := y) ok rfl rfl ?_
  refine ⟨y, rfl, ok, ?_⟩
  simp -implicitDefEqProofs
  exact r13 d ok r
theorem sem_law (d : Dis ad) {ns : List Int} : t_law ad EL (.val (.lst (ns.map .int)) :: List.replicate 17 .un) (fun _ => none) := by
  simp -implicitDefEqProofs [t_law, List.replicate]
  intro ra
  have r0 : RowAt (Mem.put (fun _ => none) ra (.lst [.lst (ns.map .int), .int 0, .int 111, .int 0])) ra := ⟨ns, 0, 111, 0, Mem.put_same, by decide⟩
  generalize (Mem.put (fun _ => none) ra (.lst [.lst (ns.map .int), .int 0, .int 111, .int 0])) = M0 at r0 ⊢
  simp -implicitDefEqProofs [r15_law]
  refine ⟨ra, 14, rfl, r0, ⟨by decide, by decide⟩, fun y M2 dr r2 e2 => ?_⟩
  show gTup3 3 (gCons3 (gName3 2) (gCons3 (gName3 3) (gCons3 (gName3 4) gNil3))) (.tup [nP y.days, handsL y, boatsL y]) _ M2 _
  rw [e_tup3]
  exact rest d dr.ok r2
end
end K11

namespace K11
open PySem PySem.Spec PyProof.Rows L2 T3 Y
section
variable {Pg : Program} {w : World} {K : PySem.W.Frag} {mg : Str → Option Value} {base h : Heap} {ad : Ad}
/-- every def keeps its promise -/
structure Defs (Pg : Program) (w : World) (K : PySem.W.Frag) (mg : Str → Option Value) (base : Heap) (ad : Ad) : Prop where
  d_is_integer : Def3 Pg w K mg base 1 "is_integer" ["thing"] (sp_is_integer ad)
  d_is_within : Def3 Pg w K mg base 2 "is_within" ["thing", "least", "most"] (sp_is_within ad)
  d_is_row : Def3 Pg w K mg base 1 "is_row" ["thing"] (sp_is_row ad)
  d_is_tuple_of : Def3 Pg w K mg base 1 "is_tuple_of" ["thing", "many"] (sp_is_tuple_of ad)
  d_is_set : Def3 Pg w K mg base 3 "is_set" ["thing", "most"] (sp_is_set ad)
  d_as_count : Def3 Pg w K mg base 1 "as_count" ["word", "most"] (sp_as_count ad)
  d_check_hands : Def3 Pg w K mg base 4 "check_hands" ["days", "hands"] (sp_check_hands ad)
  d_check_boats : Def3 Pg w K mg base 3 "check_boats" ["days", "boats"] (sp_check_boats ad)
  d_Yard___init__ : Cls3 Pg w K mg base 5 "Yard" ad.c_Yard ["self", "days", "hands", "boats"] (sp_Yard___init__ ad)
  d_check_yard : Def3 Pg w K mg base 3 "check_yard" ["yard"] (sp_check_yard ad)
  d_crafts_text : Def3 Pg w K mg base 1 "crafts_text" ["crafts"] (sp_crafts_text ad)
  d_days_text : Def3 Pg w K mg base 1 "days_text" ["days"] (sp_days_text ad)
  d_text_of : Def3 Pg w K mg base 4 "text_of" ["yard"] (sp_text_of ad)
  d_read_crafts : Def3 Pg w K mg base 4 "read_crafts" ["word"] (sp_read_crafts ad)
  d_read_days : Def3 Pg w K mg base 4 "read_days" ["word", "days"] (sp_read_days ad)
  d_read_hand : Def3 Pg w K mg base 5 "read_hand" ["words", "days"] (sp_read_hand ad)
  d_read_boat : Def3 Pg w K mg base 2 "read_boat" ["words", "days"] (sp_read_boat ad)
  d_read_days_line : Def3 Pg w K mg base 2 "read_days_line" ["words"] (sp_read_days_line ad)
  d_yard_of : Def3 Pg w K mg base 7 "yard_of" ["text"] (sp_yard_of ad)
  d__law_taken : Def3 Pg w K mg base 1 "_law_taken" ["row", "many"] (sp__law_taken ad)
  d__law_pick : Def3 Pg w K mg base 2 "_law_pick" ["row", "some"] (sp__law_pick ad)
  d__law_alike : Def3 Pg w K mg base 6 "_law_alike" ["found", "due"] (sp__law_alike4 ad)
  d__law_unlike : Def3 Pg w K mg base 1 "_law_unlike" ["things"] (sp__law_unlike ad)
  d__law_yard_parts : Def3 Pg w K mg base 2 "_law_yard_parts" ["row", "most"] (sp__law_yard_parts ad)
  d__law_bad_yard : Def3 Pg w K mg base 3 "_law_bad_yard" ["row"] (sp__law_bad_yard ad)
  d__law_text : Def3 Pg w K mg base 1 "_law_text" ["days", "hands", "boats"] (sp__law_text ad)
theorem defs (KX : K.In h) (G : h.Ns mainGlobals mg) (g : GL Pg w K mg base ad) {f_is_integer : Addr} (A_is_integer : At3 K "is_integer" s_is_integer f_is_integer) {f_is_within : Addr} (A_is_within : At3 K "is_within" s_is_within f_is_within) {f_is_row : Addr} (A_is_row : At3 K "is_row" s_is_row f_is_row) {f_is_tuple_of : Addr} (A_is_tuple_of : At3 K "is_tuple_of" s_is_tuple_of f_is_tuple_of) {f_is_set : Addr} (A_is_set : At3 K "is_set" s_is_set f_is_set) {f_as_count : Addr} (A_as_count : At3 K "as_count" s_as_count f_as_count) {f_check_hands : Addr} (A_check_hands : At3 K "check_hands" s_check_hands f_check_hands) {f_check_boats : Addr} (A_check_boats : At3 K "check_boats" s_check_boats f_check_boats) {f_Yard___init__ : Addr} (A_Yard___init__ : AtM K ad.c_Yard "__init__" "Yard.__init__" s_Yard___init__ f_Yard___init__) {f_check_yard : Addr} (A_check_yard : At3 K "check_yard" s_check_yard f_check_yard) {f_crafts_text : Addr} (A_crafts_text : At3 K "crafts_text" s_crafts_text f_crafts_text) {f_days_text : Addr} (A_days_text : At3 K "days_text" s_days_text f_days_text) {f_text_of : Addr} (A_text_of : At3 K "text_of" s_text_of f_text_of) {f_read_crafts : Addr} (A_read_crafts : At3 K "read_crafts" s_read_crafts f_read_crafts) {f_read_days : Addr} (A_read_days : At3 K "read_days" s_read_days f_read_days) {f_read_hand : Addr} (A_read_hand : At3 K "read_hand" s_read_hand f_read_hand) {f_read_boat : Addr} (A_read_boat : At3 K "read_boat" s_read_boat f_read_boat) {f_read_days_line : Addr} (A_read_days_line : At3 K "read_days_line" s_read_days_line f_read_days_line) {f_yard_of : Addr} (A_yard_of : At3 K "yard_of" s_yard_of f_yard_of) {f__law_taken : Addr} (A__law_taken : At3 K "_law_taken" s__law_taken f__law_taken) {f__law_pick : Addr} (A__law_pick : At3 K "_law_pick" s__law_pick f__law_pick) {f__law_alike : Addr} (A__law_alike : At3 K "_law_alike" s__law_alike f__law_alike) {f__law_unlike : Addr} (A__law_unlike : At3 K "_law_unlike" s__law_unlike f__law_unlike) {f__law_yard_parts : Addr} (A__law_yard_parts : At3 K "_law_yard_parts" s__law_yard_parts f__law_yard_parts) {f__law_bad_yard : Addr} (A__law_bad_yard : At3 K "_law_bad_yard" s__law_bad_yard f__law_bad_yard) {f__law_text : Addr} (A__law_text : At3 K "_law_text" s__law_text f__law_text) (Z_Yard : AtC K "Yard" ad.c_Yard) : Defs Pg w K mg base ad := by
  have D_is_integer : Def3 Pg w K mg base 1 "is_integer" ["thing"] (sp_is_integer ad) := A_is_integer.ok KX G sc_is_integer (fun xs M Q E h => by unfold sp_is_integer at h; repeat' (first | (obtain ⟨rfl, _⟩ := h; rfl) | (obtain ⟨_, h⟩ := h))) (fun _ _ _ _ _ _ us hl => match us, hl with | [_], _ => rfl) (t := t_is_integer ad) (fun cdv A outer s H E P W hr tk => d_is_integer g  hr tk) sem_is_integer
  have D_is_within : Def3 Pg w K mg base 2 "is_within" ["thing", "least", "most"] (sp_is_within ad) := A_is_within.ok KX G sc_is_within (fun xs M Q E h => by unfold sp_is_within at h; repeat' (first | (obtain ⟨rfl, _⟩ := h; rfl) | (obtain ⟨_, h⟩ := h))) (fun _ _ _ _ _ _ us hl => match us, hl with | [_, _, _], _ => rfl) (t := t_is_within ad) (fun cdv A outer s H E P W hr tk => d_is_within g D_is_integer hr tk) sem_is_within
  have D_is_row : Def3 Pg w K mg base 1 "is_row" ["thing"] (sp_is_row ad) := A_is_row.ok KX G sc_is_row (fun xs M Q E h => by unfold sp_is_row at h; repeat' (first | (obtain ⟨rfl, _⟩ := h; rfl) | (obtain ⟨_, h⟩ := h))) (fun _ _ _ _ _ _ us hl => match us, hl with | [_], _ => rfl) (t := t_is_row ad) (fun cdv A outer s H E P W hr tk => d_is_row g  hr tk) sem_is_row
  have D_is_tuple_of : Def3 Pg w K mg base 1 "is_tuple_of" ["thing", "many"] (sp_is_tuple_of ad) := A_is_tuple_of.ok KX G sc_is_tuple_of (fun xs M Q E h => by unfold sp_is_tuple_of at h; repeat' (first | (obtain ⟨rfl, _⟩ := h; rfl) | (obtain ⟨_, h⟩ := h))) (fun _ _ _ _ _ _ us hl => match us, hl with | [_, _], _ => rfl) (t := t_is_tuple_of ad) (fun cdv A outer s H E P W hr tk => d_is_tuple_of g  hr tk) sem_is_tuple_of
  have D_is_set : Def3 Pg w K mg base 3 "is_set" ["thing", "most"] (sp_is_set ad) := A_is_set.ok KX G sc_is_set (fun xs M Q E h => by unfold sp_is_set at h; repeat' (first | (obtain ⟨rfl, _⟩ := h; rfl) | (obtain ⟨_, h⟩ := h))) (fun _ _ _ _ _ _ us hl => match us, hl with | [_, _], _ => rfl) (t := t_is_set ad) (fun cdv A outer s H E P W hr tk => d_is_set g D_is_within hr tk) sem_is_set
  have D_as_count : Def3 Pg w K mg base 1 "as_count" ["word", "most"] (sp_as_count ad) := A_as_count.ok KX G sc_as_count (fun xs M Q E h => by unfold sp_as_count at h; repeat' (first | (obtain ⟨rfl, _⟩ := h; rfl) | (obtain ⟨_, h⟩ := h))) (fun _ _ _ _ _ _ us hl => match us, hl with | [_, _], _ => rfl) (t := t_as_count ad) (fun cdv A outer s H E P W hr tk => d_as_count g  hr tk) sem_as_count
  have D_check_hands : Def3 Pg w K mg base 4 "check_hands" ["days", "hands"] (sp_check_hands ad) := A_check_hands.ok KX G sc_check_hands (fun xs M Q E h => by unfold sp_check_hands at h; repeat' (first | (obtain ⟨rfl, _⟩ := h; rfl) | (obtain ⟨_, h⟩ := h))) (fun _ _ _ _ _ _ us hl => match us, hl with | [_, _], _ => rfl) (t := t_check_hands ad) (fun cdv A outer s H E P W hr tk => d_check_hands g D_is_row D_is_set D_is_tuple_of hr tk) sem_check_hands
  have D_check_boats : Def3 Pg w K mg base 3 "check_boats" ["days", "boats"] (sp_check_boats ad) := A_check_boats.ok KX G sc_check_boats (fun xs M Q E h => by unfold sp_check_boats at h; repeat' (first | (obtain ⟨rfl, _⟩ := h; rfl) | (obtain ⟨_, h⟩ := h))) (fun _ _ _ _ _ _ us hl => match us, hl with | [_, _], _ => rfl) (t := t_check_boats ad) (fun cdv A outer s H E P W hr tk => d_check_boats g D_is_row D_is_tuple_of D_is_within hr tk) sem_check_boats
  have D_Yard___init__ : Cls3 Pg w K mg base 5 "Yard" ad.c_Yard ["self", "days", "hands", "boats"] (sp_Yard___init__ ad) := A_Yard___init__.cls Z_Yard KX G (A_Yard___init__.fnok sc_Yard___init__ (fun xs M Q E h => by unfold sp_Yard___init__ at h; repeat' (first | (obtain ⟨rfl, _⟩ := h; rfl) | (obtain ⟨_, h⟩ := h))) (fun _ _ _ _ _ _ us hl => match us, hl with | [_, _, _, _], _ => rfl) (t := t_Yard___init__ ad) (fun cdv A outer s H E P W hr tk => d_Yard___init__ g D_check_boats D_check_hands D_is_within hr tk) sem_Yard___init__)
  have D_check_yard : Def3 Pg w K mg base 3 "check_yard" ["yard"] (sp_check_yard ad) := A_check_yard.ok KX G sc_check_yard (fun xs M Q E h => by unfold sp_check_yard at h; repeat' (first | (obtain ⟨rfl, _⟩ := h; rfl) | (obtain ⟨_, h⟩ := h))) (fun _ _ _ _ _ _ us hl => match us, hl with | [_], _ => rfl) (t := t_check_yard ad) (fun cdv A outer s H E P W hr tk => d_check_yard g  hr tk) sem_check_yard
  have D_crafts_text : Def3 Pg w K mg base 1 "crafts_text" ["crafts"] (sp_crafts_text ad) := A_crafts_text.ok KX G sc_crafts_text (fun xs M Q E h => by unfold sp_crafts_text at h; repeat' (first | (obtain ⟨rfl, _⟩ := h; rfl) | (obtain ⟨_, h⟩ := h))) (fun _ _ _ _ _ _ us hl => match us, hl with | [_], _ => rfl) (t := t_crafts_text ad) (fun cdv A outer s H E P W hr tk => d_crafts_text g  hr tk) sem_crafts_text
  have D_days_text : Def3 Pg w K mg base 1 "days_text" ["days"] (sp_days_text ad) := A_days_text.ok KX G sc_days_text (fun xs M Q E h => by unfold sp_days_text at h; repeat' (first | (obtain ⟨rfl, _⟩ := h; rfl) | (obtain ⟨_, h⟩ := h))) (fun _ _ _ _ _ _ us hl => match us, hl with | [_], _ => rfl) (t := t_days_text ad) (fun cdv A outer s H E P W hr tk => d_days_text g  hr tk) sem_days_text
  have D_text_of : Def3 Pg w K mg base 4 "text_of" ["yard"] (sp_text_of ad) := A_text_of.ok KX G sc_text_of (fun xs M Q E h => by unfold sp_text_of at h; repeat' (first | (obtain ⟨rfl, _⟩ := h; rfl) | (obtain ⟨_, h⟩ := h))) (fun _ _ _ _ _ _ us hl => match us, hl with | [_], _ => rfl) (t := t_text_of ad) (fun cdv A outer s H E P W hr tk => d_text_of g D_check_yard D_crafts_text D_days_text hr tk) sem_text_of
  have D_read_crafts : Def3 Pg w K mg base 4 "read_crafts" ["word"] (sp_read_crafts ad) := A_read_crafts.ok KX G sc_read_crafts (fun xs M Q E h => by unfold sp_read_crafts at h; repeat' (first | (obtain ⟨rfl, _⟩ := h; rfl) | (obtain ⟨_, h⟩ := h))) (fun _ _ _ _ _ _ us hl => match us, hl with | [_], _ => rfl) (t := t_read_crafts ad) (fun cdv A outer s H E P W hr tk => d_read_crafts g D_is_set hr tk) sem_read_crafts
  have D_read_days : Def3 Pg w K mg base 4 "read_days" ["word", "days"] (sp_read_days ad) := A_read_days.ok KX G sc_read_days (fun xs M Q E h => by unfold sp_read_days at h; repeat' (first | (obtain ⟨rfl, _⟩ := h; rfl) | (obtain ⟨_, h⟩ := h))) (fun _ _ _ _ _ _ us hl => match us, hl with | [_, _], _ => rfl) (t := t_read_days ad) (fun cdv A outer s H E P W hr tk => d_read_days g D_as_count D_is_set hr tk) sem_read_days
  have D_read_hand : Def3 Pg w K mg base 5 "read_hand" ["words", "days"] (sp_read_hand ad) := A_read_hand.ok KX G sc_read_hand (fun xs M Q E h => by unfold sp_read_hand at h; repeat' (first | (obtain ⟨rfl, _⟩ := h; rfl) | (obtain ⟨_, h⟩ := h))) (fun _ _ _ _ _ _ us hl => match us, hl with | [_, _], _ => rfl) (t := t_read_hand ad) (fun cdv A outer s H E P W hr tk => d_read_hand g D_read_crafts D_read_days hr tk) sem_read_hand
  have D_read_boat : Def3 Pg w K mg base 2 "read_boat" ["words", "days"] (sp_read_boat ad) := A_read_boat.ok KX G sc_read_boat (fun xs M Q E h => by unfold sp_read_boat at h; repeat' (first | (obtain ⟨rfl, _⟩ := h; rfl) | (obtain ⟨_, h⟩ := h))) (fun _ _ _ _ _ _ us hl => match us, hl with | [_, _], _ => rfl) (t := t_read_boat ad) (fun cdv A outer s H E P W hr tk => d_read_boat g D_as_count hr tk) sem_read_boat
  have D_read_days_line : Def3 Pg w K mg base 2 "read_days_line" ["words"] (sp_read_days_line ad) := A_read_days_line.ok KX G sc_read_days_line (fun xs M Q E h => by unfold sp_read_days_line at h; repeat' (first | (obtain ⟨rfl, _⟩ := h; rfl) | (obtain ⟨_, h⟩ := h))) (fun _ _ _ _ _ _ us hl => match us, hl with | [_], _ => rfl) (t := t_read_days_line ad) (fun cdv A outer s H E P W hr tk => d_read_days_line g D_as_count hr tk) sem_read_days_line
  have D_yard_of : Def3 Pg w K mg base 7 "yard_of" ["text"] (sp_yard_of ad) := A_yard_of.ok KX G sc_yard_of (fun xs M Q E h => by unfold sp_yard_of at h; repeat' (first | (obtain ⟨rfl, _⟩ := h; rfl) | (obtain ⟨_, h⟩ := h))) (fun _ _ _ _ _ _ us hl => match us, hl with | [_], _ => rfl) (t := t_yard_of ad) (fun cdv A outer s H E P W hr tk => d_yard_of g D_Yard___init__ D_read_boat D_read_days_line D_read_hand hr tk) sem_yard_of
  have D__law_taken : Def3 Pg w K mg base 1 "_law_taken" ["row", "many"] (sp__law_taken ad) := A__law_taken.ok KX G sc__law_taken (fun xs M Q E h => by unfold sp__law_taken at h; repeat' (first | (obtain ⟨rfl, _⟩ := h; rfl) | (obtain ⟨_, h⟩ := h))) (fun _ _ _ _ _ _ us hl => match us, hl with | [_, _], _ => rfl) (t := t__law_taken ad) (fun cdv A outer s H E P W hr tk => d__law_taken g  hr tk) sem__law_taken
  have D__law_pick : Def3 Pg w K mg base 2 "_law_pick" ["row", "some"] (sp__law_pick ad) := A__law_pick.ok KX G sc__law_pick (fun xs M Q E h => by unfold sp__law_pick at h; repeat' (first | (obtain ⟨rfl, _⟩ := h; rfl) | (obtain ⟨_, h⟩ := h))) (fun _ _ _ _ _ _ us hl => match us, hl with | [_, _], _ => rfl) (t := t__law_pick ad) (fun cdv A outer s H E P W hr tk => d__law_pick g D__law_taken hr tk) sem__law_pick
  have R__law_alike : ∀ n, Def3 Pg w K mg base (n + 1) "_law_alike" ["found", "due"] (sp__law_alike ad n) := fun n => by
    induction n with
    | zero =>
      obtain ⟨fd, F⟩ := A__law_alike.F
      exact def3_mk (PySem.W.mg_of KX G A__law_alike.n) F (F.binds (fun _ _ _ _ _ _ us hl => match us, hl with | [_, _], _ => rfl)) (fn3 F sc__law_alike (fun xs M Q E h => by unfold sp__law_alike at h; repeat' (first | (obtain ⟨rfl, _⟩ := h; rfl) | (obtain ⟨_, h⟩ := h))) fun cdv A outer s H E P xs M Q E3 hsp tk hr => (sp__law_alike_zero hsp).elim)
    | succ n ih => exact A__law_alike.ok KX G sc__law_alike (fun xs M Q E h => by unfold sp__law_alike at h; repeat' (first | (obtain ⟨rfl, _⟩ := h; rfl) | (obtain ⟨_, h⟩ := h))) (fun _ _ _ _ _ _ us hl => match us, hl with | [_, _], _ => rfl) (t := t__law_alike ad n) (fun cdv A outer s H E P W hr tk => d__law_alike g  ih ((show max (n + 1) 0 = n + 1 from by omega) ▸ hr) tk) (sem__law_alike n)
  have D__law_alike : Def3 Pg w K mg base 6 "_law_alike" ["found", "due"] (sp__law_alike4 ad) := R__law_alike 5
  have D__law_unlike : Def3 Pg w K mg base 1 "_law_unlike" ["things"] (sp__law_unlike ad) := A__law_unlike.ok KX G sc__law_unlike (fun xs M Q E h => by unfold sp__law_unlike at h; repeat' (first | (obtain ⟨rfl, _⟩ := h; rfl) | (obtain ⟨_, h⟩ := h))) (fun _ _ _ _ _ _ us hl => match us, hl with | [_], _ => rfl) (t := t__law_unlike ad) (fun cdv A outer s H E P W hr tk => d__law_unlike g  hr tk) sem__law_unlike
  have D__law_yard_parts : Def3 Pg w K mg base 2 "_law_yard_parts" ["row", "most"] (sp__law_yard_parts ad) := A__law_yard_parts.ok KX G sc__law_yard_parts (fun xs M Q E h => by unfold sp__law_yard_parts at h; repeat' (first | (obtain ⟨rfl, _⟩ := h; rfl) | (obtain ⟨_, h⟩ := h))) (fun _ _ _ _ _ _ us hl => match us, hl with | [_, _], _ => rfl) (t := t__law_yard_parts ad) (fun cdv A outer s H E P W hr tk => d__law_yard_parts g D__law_taken D__law_unlike hr tk) sem__law_yard_parts
  have D__law_bad_yard : Def3 Pg w K mg base 3 "_law_bad_yard" ["row"] (sp__law_bad_yard ad) := A__law_bad_yard.ok KX G sc__law_bad_yard (fun xs M Q E h => by unfold sp__law_bad_yard at h; repeat' (first | (obtain ⟨rfl, _⟩ := h; rfl) | (obtain ⟨_, h⟩ := h))) (fun _ _ _ _ _ _ us hl => match us, hl with | [_], _ => rfl) (t := t__law_bad_yard ad) (fun cdv A outer s H E P W hr tk => d__law_bad_yard g D__law_pick hr tk) sem__law_bad_yard
  have D__law_text : Def3 Pg w K mg base 1 "_law_text" ["days", "hands", "boats"] (sp__law_text ad) := A__law_text.ok KX G sc__law_text (fun xs M Q E h => by unfold sp__law_text at h; repeat' (first | (obtain ⟨rfl, _⟩ := h; rfl) | (obtain ⟨_, h⟩ := h))) (fun _ _ _ _ _ _ us hl => match us, hl with | [_, _, _], _ => rfl) (t := t__law_text ad) (fun cdv A outer s H E P W hr tk => d__law_text g  hr tk) sem__law_text
  exact ⟨D_is_integer, D_is_within, D_is_row, D_is_tuple_of, D_is_set, D_as_count, D_check_hands, D_check_boats, D_Yard___init__, D_check_yard, D_crafts_text, D_days_text, D_text_of, D_read_crafts, D_read_days, D_read_hand, D_read_boat, D_read_days_line, D_yard_of, D__law_taken, D__law_pick, D__law_alike, D__law_unlike, D__law_yard_parts, D__law_bad_yard, D__law_text⟩
/-- the words of what is refused -/
theorem refs {g : Addr} (KX : K.In h) (G : h.Ns mainGlobals mg) (A : At3 K "_law_refused" s__law_refused g) (S : Sibs K (words ad)) {i_BadText : Addr} (E_BadText : ErrC K "BadText" ad.c_BadText i_BadText) {i_BadYard : Addr} (E_BadYard : ErrC K "BadYard" ad.c_BadYard i_BadYard) : Ref3 Pg w K mg base (words ad) := by
  obtain ⟨fd, F⟩ := A.F
  obtain ⟨oc, od, kV, doc, pm, an, cdv, ct, osl, rfl, lk, hcd⟩ := F.ex
  refine ⟨?_, g, defArgs s__law_refused, defBody s__law_refused, defScope s__law_refused, .none, kV, doc, pm, cdv, ct, oc, an, od, osl, ["ask", "e"], PySem.W.mg_of KX G A.n, F.kp, lk, hcd, F.binds (fun _ _ _ _ _ _ us hl => match us, hl with | [_], _ => rfl), ⟨rfl, rfl, rfl, by decide +kernel, rfl, by decide +kernel, by decide +kernel⟩, rfl, .inl rfl, ?_⟩
  · intro wd hwd
    simp only [words, List.map_cons, List.map_nil, List.mem_cons, List.not_mem_nil, or_false] at hwd
    rcases hwd with rfl | rfl <;> decide +kernel
  · rintro X rfl rfl rfl rfl rfl
    exact ref_gives (sg := defScope s__law_refused) rfl (by rfl) S fun s H => .cons ⟨by rfl, by decide, .inl (PySem.W.mg_of KX G E_BadText.n)⟩ E_BadText.X E_BadText.nv (.cons ⟨by rfl, by decide, .inl (PySem.W.mg_of KX G E_BadYard.n)⟩ E_BadYard.X E_BadYard.nv (.nil))
theorem gl (KX : K.In h) (G : h.Ns mainGlobals mg) {iE : Addr} (I : ErrI K iE) (n_all : PySem.W.nsIn K mainGlobals "all" = some none) (n_bool : PySem.W.nsIn K mainGlobals "bool" = some none) (n_dict : PySem.W.nsIn K mainGlobals "dict" = some none) (n_enumerate : PySem.W.nsIn K mainGlobals "enumerate" = some none) (n_int : PySem.W.nsIn K mainGlobals "int" = some none) (n_isinstance : PySem.W.nsIn K mainGlobals "isinstance" = some none) (n_len : PySem.W.nsIn K mainGlobals "len" = some none) (n_list : PySem.W.nsIn K mainGlobals "list" = some none) (n_min : PySem.W.nsIn K mainGlobals "min" = some none) (n_range : PySem.W.nsIn K mainGlobals "range" = some none) (n_repr : PySem.W.nsIn K mainGlobals "repr" = some none) (n_sorted : PySem.W.nsIn K mainGlobals "sorted" = some none) (n_str : PySem.W.nsIn K mainGlobals "str" = some none) (n_tuple : PySem.W.nsIn K mainGlobals "tuple" = some none) (n_zip : PySem.W.nsIn K mainGlobals "zip" = some none)  {t_MOST_DAYS : Tok} (c_MOST_DAYS : PySem.W.nsIn K mainGlobals "MOST_DAYS" = some (some (.int 14 t_MOST_DAYS))) {t_MOST_HANDS : Tok} (c_MOST_HANDS : PySem.W.nsIn K mainGlobals "MOST_HANDS" = some (some (.int 8 t_MOST_HANDS))) {t_MOST_BOATS : Tok} (c_MOST_BOATS : PySem.W.nsIn K mainGlobals "MOST_BOATS" = some (some (.int 8 t_MOST_BOATS))) {t_CRAFTS : Tok} (c_CRAFTS : PySem.W.nsIn K mainGlobals "CRAFTS" = some (some (.int 4 t_CRAFTS))) {t_LETTERS : Tok} (c_LETTERS : PySem.W.nsIn K mainGlobals "LETTERS" = some (some (.str "abcd" t_LETTERS))) (E_BadDays : ErrC K "BadDays" ad.c_BadDays iE) (E_BadHands : ErrC K "BadHands" ad.c_BadHands iE) (E_BadBoats : ErrC K "BadBoats" ad.c_BadBoats iE) (E_BadYard : ErrC K "BadYard" ad.c_BadYard iE) (E_BadText : ErrC K "BadText" ad.c_BadText iE) (Z_Yard : AtC K "Yard" ad.c_Yard) (na_Yard_days : NoAttr K ad.c_Yard "days") (na_Yard_hands : NoAttr K ad.c_Yard "hands") (na_Yard_boats : NoAttr K ad.c_Yard "boats") (ic_Yard : IsC K ad.c_Yard)  : GL Pg w K mg base ad :=
  ⟨PySem.W.mg_none_of KX G n_all, PySem.W.mg_none_of KX G n_bool, PySem.W.mg_none_of KX G n_dict, PySem.W.mg_none_of KX G n_enumerate, PySem.W.mg_none_of KX G n_int, PySem.W.mg_none_of KX G n_isinstance, PySem.W.mg_none_of KX G n_len, PySem.W.mg_none_of KX G n_list, PySem.W.mg_none_of KX G n_min, PySem.W.mg_none_of KX G n_range, PySem.W.mg_none_of KX G n_repr, PySem.W.mg_none_of KX G n_sorted, PySem.W.mg_none_of KX G n_str, PySem.W.mg_none_of KX G n_tuple, PySem.W.mg_none_of KX G n_zip, ⟨t_MOST_DAYS, PySem.W.mg_of KX G c_MOST_DAYS⟩, ⟨t_MOST_HANDS, PySem.W.mg_of KX G c_MOST_HANDS⟩, ⟨t_MOST_BOATS, PySem.W.mg_of KX G c_MOST_BOATS⟩, ⟨t_CRAFTS, PySem.W.mg_of KX G c_CRAFTS⟩, ⟨t_LETTERS, PySem.W.mg_of KX G c_LETTERS⟩, E_BadDays.err3 I KX G, E_BadHands.err3 I KX G, E_BadBoats.err3 I KX G, E_BadYard.err3 I KX G, E_BadText.err3 I KX G, Z_Yard.cl, na_Yard_days, na_Yard_hands, na_Yard_boats, ic_Yard, PySem.W.mg_of KX G Z_Yard.n⟩
end
end K11

namespace K11
open PySem PySem.Spec PyProof.Rows L2 T3 Y
abbrev s_err : Stmt := inClass (top 8) 0
theorem errI {K : PySem.W.Frag} {iE TE : Addr} {oc kV doc pm cdv ct ocT : Value} {od an odT : Option Addr} {osl slT : Array (Option Value)} {itT : Array Value} {nT : Nat} (l : K.lookup iE = some ⟨oc, od, .func (PySem.W.fnOf "__init__" "YardError.__init__" (defArgs s_err) (defBody s_err) (defScope s_err) (.ref TE) kV doc pm an cdv ct), osl⟩) (c : PySem.W.codeIn K cdv "YardError.__init__" = true) (t : PySem.W.typeIn K (.ref iE) = some (.type "function"))
    (lT : K.lookup TE = some ⟨ocT, odT, .seq itT nT, slT⟩) (hT : itT = #[.none]) (kE : PySem.W.keepIn K (.ref iE) = true) : ErrI K iE := by
  subst hT
  have F : FunD K "__init__" "YardError.__init__" (defArgs s_err) (defBody s_err) (defScope s_err) [.non] [] iE _ := ⟨⟨oc, od, .ref TE, kV, doc, pm, an, cdv, ct, osl, rfl, l, c, .inr ⟨by simp, TE, _, [.none], nT, rfl, lT, rfl, .cons rfl .nil⟩, .inl rfl⟩, kE⟩
  obtain ⟨ds, v, b⟩ := F.binds1 (ps := ["self", "value"]) 2 1 (by simp) rfl (fun T kV doc pm an cdv ct us its hl hi => match us, its, hl, hi with | [_, _], [_], _, _ => ⟨_, rfl, rfl⟩)
  cases v
  exact ⟨t, fun Pg w mg base => ⟨_, ok_errD l c ⟨rfl, rfl, rfl, by decide +kernel, rfl, by decide +kernel, by decide +kernel⟩ rfl rfl, b⟩⟩
theorem all_mk {Pg : Program} {w : World} {K : PySem.W.Frag} {h : Heap} {mg : Str → Option Value} {fa : Addr} (X : K.In h) (G : h.Ns mainGlobals mg) (hfa : mg "law" = some (.ref fa))
  {C_Yard : Addr}
  {f_is_integer : Addr} {od_is_integer an_is_integer : Option Addr} {sl_is_integer : Array (Option Value)} {oc_is_integer kV_is_integer dc_is_integer pm_is_integer cd_is_integer ct_is_integer : Value}
  {f_is_within : Addr} {od_is_within an_is_within : Option Addr} {sl_is_within : Array (Option Value)} {oc_is_within kV_is_within dc_is_within pm_is_within cd_is_within ct_is_within : Value}
  {f_is_row : Addr} {od_is_row an_is_row : Option Addr} {sl_is_row : Array (Option Value)} {oc_is_row kV_is_row dc_is_row pm_is_row cd_is_row ct_is_row : Value}
  {f_is_tuple_of : Addr} {od_is_tuple_of an_is_tuple_of : Option Addr} {sl_is_tuple_of : Array (Option Value)} {oc_is_tuple_of kV_is_tuple_of dc_is_tuple_of pm_is_tuple_of cd_is_tuple_of ct_is_tuple_of : Value}
  {f_is_set : Addr} {od_is_set an_is_set : Option Addr} {sl_is_set : Array (Option Value)} {oc_is_set kV_is_set dc_is_set pm_is_set cd_is_set ct_is_set : Value}
  {f_as_count : Addr} {od_as_count an_as_count : Option Addr} {sl_as_count : Array (Option Value)} {oc_as_count kV_as_count dc_as_count pm_as_count cd_as_count ct_as_count : Value}
  {f_check_hands : Addr} {od_check_hands an_check_hands : Option Addr} {sl_check_hands : Array (Option Value)} {oc_check_hands kV_check_hands dc_check_hands pm_check_hands cd_check_hands ct_check_hands : Value}
  {f_check_boats : Addr} {od_check_boats an_check_boats : Option Addr} {sl_check_boats : Array (Option Value)} {oc_check_boats kV_check_boats dc_check_boats pm_check_boats cd_check_boats ct_check_boats : Value}
  {f_Yard___init__ : Addr} {od_Yard___init__ an_Yard___init__ : Option Addr} {sl_Yard___init__ : Array (Option Value)} {oc_Yard___init__ kV_Yard___init__ dc_Yard___init__ pm_Yard___init__ cd_Yard___init__ ct_Yard___init__ : Value}
  {f_check_yard : Addr} {od_check_yard an_check_yard : Option Addr} {sl_check_yard : Array (Option Value)} {oc_check_yard kV_check_yard dc_check_yard pm_check_yard cd_check_yard ct_check_yard : Value}
  {f_crafts_text : Addr} {od_crafts_text an_crafts_text : Option Addr} {sl_crafts_text : Array (Option Value)} {oc_crafts_text kV_crafts_text dc_crafts_text pm_crafts_text cd_crafts_text ct_crafts_text : Value}
  {f_days_text : Addr} {od_days_text an_days_text : Option Addr} {sl_days_text : Array (Option Value)} {oc_days_text kV_days_text dc_days_text pm_days_text cd_days_text ct_days_text : Value}
  {f_text_of : Addr} {od_text_of an_text_of : Option Addr} {sl_text_of : Array (Option Value)} {oc_text_of kV_text_of dc_text_of pm_text_of cd_text_of ct_text_of : Value}
  {f_read_crafts : Addr} {od_read_crafts an_read_crafts : Option Addr} {sl_read_crafts : Array (Option Value)} {oc_read_crafts kV_read_crafts dc_read_crafts pm_read_crafts cd_read_crafts ct_read_crafts : Value}
  {f_read_days : Addr} {od_read_days an_read_days : Option Addr} {sl_read_days : Array (Option Value)} {oc_read_days kV_read_days dc_read_days pm_read_days cd_read_days ct_read_days : Value}
  {f_read_hand : Addr} {od_read_hand an_read_hand : Option Addr} {sl_read_hand : Array (Option Value)} {oc_read_hand kV_read_hand dc_read_hand pm_read_hand cd_read_hand ct_read_hand : Value}
  {f_read_boat : Addr} {od_read_boat an_read_boat : Option Addr} {sl_read_boat : Array (Option Value)} {oc_read_boat kV_read_boat dc_read_boat pm_read_boat cd_read_boat ct_read_boat : Value}
  {f_read_days_line : Addr} {od_read_days_line an_read_days_line : Option Addr} {sl_read_days_line : Array (Option Value)} {oc_read_days_line kV_read_days_line dc_read_days_line pm_read_days_line cd_read_days_line ct_read_days_line : Value}
  {f_yard_of : Addr} {od_yard_of an_yard_of : Option Addr} {sl_yard_of : Array (Option Value)} {oc_yard_of kV_yard_of dc_yard_of pm_yard_of cd_yard_of ct_yard_of : Value}
  {f__law_taken : Addr} {od__law_taken an__law_taken : Option Addr} {sl__law_taken : Array (Option Value)} {oc__law_taken kV__law_taken dc__law_taken pm__law_taken cd__law_taken ct__law_taken : Value}
  {f__law_pick : Addr} {od__law_pick an__law_pick : Option Addr} {sl__law_pick : Array (Option Value)} {oc__law_pick kV__law_pick dc__law_pick pm__law_pick cd__law_pick ct__law_pick : Value}
  {f__law_alike : Addr} {od__law_alike an__law_alike : Option Addr} {sl__law_alike : Array (Option Value)} {oc__law_alike kV__law_alike dc__law_alike pm__law_alike cd__law_alike ct__law_alike : Value}
  {f__law_unlike : Addr} {od__law_unlike an__law_unlike : Option Addr} {sl__law_unlike : Array (Option Value)} {oc__law_unlike kV__law_unlike dc__law_unlike pm__law_unlike cd__law_unlike ct__law_unlike : Value}
  {f__law_yard_parts : Addr} {od__law_yard_parts an__law_yard_parts : Option Addr} {sl__law_yard_parts : Array (Option Value)} {oc__law_yard_parts kV__law_yard_parts dc__law_yard_parts pm__law_yard_parts cd__law_yard_parts ct__law_yard_parts : Value}
  {f__law_bad_yard : Addr} {od__law_bad_yard an__law_bad_yard : Option Addr} {sl__law_bad_yard : Array (Option Value)} {oc__law_bad_yard kV__law_bad_yard dc__law_bad_yard pm__law_bad_yard cd__law_bad_yard ct__law_bad_yard : Value}
  {f__law_text : Addr} {od__law_text an__law_text : Option Addr} {sl__law_text : Array (Option Value)} {oc__law_text kV__law_text dc__law_text pm__law_text cd__law_text ct__law_text : Value}
  {f__law_refused : Addr} {od__law_refused an__law_refused : Option Addr} {sl__law_refused : Array (Option Value)} {oc__law_refused kV__law_refused dc__law_refused pm__law_refused cd__law_refused ct__law_refused : Value}
  {f_law : Addr} {od_law an_law : Option Addr} {sl_law : Array (Option Value)} {oc_law kV_law dc_law pm_law  ct_law : Value}
  {cL Pt : Addr} {oc2 : Value} {od2 : Option Addr} {sl2 : Array (Option Value)} {vsL : Array Value}
  {iE TE : Addr} {ocE kVE dcE pmE cdE ctE ocT : Value} {odE anE odT : Option Addr} {slE slT : Array (Option Value)} {itT : Array Value} {nT : Nat}
  {C_BadDays : Addr} {nm_BadDays q_BadDays N_BadDays bs_BadDays bm_BadDays sn_BadDays sub_BadDays ab_BadDays col_BadDays dd_BadDays k0_BadDays k1_BadDays k2_BadDays k3_BadDays k5_BadDays}
  {C_BadHands : Addr} {nm_BadHands q_BadHands N_BadHands bs_BadHands bm_BadHands sn_BadHands sub_BadHands ab_BadHands col_BadHands dd_BadHands k0_BadHands k1_BadHands k2_BadHands k3_BadHands k5_BadHands}
  {C_BadBoats : Addr} {nm_BadBoats q_BadBoats N_BadBoats bs_BadBoats bm_BadBoats sn_BadBoats sub_BadBoats ab_BadBoats col_BadBoats dd_BadBoats k0_BadBoats k1_BadBoats k2_BadBoats k3_BadBoats k5_BadBoats}
  {C_BadYard : Addr} {nm_BadYard q_BadYard N_BadYard bs_BadYard bm_BadYard sn_BadYard sub_BadYard ab_BadYard col_BadYard dd_BadYard k0_BadYard k1_BadYard k2_BadYard k3_BadYard k5_BadYard}
  {C_BadText : Addr} {nm_BadText q_BadText N_BadText bs_BadText bm_BadText sn_BadText sub_BadText ab_BadText col_BadText dd_BadText k0_BadText k1_BadText k2_BadText k3_BadText k5_BadText}
  {t_MOST_DAYS : Tok}
  {t_MOST_HANDS : Tok}
  {t_MOST_BOATS : Tok}
  {t_CRAFTS : Tok}
  {t_LETTERS : Tok}
  (ya_Yard : PySem.W.nsIn K mainGlobals "Yard" = some (some (.ref C_Yard)))
  (yp_Yard : PySem.W.plainGet K C_Yard Str.empty = true)
  (yh_Yard : PySem.W.hasDictIn K C_Yard = true)
  (yo_Yard : PySem.W.plainOver K C_Yard = true)
  (ys_Yard : PySem.W.findIn K (.ref C_Yard) "__setattr__" = some (some (.builtin "object.__setattr__")))
  (ym_Yard : PySem.W.makesIn K C_Yard = true)
  (yk_Yard : PySem.W.keepIn K (.ref C_Yard) = true)
  (yn_Yard_days : PySem.W.findIn K (.ref C_Yard) "days" = some none)
  (yn_Yard_hands : PySem.W.findIn K (.ref C_Yard) "hands" = some none)
  (yn_Yard_boats : PySem.W.findIn K (.ref C_Yard) "boats" = some none)
  (yi1_Yard : PySem.W.findIn K (.ref C_Yard) "__class__" = some (some (.builtin "object.__class__")))
  (yi2_Yard : PySem.W.specialIn K (.builtin "object.__class__") "__get__" = some (some (.builtin "getset_descriptor.__get__")))
  (yi3_Yard : PySem.W.takesIn K (.builtin "object.__class__") = some true)
  (yi4_Yard : PySem.W.mroIn K C_Yard (.type "object") = some true)
  (yt0_Yard : PySem.W.kitOne K (.type "NoneType") (.ref C_Yard) = some false)
  (yt1_Yard : PySem.W.kitOne K (.type "bool") (.ref C_Yard) = some false)
  (yt2_Yard : PySem.W.kitOne K (.type "int") (.ref C_Yard) = some false)
  (yt3_Yard : PySem.W.kitOne K (.type "str") (.ref C_Yard) = some false)
  (yt4_Yard : PySem.W.kitOne K (.type "tuple") (.ref C_Yard) = some false)
  (yt5_Yard : PySem.W.kitOne K (.type "list") (.ref C_Yard) = some false)
  (yt6_Yard : PySem.W.kitOne K (.type "dict") (.ref C_Yard) = some false)
  (a_is_integer : PySem.W.nsIn K mainGlobals "is_integer" = some (some (.ref f_is_integer)))
  (l_is_integer : K.lookup f_is_integer = some ⟨oc_is_integer, od_is_integer, .func (PySem.W.fnOf "is_integer" "is_integer" (defArgs s_is_integer) (defBody s_is_integer) (defScope s_is_integer) .none kV_is_integer dc_is_integer pm_is_integer an_is_integer cd_is_integer ct_is_integer), sl_is_integer⟩)
  (c_is_integer : PySem.W.codeIn K cd_is_integer "is_integer" = true)
  (k_is_integer : PySem.W.keepIn K (.ref f_is_integer) = true)
  (a_is_within : PySem.W.nsIn K mainGlobals "is_within" = some (some (.ref f_is_within)))
  (l_is_within : K.lookup f_is_within = some ⟨oc_is_within, od_is_within, .func (PySem.W.fnOf "is_within" "is_within" (defArgs s_is_within) (defBody s_is_within) (defScope s_is_within) .none kV_is_within dc_is_within pm_is_within an_is_within cd_is_within ct_is_within), sl_is_within⟩)
  (c_is_within : PySem.W.codeIn K cd_is_within "is_within" = true)
  (k_is_within : PySem.W.keepIn K (.ref f_is_within) = true)
  (a_is_row : PySem.W.nsIn K mainGlobals "is_row" = some (some (.ref f_is_row)))
  (l_is_row : K.lookup f_is_row = some ⟨oc_is_row, od_is_row, .func (PySem.W.fnOf "is_row" "is_row" (defArgs s_is_row) (defBody s_is_row) (defScope s_is_row) .none kV_is_row dc_is_row pm_is_row an_is_row cd_is_row ct_is_row), sl_is_row⟩)
  (c_is_row : PySem.W.codeIn K cd_is_row "is_row" = true)
  (k_is_row : PySem.W.keepIn K (.ref f_is_row) = true)
  (a_is_tuple_of : PySem.W.nsIn K mainGlobals "is_tuple_of" = some (some (.ref f_is_tuple_of)))
  (l_is_tuple_of : K.lookup f_is_tuple_of = some ⟨oc_is_tuple_of, od_is_tuple_of, .func (PySem.W.fnOf "is_tuple_of" "is_tuple_of" (defArgs s_is_tuple_of) (defBody s_is_tuple_of) (defScope s_is_tuple_of) .none kV_is_tuple_of dc_is_tuple_of pm_is_tuple_of an_is_tuple_of cd_is_tuple_of ct_is_tuple_of), sl_is_tuple_of⟩)
  (c_is_tuple_of : PySem.W.codeIn K cd_is_tuple_of "is_tuple_of" = true)
  (k_is_tuple_of : PySem.W.keepIn K (.ref f_is_tuple_of) = true)
  (a_is_set : PySem.W.nsIn K mainGlobals "is_set" = some (some (.ref f_is_set)))
  (l_is_set : K.lookup f_is_set = some ⟨oc_is_set, od_is_set, .func (PySem.W.fnOf "is_set" "is_set" (defArgs s_is_set) (defBody s_is_set) (defScope s_is_set) .none kV_is_set dc_is_set pm_is_set an_is_set cd_is_set ct_is_set), sl_is_set⟩)
  (c_is_set : PySem.W.codeIn K cd_is_set "is_set" = true)
  (k_is_set : PySem.W.keepIn K (.ref f_is_set) = true)
  (a_as_count : PySem.W.nsIn K mainGlobals "as_count" = some (some (.ref f_as_count)))
  (l_as_count : K.lookup f_as_count = some ⟨oc_as_count, od_as_count, .func (PySem.W.fnOf "as_count" "as_count" (defArgs s_as_count) (defBody s_as_count) (defScope s_as_count) .none kV_as_count dc_as_count pm_as_count an_as_count cd_as_count ct_as_count), sl_as_count⟩)
  (c_as_count : PySem.W.codeIn K cd_as_count "as_count" = true)
  (k_as_count : PySem.W.keepIn K (.ref f_as_count) = true)
  (a_check_hands : PySem.W.nsIn K mainGlobals "check_hands" = some (some (.ref f_check_hands)))
  (l_check_hands : K.lookup f_check_hands = some ⟨oc_check_hands, od_check_hands, .func (PySem.W.fnOf "check_hands" "check_hands" (defArgs s_check_hands) (defBody s_check_hands) (defScope s_check_hands) .none kV_check_hands dc_check_hands pm_check_hands an_check_hands cd_check_hands ct_check_hands), sl_check_hands⟩)
  (c_check_hands : PySem.W.codeIn K cd_check_hands "check_hands" = true)
  (k_check_hands : PySem.W.keepIn K (.ref f_check_hands) = true)
  (a_check_boats : PySem.W.nsIn K mainGlobals "check_boats" = some (some (.ref f_check_boats)))
  (l_check_boats : K.lookup f_check_boats = some ⟨oc_check_boats, od_check_boats, .func (PySem.W.fnOf "check_boats" "check_boats" (defArgs s_check_boats) (defBody s_check_boats) (defScope s_check_boats) .none kV_check_boats dc_check_boats pm_check_boats an_check_boats cd_check_boats ct_check_boats), sl_check_boats⟩)
  (c_check_boats : PySem.W.codeIn K cd_check_boats "check_boats" = true)
  (k_check_boats : PySem.W.keepIn K (.ref f_check_boats) = true)
  (a_Yard___init__ : PySem.W.findIn K (.ref C_Yard) "__init__" = some (some (.ref f_Yard___init__)))
  (i_Yard___init__ : PySem.W.isFn K (.ref f_Yard___init__) = true)
  (l_Yard___init__ : K.lookup f_Yard___init__ = some ⟨oc_Yard___init__, od_Yard___init__, .func (PySem.W.fnOf "__init__" "Yard.__init__" (defArgs s_Yard___init__) (defBody s_Yard___init__) (defScope s_Yard___init__) .none kV_Yard___init__ dc_Yard___init__ pm_Yard___init__ an_Yard___init__ cd_Yard___init__ ct_Yard___init__), sl_Yard___init__⟩)
  (c_Yard___init__ : PySem.W.codeIn K cd_Yard___init__ "Yard.__init__" = true)
  (k_Yard___init__ : PySem.W.keepIn K (.ref f_Yard___init__) = true)
  (a_check_yard : PySem.W.nsIn K mainGlobals "check_yard" = some (some (.ref f_check_yard)))
  (l_check_yard : K.lookup f_check_yard = some ⟨oc_check_yard, od_check_yard, .func (PySem.W.fnOf "check_yard" "check_yard" (defArgs s_check_yard) (defBody s_check_yard) (defScope s_check_yard) .none kV_check_yard dc_check_yard pm_check_yard an_check_yard cd_check_yard ct_check_yard), sl_check_yard⟩)
  (c_check_yard : PySem.W.codeIn K cd_check_yard "check_yard" = true)
  (k_check_yard : PySem.W.keepIn K (.ref f_check_yard) = true)
  (a_crafts_text : PySem.W.nsIn K mainGlobals "crafts_text" = some (some (.ref f_crafts_text)))
  (l_crafts_text : K.lookup f_crafts_text = some ⟨oc_crafts_text, od_crafts_text, .func (PySem.W.fnOf "crafts_text" "crafts_text" (defArgs s_crafts_text) (defBody s_crafts_text) (defScope s_crafts_text) .none kV_crafts_text dc_crafts_text pm_crafts_text an_crafts_text cd_crafts_text ct_crafts_text), sl_crafts_text⟩)
  (c_crafts_text : PySem.W.codeIn K cd_crafts_text "crafts_text" = true)
  (k_crafts_text : PySem.W.keepIn K (.ref f_crafts_text) = true)
  (a_days_text : PySem.W.nsIn K mainGlobals "days_text" = some (some (.ref f_days_text)))
  (l_days_text : K.lookup f_days_text = some ⟨oc_days_text, od_days_text, .func (PySem.W.fnOf "days_text" "days_text" (defArgs s_days_text) (defBody s_days_text) (defScope s_days_text) .none kV_days_text dc_days_text pm_days_text an_days_text cd_days_text ct_days_text), sl_days_text⟩)
  (c_days_text : PySem.W.codeIn K cd_days_text "days_text" = true)
  (k_days_text : PySem.W.keepIn K (.ref f_days_text) = true)
  (a_text_of : PySem.W.nsIn K mainGlobals "text_of" = some (some (.ref f_text_of)))
  (l_text_of : K.lookup f_text_of = some ⟨oc_text_of, od_text_of, .func (PySem.W.fnOf "text_of" "text_of" (defArgs s_text_of) (defBody s_text_of) (defScope s_text_of) .none kV_text_of dc_text_of pm_text_of an_text_of cd_text_of ct_text_of), sl_text_of⟩)
  (c_text_of : PySem.W.codeIn K cd_text_of "text_of" = true)
  (k_text_of : PySem.W.keepIn K (.ref f_text_of) = true)
  (a_read_crafts : PySem.W.nsIn K mainGlobals "read_crafts" = some (some (.ref f_read_crafts)))
  (l_read_crafts : K.lookup f_read_crafts = some ⟨oc_read_crafts, od_read_crafts, .func (PySem.W.fnOf "read_crafts" "read_crafts" (defArgs s_read_crafts) (defBody s_read_crafts) (defScope s_read_crafts) .none kV_read_crafts dc_read_crafts pm_read_crafts an_read_crafts cd_read_crafts ct_read_crafts), sl_read_crafts⟩)
  (c_read_crafts : PySem.W.codeIn K cd_read_crafts "read_crafts" = true)
  (k_read_crafts : PySem.W.keepIn K (.ref f_read_crafts) = true)
  (a_read_days : PySem.W.nsIn K mainGlobals "read_days" = some (some (.ref f_read_days)))
  (l_read_days : K.lookup f_read_days = some ⟨oc_read_days, od_read_days, .func (PySem.W.fnOf "read_days" "read_days" (defArgs s_read_days) (defBody s_read_days) (defScope s_read_days) .none kV_read_days dc_read_days pm_read_days an_read_days cd_read_days ct_read_days), sl_read_days⟩)
  (c_read_days : PySem.W.codeIn K cd_read_days "read_days" = true)
  (k_read_days : PySem.W.keepIn K (.ref f_read_days) = true)
  (a_read_hand : PySem.W.nsIn K mainGlobals "read_hand" = some (some (.ref f_read_hand)))
  (l_read_hand : K.lookup f_read_hand = some ⟨oc_read_hand, od_read_hand, .func (PySem.W.fnOf "read_hand" "read_hand" (defArgs s_read_hand) (defBody s_read_hand) (defScope s_read_hand) .none kV_read_hand dc_read_hand pm_read_hand an_read_hand cd_read_hand ct_read_hand), sl_read_hand⟩)
  (c_read_hand : PySem.W.codeIn K cd_read_hand "read_hand" = true)
  (k_read_hand : PySem.W.keepIn K (.ref f_read_hand) = true)
  (a_read_boat : PySem.W.nsIn K mainGlobals "read_boat" = some (some (.ref f_read_boat)))
  (l_read_boat : K.lookup f_read_boat = some ⟨oc_read_boat, od_read_boat, .func (PySem.W.fnOf "read_boat" "read_boat" (defArgs s_read_boat) (defBody s_read_boat) (defScope s_read_boat) .none kV_read_boat dc_read_boat pm_read_boat an_read_boat cd_read_boat ct_read_boat), sl_read_boat⟩)
  (c_read_boat : PySem.W.codeIn K cd_read_boat "read_boat" = true)
  (k_read_boat : PySem.W.keepIn K (.ref f_read_boat) = true)
  (a_read_days_line : PySem.W.nsIn K mainGlobals "read_days_line" = some (some (.ref f_read_days_line)))
  (l_read_days_line : K.lookup f_read_days_line = some ⟨oc_read_days_line, od_read_days_line, .func (PySem.W.fnOf "read_days_line" "read_days_line" (defArgs s_read_days_line) (defBody s_read_days_line) (defScope s_read_days_line) .none kV_read_days_line dc_read_days_line pm_read_days_line an_read_days_line cd_read_days_line ct_read_days_line), sl_read_days_line⟩)
  (c_read_days_line : PySem.W.codeIn K cd_read_days_line "read_days_line" = true)
  (k_read_days_line : PySem.W.keepIn K (.ref f_read_days_line) = true)
  (a_yard_of : PySem.W.nsIn K mainGlobals "yard_of" = some (some (.ref f_yard_of)))
  (l_yard_of : K.lookup f_yard_of = some ⟨oc_yard_of, od_yard_of, .func (PySem.W.fnOf "yard_of" "yard_of" (defArgs s_yard_of) (defBody s_yard_of) (defScope s_yard_of) .none kV_yard_of dc_yard_of pm_yard_of an_yard_of cd_yard_of ct_yard_of), sl_yard_of⟩)
  (c_yard_of : PySem.W.codeIn K cd_yard_of "yard_of" = true)
  (k_yard_of : PySem.W.keepIn K (.ref f_yard_of) = true)
  (a__law_taken : PySem.W.nsIn K mainGlobals "_law_taken" = some (some (.ref f__law_taken)))
  (l__law_taken : K.lookup f__law_taken = some ⟨oc__law_taken, od__law_taken, .func (PySem.W.fnOf "_law_taken" "_law_taken" (defArgs s__law_taken) (defBody s__law_taken) (defScope s__law_taken) .none kV__law_taken dc__law_taken pm__law_taken an__law_taken cd__law_taken ct__law_taken), sl__law_taken⟩)
  (c__law_taken : PySem.W.codeIn K cd__law_taken "_law_taken" = true)
  (k__law_taken : PySem.W.keepIn K (.ref f__law_taken) = true)
  (a__law_pick : PySem.W.nsIn K mainGlobals "_law_pick" = some (some (.ref f__law_pick)))
  (l__law_pick : K.lookup f__law_pick = some ⟨oc__law_pick, od__law_pick, .func (PySem.W.fnOf "_law_pick" "_law_pick" (defArgs s__law_pick) (defBody s__law_pick) (defScope s__law_pick) .none kV__law_pick dc__law_pick pm__law_pick an__law_pick cd__law_pick ct__law_pick), sl__law_pick⟩)
  (c__law_pick : PySem.W.codeIn K cd__law_pick "_law_pick" = true)
  (k__law_pick : PySem.W.keepIn K (.ref f__law_pick) = true)
  (a__law_alike : PySem.W.nsIn K mainGlobals "_law_alike" = some (some (.ref f__law_alike)))
  (l__law_alike : K.lookup f__law_alike = some ⟨oc__law_alike, od__law_alike, .func (PySem.W.fnOf "_law_alike" "_law_alike" (defArgs s__law_alike) (defBody s__law_alike) (defScope s__law_alike) .none kV__law_alike dc__law_alike pm__law_alike an__law_alike cd__law_alike ct__law_alike), sl__law_alike⟩)
  (c__law_alike : PySem.W.codeIn K cd__law_alike "_law_alike" = true)
  (k__law_alike : PySem.W.keepIn K (.ref f__law_alike) = true)
  (a__law_unlike : PySem.W.nsIn K mainGlobals "_law_unlike" = some (some (.ref f__law_unlike)))
  (l__law_unlike : K.lookup f__law_unlike = some ⟨oc__law_unlike, od__law_unlike, .func (PySem.W.fnOf "_law_unlike" "_law_unlike" (defArgs s__law_unlike) (defBody s__law_unlike) (defScope s__law_unlike) .none kV__law_unlike dc__law_unlike pm__law_unlike an__law_unlike cd__law_unlike ct__law_unlike), sl__law_unlike⟩)
  (c__law_unlike : PySem.W.codeIn K cd__law_unlike "_law_unlike" = true)
  (k__law_unlike : PySem.W.keepIn K (.ref f__law_unlike) = true)
  (a__law_yard_parts : PySem.W.nsIn K mainGlobals "_law_yard_parts" = some (some (.ref f__law_yard_parts)))
  (l__law_yard_parts : K.lookup f__law_yard_parts = some ⟨oc__law_yard_parts, od__law_yard_parts, .func (PySem.W.fnOf "_law_yard_parts" "_law_yard_parts" (defArgs s__law_yard_parts) (defBody s__law_yard_parts) (defScope s__law_yard_parts) .none kV__law_yard_parts dc__law_yard_parts pm__law_yard_parts an__law_yard_parts cd__law_yard_parts ct__law_yard_parts), sl__law_yard_parts⟩)
  (c__law_yard_parts : PySem.W.codeIn K cd__law_yard_parts "_law_yard_parts" = true)
  (k__law_yard_parts : PySem.W.keepIn K (.ref f__law_yard_parts) = true)
  (a__law_bad_yard : PySem.W.nsIn K mainGlobals "_law_bad_yard" = some (some (.ref f__law_bad_yard)))
  (l__law_bad_yard : K.lookup f__law_bad_yard = some ⟨oc__law_bad_yard, od__law_bad_yard, .func (PySem.W.fnOf "_law_bad_yard" "_law_bad_yard" (defArgs s__law_bad_yard) (defBody s__law_bad_yard) (defScope s__law_bad_yard) .none kV__law_bad_yard dc__law_bad_yard pm__law_bad_yard an__law_bad_yard cd__law_bad_yard ct__law_bad_yard), sl__law_bad_yard⟩)
  (c__law_bad_yard : PySem.W.codeIn K cd__law_bad_yard "_law_bad_yard" = true)
  (k__law_bad_yard : PySem.W.keepIn K (.ref f__law_bad_yard) = true)
  (a__law_text : PySem.W.nsIn K mainGlobals "_law_text" = some (some (.ref f__law_text)))
  (l__law_text : K.lookup f__law_text = some ⟨oc__law_text, od__law_text, .func (PySem.W.fnOf "_law_text" "_law_text" (defArgs s__law_text) (defBody s__law_text) (defScope s__law_text) .none kV__law_text dc__law_text pm__law_text an__law_text cd__law_text ct__law_text), sl__law_text⟩)
  (c__law_text : PySem.W.codeIn K cd__law_text "_law_text" = true)
  (k__law_text : PySem.W.keepIn K (.ref f__law_text) = true)
  (a__law_refused : PySem.W.nsIn K mainGlobals "_law_refused" = some (some (.ref f__law_refused)))
  (l__law_refused : K.lookup f__law_refused = some ⟨oc__law_refused, od__law_refused, .func (PySem.W.fnOf "_law_refused" "_law_refused" (defArgs s__law_refused) (defBody s__law_refused) (defScope s__law_refused) .none kV__law_refused dc__law_refused pm__law_refused an__law_refused cd__law_refused ct__law_refused), sl__law_refused⟩)
  (c__law_refused : PySem.W.codeIn K cd__law_refused "_law_refused" = true)
  (k__law_refused : PySem.W.keepIn K (.ref f__law_refused) = true)
  (a_law : PySem.W.nsIn K mainGlobals "law" = some (some (.ref f_law)))
  (l_law : K.lookup f_law = some ⟨oc_law, od_law, .func (PySem.W.fnOf "law" "law" (defArgs s_law) (defBody s_law) (defScope s_law) .none kV_law dc_law pm_law an_law (.ref cL) ct_law), sl_law⟩)
  (c_law : PySem.W.codeIn K (.ref cL) "law" = true)
  (k_law : PySem.W.keepIn K (.ref f_law) = true)
  (l2 : K.lookup cL = some ⟨oc2, od2, .fields vsL, sl2⟩)
  (p2 : (vsL[11]? : Option Value) = some (.ref Pt))
  (nt : PySem.W.noTabs K = true)
  (ea_BadDays : PySem.W.nsIn K mainGlobals "BadDays" = some (some (.ref C_BadDays)))
  (el_BadDays : K.lookup C_BadDays = some (excClassObj nm_BadDays q_BadDays C_BadDays N_BadDays bs_BadDays bm_BadDays true sn_BadDays sub_BadDays ab_BadDays col_BadDays dd_BadDays k0_BadDays k1_BadDays k2_BadDays k3_BadDays k5_BadDays "ValueError.__new__"))
  (er_BadDays : PySem.HandSPX.refsVE bm_BadDays = true)
  (es_BadDays : PySem.W.findIn K (.ref C_BadDays) "__setattr__" = some (some (.builtin "object.__setattr__")))
  (ex_BadDays : PySem.W.subIn K (.ref C_BadDays) (.type "BaseException") = some true)
  (et_BadDays : PySem.W.typeIn K (.ref C_BadDays) = some (.type "type"))
  (ek_BadDays : PySem.W.keepIn K (.ref C_BadDays) = true)
  (ei_BadDays : PySem.W.findIn K (.ref C_BadDays) "__init__" = some (some (.ref iE)))
  (ev_BadDays : PySem.W.findIn K (.ref C_BadDays) "value" = some none)
  (eg_BadDays : PySem.W.findIn K (.ref C_BadDays) "__getattribute__" = some (some (.builtin "BaseException.__getattribute__")))
  (eh_BadDays : PySem.W.findIn K (.ref C_BadDays) "__getattr__" = some none)
  (ed_BadDays : PySem.W.hasDictIn K C_BadDays = true)
  (ea_BadHands : PySem.W.nsIn K mainGlobals "BadHands" = some (some (.ref C_BadHands)))
  (el_BadHands : K.lookup C_BadHands = some (excClassObj nm_BadHands q_BadHands C_BadHands N_BadHands bs_BadHands bm_BadHands true sn_BadHands sub_BadHands ab_BadHands col_BadHands dd_BadHands k0_BadHands k1_BadHands k2_BadHands k3_BadHands k5_BadHands "ValueError.__new__"))
  (er_BadHands : PySem.HandSPX.refsVE bm_BadHands = true)
  (es_BadHands : PySem.W.findIn K (.ref C_BadHands) "__setattr__" = some (some (.builtin "object.__setattr__")))
  (ex_BadHands : PySem.W.subIn K (.ref C_BadHands) (.type "BaseException") = some true)
  (et_BadHands : PySem.W.typeIn K (.ref C_BadHands) = some (.type "type"))
  (ek_BadHands : PySem.W.keepIn K (.ref C_BadHands) = true)
  (ei_BadHands : PySem.W.findIn K (.ref C_BadHands) "__init__" = some (some (.ref iE)))
  (ev_BadHands : PySem.W.findIn K (.ref C_BadHands) "value" = some none)
  (eg_BadHands : PySem.W.findIn K (.ref C_BadHands) "__getattribute__" = some (some (.builtin "BaseException.__getattribute__")))
  (eh_BadHands : PySem.W.findIn K (.ref C_BadHands) "__getattr__" = some none)
  (ed_BadHands : PySem.W.hasDictIn K C_BadHands = true)
  (ea_BadBoats : PySem.W.nsIn K mainGlobals "BadBoats" = some (some (.ref C_BadBoats)))
  (el_BadBoats : K.lookup C_BadBoats = some (excClassObj nm_BadBoats q_BadBoats C_BadBoats N_BadBoats bs_BadBoats bm_BadBoats true sn_BadBoats sub_BadBoats ab_BadBoats col_BadBoats dd_BadBoats k0_BadBoats k1_BadBoats k2_BadBoats k3_BadBoats k5_BadBoats "ValueError.__new__"))
  (er_BadBoats : PySem.HandSPX.refsVE bm_BadBoats = true)
  (es_BadBoats : PySem.W.findIn K (.ref C_BadBoats) "__setattr__" = some (some (.builtin "object.__setattr__")))
  (ex_BadBoats : PySem.W.subIn K (.ref C_BadBoats) (.type "BaseException") = some true)
  (et_BadBoats : PySem.W.typeIn K (.ref C_BadBoats) = some (.type "type"))
  (ek_BadBoats : PySem.W.keepIn K (.ref C_BadBoats) = true)
  (ei_BadBoats : PySem.W.findIn K (.ref C_BadBoats) "__init__" = some (some (.ref iE)))
  (ev_BadBoats : PySem.W.findIn K (.ref C_BadBoats) "value" = some none)
  (eg_BadBoats : PySem.W.findIn K (.ref C_BadBoats) "__getattribute__" = some (some (.builtin "BaseException.__getattribute__")))
  (eh_BadBoats : PySem.W.findIn K (.ref C_BadBoats) "__getattr__" = some none)
  (ed_BadBoats : PySem.W.hasDictIn K C_BadBoats = true)
  (ea_BadYard : PySem.W.nsIn K mainGlobals "BadYard" = some (some (.ref C_BadYard)))
  (el_BadYard : K.lookup C_BadYard = some (excClassObj nm_BadYard q_BadYard C_BadYard N_BadYard bs_BadYard bm_BadYard true sn_BadYard sub_BadYard ab_BadYard col_BadYard dd_BadYard k0_BadYard k1_BadYard k2_BadYard k3_BadYard k5_BadYard "ValueError.__new__"))
  (er_BadYard : PySem.HandSPX.refsVE bm_BadYard = true)
  (es_BadYard : PySem.W.findIn K (.ref C_BadYard) "__setattr__" = some (some (.builtin "object.__setattr__")))
  (ex_BadYard : PySem.W.subIn K (.ref C_BadYard) (.type "BaseException") = some true)
  (et_BadYard : PySem.W.typeIn K (.ref C_BadYard) = some (.type "type"))
  (ek_BadYard : PySem.W.keepIn K (.ref C_BadYard) = true)
  (ei_BadYard : PySem.W.findIn K (.ref C_BadYard) "__init__" = some (some (.ref iE)))
  (ev_BadYard : PySem.W.findIn K (.ref C_BadYard) "value" = some none)
  (eg_BadYard : PySem.W.findIn K (.ref C_BadYard) "__getattribute__" = some (some (.builtin "BaseException.__getattribute__")))
  (eh_BadYard : PySem.W.findIn K (.ref C_BadYard) "__getattr__" = some none)
  (ed_BadYard : PySem.W.hasDictIn K C_BadYard = true)
  (ea_BadText : PySem.W.nsIn K mainGlobals "BadText" = some (some (.ref C_BadText)))
  (el_BadText : K.lookup C_BadText = some (excClassObj nm_BadText q_BadText C_BadText N_BadText bs_BadText bm_BadText true sn_BadText sub_BadText ab_BadText col_BadText dd_BadText k0_BadText k1_BadText k2_BadText k3_BadText k5_BadText "ValueError.__new__"))
  (er_BadText : PySem.HandSPX.refsVE bm_BadText = true)
  (es_BadText : PySem.W.findIn K (.ref C_BadText) "__setattr__" = some (some (.builtin "object.__setattr__")))
  (ex_BadText : PySem.W.subIn K (.ref C_BadText) (.type "BaseException") = some true)
  (et_BadText : PySem.W.typeIn K (.ref C_BadText) = some (.type "type"))
  (ek_BadText : PySem.W.keepIn K (.ref C_BadText) = true)
  (ei_BadText : PySem.W.findIn K (.ref C_BadText) "__init__" = some (some (.ref iE)))
  (ev_BadText : PySem.W.findIn K (.ref C_BadText) "value" = some none)
  (eg_BadText : PySem.W.findIn K (.ref C_BadText) "__getattribute__" = some (some (.builtin "BaseException.__getattribute__")))
  (eh_BadText : PySem.W.findIn K (.ref C_BadText) "__getattr__" = some none)
  (ed_BadText : PySem.W.hasDictIn K C_BadText = true)
  (lE : K.lookup iE = some ⟨ocE, odE, .func (PySem.W.fnOf "__init__" "YardError.__init__" (defArgs s_err) (defBody s_err) (defScope s_err) (.ref TE) kVE dcE pmE anE cdE ctE), slE⟩)
  (cE : PySem.W.codeIn K cdE "YardError.__init__" = true)
  (tE : PySem.W.typeIn K (.ref iE) = some (.type "function"))
  (lT : K.lookup TE = some ⟨ocT, odT, .seq itT nT, slT⟩)
  (hT : itT = #[.none])
  (kE : PySem.W.keepIn K (.ref iE) = true)
  (x_BadText_BadText : PySem.W.exmOne K (.ref C_BadText) (.ref C_BadText) = some true)
  (x_BadText_BadYard : PySem.W.exmOne K (.ref C_BadText) (.ref C_BadYard) = some false)
  (x_BadYard_BadText : PySem.W.exmOne K (.ref C_BadYard) (.ref C_BadText) = some false)
  (x_BadYard_BadYard : PySem.W.exmOne K (.ref C_BadYard) (.ref C_BadYard) = some true)
  (d_BadText_BadYard : C_BadText ≠ C_BadYard)
  (z_all : PySem.W.nsIn K mainGlobals "all" = some none)
  (z_bool : PySem.W.nsIn K mainGlobals "bool" = some none)
  (z_dict : PySem.W.nsIn K mainGlobals "dict" = some none)
  (z_enumerate : PySem.W.nsIn K mainGlobals "enumerate" = some none)
  (z_int : PySem.W.nsIn K mainGlobals "int" = some none)
  (z_isinstance : PySem.W.nsIn K mainGlobals "isinstance" = some none)
  (z_len : PySem.W.nsIn K mainGlobals "len" = some none)
  (z_list : PySem.W.nsIn K mainGlobals "list" = some none)
  (z_min : PySem.W.nsIn K mainGlobals "min" = some none)
  (z_range : PySem.W.nsIn K mainGlobals "range" = some none)
  (z_repr : PySem.W.nsIn K mainGlobals "repr" = some none)
  (z_sorted : PySem.W.nsIn K mainGlobals "sorted" = some none)
  (z_str : PySem.W.nsIn K mainGlobals "str" = some none)
  (z_tuple : PySem.W.nsIn K mainGlobals "tuple" = some none)
  (z_zip : PySem.W.nsIn K mainGlobals "zip" = some none)
  (q_MOST_DAYS : PySem.W.nsIn K mainGlobals "MOST_DAYS" = some (some (.int 14 t_MOST_DAYS)))
  (q_MOST_HANDS : PySem.W.nsIn K mainGlobals "MOST_HANDS" = some (some (.int 8 t_MOST_HANDS)))
  (q_MOST_BOATS : PySem.W.nsIn K mainGlobals "MOST_BOATS" = some (some (.int 8 t_MOST_BOATS)))
  (q_CRAFTS : PySem.W.nsIn K mainGlobals "CRAFTS" = some (some (.int 4 t_CRAFTS)))
  (q_LETTERS : PySem.W.nsIn K mainGlobals "LETTERS" = some (some (.str "abcd" t_LETTERS))) :
  ∃ (c Pt : Addr) (prm : Arguments) (bd : List Stmt) (sc : Scope) (N : List Str) (dV kV doc pm ct oc : Value) (an od : Option Addr) (osl : Array (Option Value)), PySem.W.noTabs K = true ∧ PySem.W.tabIn K "law" = some (c, Pt) ∧
    K.lookup fa = some ⟨oc, od, .func (PySem.W.fnOf "law" "law" prm bd sc dV kV doc pm an (.ref c) ct), osl⟩ ∧ PySem.W.codeIn K (.ref c) "law" = true ∧
    (∀ (s : Shared) (u : Value), BindsTo s (PySem.W.fnOf "law" "law" prm bd sc dV kV doc pm an (.ref c) ct) ⟨[u], []⟩ [("script", u)]) ∧ Law4 Pg w K mg 63 fa c Pt sc N bd := by
  have e := hfa.symm.trans (PySem.W.mg_of X G a_law)
  cases e
  refine ⟨cL, Pt, defArgs s_law, defBody s_law, defScope s_law, N_law, .none, kV_law, dc_law, pm_law, ct_law, oc_law, an_law, od_law, sl_law, nt, tabIn_of a_law l_law rfl l2 p2, l_law, c_law, fun s v => .of_eq rfl, sc_law, fun base s H ns P KB GB TB hP hDE hl hb => ?_⟩
  let ad : Ad := ⟨iE, C_BadDays, C_BadHands, C_BadBoats, C_BadYard, 0, 0, 0, 0, 0, 0, 0, 0, 0, 0, 0, C_BadText, 0, 0, C_Yard, 0, 0, 0, 0, 0, 0, 0, 0, 0, 0, 0, 0, 0, 0, 0, 0, 0, 0, 0, 0, 0, 0, 0, 0, 0, 0, 0, 0, 0, 0, 0, 0, 0, 0, 0, 0⟩
  have I : ErrI K iE := errI lE cE tE lT hT kE
  have E_BadDays : ErrC K "BadDays" ad.c_BadDays iE := errC_mk ea_BadDays el_BadDays er_BadDays es_BadDays ex_BadDays et_BadDays ek_BadDays ei_BadDays ev_BadDays eg_BadDays eh_BadDays ed_BadDays
  have E_BadHands : ErrC K "BadHands" ad.c_BadHands iE := errC_mk ea_BadHands el_BadHands er_BadHands es_BadHands ex_BadHands et_BadHands ek_BadHands ei_BadHands ev_BadHands eg_BadHands eh_BadHands ed_BadHands
  have E_BadBoats : ErrC K "BadBoats" ad.c_BadBoats iE := errC_mk ea_BadBoats el_BadBoats er_BadBoats es_BadBoats ex_BadBoats et_BadBoats ek_BadBoats ei_BadBoats ev_BadBoats eg_BadBoats eh_BadBoats ed_BadBoats
  have E_BadYard : ErrC K "BadYard" ad.c_BadYard iE := errC_mk ea_BadYard el_BadYard er_BadYard es_BadYard ex_BadYard et_BadYard ek_BadYard ei_BadYard ev_BadYard eg_BadYard eh_BadYard ed_BadYard
  have E_BadText : ErrC K "BadText" ad.c_BadText iE := errC_mk ea_BadText el_BadText er_BadText es_BadText ex_BadText et_BadText ek_BadText ei_BadText ev_BadText eg_BadText eh_BadText ed_BadText
  have A_is_integer : At3 K "is_integer" s_is_integer f_is_integer := at3_mk a_is_integer l_is_integer c_is_integer k_is_integer
  have A_is_within : At3 K "is_within" s_is_within f_is_within := at3_mk a_is_within l_is_within c_is_within k_is_within
  have A_is_row : At3 K "is_row" s_is_row f_is_row := at3_mk a_is_row l_is_row c_is_row k_is_row
  have A_is_tuple_of : At3 K "is_tuple_of" s_is_tuple_of f_is_tuple_of := at3_mk a_is_tuple_of l_is_tuple_of c_is_tuple_of k_is_tuple_of
  have A_is_set : At3 K "is_set" s_is_set f_is_set := at3_mk a_is_set l_is_set c_is_set k_is_set
  have A_as_count : At3 K "as_count" s_as_count f_as_count := at3_mk a_as_count l_as_count c_as_count k_as_count
  have A_check_hands : At3 K "check_hands" s_check_hands f_check_hands := at3_mk a_check_hands l_check_hands c_check_hands k_check_hands
  have A_check_boats : At3 K "check_boats" s_check_boats f_check_boats := at3_mk a_check_boats l_check_boats c_check_boats k_check_boats
  have A_Yard___init__ : AtM K ad.c_Yard "__init__" "Yard.__init__" s_Yard___init__ f_Yard___init__ := atM_mk a_Yard___init__ i_Yard___init__ l_Yard___init__ c_Yard___init__ k_Yard___init__
  have A_check_yard : At3 K "check_yard" s_check_yard f_check_yard := at3_mk a_check_yard l_check_yard c_check_yard k_check_yard
  have A_crafts_text : At3 K "crafts_text" s_crafts_text f_crafts_text := at3_mk a_crafts_text l_crafts_text c_crafts_text k_crafts_text
  have A_days_text : At3 K "days_text" s_days_text f_days_text := at3_mk a_days_text l_days_text c_days_text k_days_text
  have A_text_of : At3 K "text_of" s_text_of f_text_of := at3_mk a_text_of l_text_of c_text_of k_text_of
  have A_read_crafts : At3 K "read_crafts" s_read_crafts f_read_crafts := at3_mk a_read_crafts l_read_crafts c_read_crafts k_read_crafts
  have A_read_days : At3 K "read_days" s_read_days f_read_days := at3_mk a_read_days l_read_days c_read_days k_read_days
  have A_read_hand : At3 K "read_hand" s_read_hand f_read_hand := at3_mk a_read_hand l_read_hand c_read_hand k_read_hand
  have A_read_boat : At3 K "read_boat" s_read_boat f_read_boat := at3_mk a_read_boat l_read_boat c_read_boat k_read_boat
  have A_read_days_line : At3 K "read_days_line" s_read_days_line f_read_days_line := at3_mk a_read_days_line l_read_days_line c_read_days_line k_read_days_line
  have A_yard_of : At3 K "yard_of" s_yard_of f_yard_of := at3_mk a_yard_of l_yard_of c_yard_of k_yard_of
  have A__law_taken : At3 K "_law_taken" s__law_taken f__law_taken := at3_mk a__law_taken l__law_taken c__law_taken k__law_taken
  have A__law_pick : At3 K "_law_pick" s__law_pick f__law_pick := at3_mk a__law_pick l__law_pick c__law_pick k__law_pick
  have A__law_alike : At3 K "_law_alike" s__law_alike f__law_alike := at3_mk a__law_alike l__law_alike c__law_alike k__law_alike
  have A__law_unlike : At3 K "_law_unlike" s__law_unlike f__law_unlike := at3_mk a__law_unlike l__law_unlike c__law_unlike k__law_unlike
  have A__law_yard_parts : At3 K "_law_yard_parts" s__law_yard_parts f__law_yard_parts := at3_mk a__law_yard_parts l__law_yard_parts c__law_yard_parts k__law_yard_parts
  have A__law_bad_yard : At3 K "_law_bad_yard" s__law_bad_yard f__law_bad_yard := at3_mk a__law_bad_yard l__law_bad_yard c__law_bad_yard k__law_bad_yard
  have A__law_text : At3 K "_law_text" s__law_text f__law_text := at3_mk a__law_text l__law_text c__law_text k__law_text
  have A__law_refused : At3 K "_law_refused" s__law_refused f__law_refused := at3_mk a__law_refused l__law_refused c__law_refused k__law_refused
  have Z_Yard : AtC K "Yard" ad.c_Yard := ⟨ya_Yard, ym_Yard, yk_Yard, ⟨yp_Yard, yh_Yard, yo_Yard, ys_Yard⟩⟩
  have ic_Yard : IsC K ad.c_Yard := ⟨Z_Yard.cl, yi1_Yard, yi2_Yard, yi3_Yard, yi4_Yard, yt0_Yard, yt1_Yard, yt2_Yard, yt3_Yard, yt4_Yard, yt5_Yard, yt6_Yard⟩
  have S : Sibs K (words ad) := by
    intro C C' hC hC'
    simp only [words, List.map_cons, List.map_nil, List.mem_cons, List.not_mem_nil, or_false] at hC hC'
    rcases hC with e1 | e1 <;> rcases hC' with e2 | e2 <;> rw [e1, e2]
    · exact x_BadText_BadText.trans (congrArg some (decide_eq_true rfl).symm)
    · exact x_BadText_BadYard.trans (congrArg some (decide_eq_false (show ¬ ad.c_BadText = ad.c_BadYard from d_BadText_BadYard)).symm)
    · exact x_BadYard_BadText.trans (congrArg some (decide_eq_false (show ¬ ad.c_BadYard = ad.c_BadText from d_BadText_BadYard.symm)).symm)
    · exact x_BadYard_BadYard.trans (congrArg some (decide_eq_true rfl).symm)
  have g : GL Pg w K mg base ad := gl KB GB I z_all z_bool z_dict z_enumerate z_int z_isinstance z_len z_list z_min z_range z_repr z_sorted z_str z_tuple z_zip q_MOST_DAYS q_MOST_HANDS q_MOST_BOATS q_CRAFTS q_LETTERS E_BadDays E_BadHands E_BadBoats E_BadYard E_BadText Z_Yard yn_Yard_days yn_Yard_hands yn_Yard_boats ic_Yard
  have DD : Defs Pg w K mg base ad := defs KB GB g A_is_integer A_is_within A_is_row A_is_tuple_of A_is_set A_as_count A_check_hands A_check_boats A_Yard___init__ A_check_yard A_crafts_text A_days_text A_text_of A_read_crafts A_read_days A_read_hand A_read_boat A_read_days_line A_yard_of A__law_taken A__law_pick A__law_alike A__law_unlike A__law_yard_parts A__law_bad_yard A__law_text Z_Yard
  have RR : Ref3 Pg w K mg base (words ad) := refs KB GB A__law_refused S E_BadText E_BadYard

  have hr : Room 20 (cxOf (L2.CX Pg w) Pg w K mg base N_law "law" (defScope s_law) fa (.ref cL) callerA [] s H (fun _ _ _ => False)).A := Room.deeper (k := 20) ⟨rfl, by decide, by decide⟩ _
  refine ⟨t_law ad, d_law g DD.d_Yard___init__ DD.d__law_alike DD.d__law_bad_yard DD.d__law_pick DD.d__law_taken DD.d__law_text DD.d__law_yard_parts DD.d_text_of DD.d_yard_of  RR hP hDE TB (hr.mono (by decide)), ?_⟩
  exact sem_law ⟨d_BadText_BadYard⟩
end K11

open PySem PySem.W PyProof.Rows in
set_option maxRecDepth 100000 in
set_option maxHeartbeats 0 in
theorem PySem.Challenge.cw_slipways_k11_whole_texts_holds : PySem.Challenge.rw_slipways_k11_whole_texts.Holds := by
  w_on; o_law; k_head; (case hw => w_witness2)
  k_fill
  refine T3.walk4 (l := PySem.Challenge.rw_slipways_k11_whole_texts) (n := 63) (k := 20) rfl (by decide) rfl ⟨rfl, by decide, by decide⟩ rfl (by rfl) (fun w h Y => PySem.W.km_in_of Y) ?F
  case F =>
    intro w mg fa h KX G hmg
    refine' K11.all_mk KX G hmg ?ya_Yard ?yp_Yard ?yh_Yard ?yo_Yard ?ys_Yard ?ym_Yard ?yk_Yard ?yn_Yard_days ?yn_Yard_hands ?yn_Yard_boats ?yi1_Yard ?yi2_Yard ?yi3_Yard ?yi4_Yard ?yt0_Yard ?yt1_Yard ?yt2_Yard ?yt3_Yard ?yt4_Yard ?yt5_Yard ?yt6_Yard ?a_is_integer ?l_is_integer ?c_is_integer ?k_is_integer ?a_is_within ?l_is_within ?c_is_within ?k_is_within ?a_is_row ?l_is_row ?c_is_row ?k_is_row ?a_is_tuple_of ?l_is_tuple_of ?c_is_tuple_of ?k_is_tuple_of ?a_is_set ?l_is_set ?c_is_set ?k_is_set ?a_as_count ?l_as_count ?c_as_count ?k_as_count ?a_check_hands ?l_check_hands ?c_check_hands ?k_check_hands ?a_check_boats ?l_check_boats ?c_check_boats ?k_check_boats ?a_Yard___init__ ?i_Yard___init__ ?l_Yard___init__ ?c_Yard___init__ ?k_Yard___init__ ?a_check_yard ?l_check_yard ?c_check_yard ?k_check_yard ?a_crafts_text ?l_crafts_text ?c_crafts_text ?k_crafts_text ?a_days_text ?l_days_text ?c_days_text ?k_days_text ?a_text_of ?l_text_of ?c_text_of ?k_text_of ?a_read_crafts ?l_read_crafts ?c_read_crafts ?k_read_crafts ?a_read_days ?l_read_days ?c_read_days ?k_read_days ?a_read_hand ?l_read_hand ?c_read_hand ?k_read_hand ?a_read_boat ?l_read_boat ?c_read_boat ?k_read_boat ?a_read_days_line ?l_read_days_line ?c_read_days_line ?k_read_days_line ?a_yard_of ?l_yard_of ?c_yard_of ?k_yard_of ?a__law_taken ?l__law_taken ?c__law_taken ?k__law_taken ?a__law_pick ?l__law_pick ?c__law_pick ?k__law_pick ?a__law_alike ?l__law_alike ?c__law_alike ?k__law_alike ?a__law_unlike ?l__law_unlike ?c__law_unlike ?k__law_unlike ?a__law_yard_parts ?l__law_yard_parts ?c__law_yard_parts ?k__law_yard_parts ?a__law_bad_yard ?l__law_bad_yard ?c__law_bad_yard ?k__law_bad_yard ?a__law_text ?l__law_text ?c__law_text ?k__law_text ?a__law_refused ?l__law_refused ?c__law_refused ?k__law_refused ?a_law ?l_law ?c_law ?k_law ?l2 ?p2 ?nt ?ea_BadDays ?el_BadDays ?er_BadDays ?es_BadDays ?ex_BadDays ?et_BadDays ?ek_BadDays ?ei_BadDays ?ev_BadDays ?eg_BadDays ?eh_BadDays ?ed_BadDays ?ea_BadHands ?el_BadHands ?er_BadHands ?es_BadHands ?ex_BadHands ?et_BadHands ?ek_BadHands ?ei_BadHands ?ev_BadHands ?eg_BadHands ?eh_BadHands ?ed_BadHands ?ea_BadBoats ?el_BadBoats ?er_BadBoats ?es_BadBoats ?ex_BadBoats ?et_BadBoats ?ek_BadBoats ?ei_BadBoats ?ev_BadBoats ?eg_BadBoats ?eh_BadBoats ?ed_BadBoats ?ea_BadYard ?el_BadYard ?er_BadYard ?es_BadYard ?ex_BadYard ?et_BadYard ?ek_BadYard ?ei_BadYard ?ev_BadYard ?eg_BadYard ?eh_BadYard ?ed_BadYard ?ea_BadText ?el_BadText ?er_BadText ?es_BadText ?ex_BadText ?et_BadText ?ek_BadText ?ei_BadText ?ev_BadText ?eg_BadText ?eh_BadText ?ed_BadText ?lE ?cE ?tE ?lT ?hT ?kE ?x_BadText_BadText ?x_BadText_BadYard ?x_BadYard_BadText ?x_BadYard_BadYard ?d_BadText_BadYard ?z_all ?z_bool ?z_dict ?z_enumerate ?z_int ?z_isinstance ?z_len ?z_list ?z_min ?z_range ?z_repr ?z_sorted ?z_str ?z_tuple ?z_zip ?q_MOST_DAYS ?q_MOST_HANDS ?q_MOST_BOATS ?q_CRAFTS ?q_LETTERS
    (case ya_Yard => k_is)
    (case yp_Yard => k_is)
    (case yh_Yard => k_is)
    (case yo_Yard => k_is)
    (case ys_Yard => k_is)
    (case ym_Yard => k_is)
    (case yk_Yard => k_is)
    (case yn_Yard_days => k_is)
    (case yn_Yard_hands => k_is)
    (case yn_Yard_boats => k_is)
    (case yi1_Yard => k_is)
    (case yi2_Yard => k_is)
    (case yi3_Yard => k_is)
    (case yi4_Yard => k_is)
    (case yt0_Yard => kernel_rfl)
    (case yt1_Yard => kernel_rfl)
    (case yt2_Yard => kernel_rfl)
    (case yt3_Yard => kernel_rfl)
    (case yt4_Yard => kernel_rfl)
    (case yt5_Yard => kernel_rfl)
    (case yt6_Yard => kernel_rfl)
    (case a_is_integer => k_is)
    (case l_is_integer => k_is)
    (case c_is_integer => k_is)
    (case k_is_integer => k_is)
    (case a_is_within => k_is)
    (case l_is_within => k_is)
    (case c_is_within => k_is)
    (case k_is_within => k_is)
    (case a_is_row => k_is)
    (case l_is_row => k_is)
    (case c_is_row => k_is)
    (case k_is_row => k_is)
    (case a_is_tuple_of => k_is)
    (case l_is_tuple_of => k_is)
    (case c_is_tuple_of => k_is)
    (case k_is_tuple_of => k_is)
    (case a_is_set => k_is)
    (case l_is_set => k_is)
    (case c_is_set => k_is)
    (case k_is_set => k_is)
    (case a_as_count => k_is)
    (case l_as_count => k_is)
    (case c_as_count => k_is)
    (case k_as_count => k_is)
    (case a_check_hands => k_is)
    (case l_check_hands => k_is)
    (case c_check_hands => k_is)
    (case k_check_hands => k_is)
    (case a_check_boats => k_is)
    (case l_check_boats => k_is)
    (case c_check_boats => k_is)
    (case k_check_boats => k_is)
    (case a_Yard___init__ => k_is)
    (case i_Yard___init__ => k_is)
    (case l_Yard___init__ => k_is)
    (case c_Yard___init__ => k_is)
    (case k_Yard___init__ => k_is)
    (case a_check_yard => k_is)
    (case l_check_yard => k_is)
    (case c_check_yard => k_is)
    (case k_check_yard => k_is)
    (case a_crafts_text => k_is)
    (case l_crafts_text => k_is)
    (case c_crafts_text => k_is)
    (case k_crafts_text => k_is)
    (case a_days_text => k_is)
    (case l_days_text => k_is)
    (case c_days_text => k_is)
    (case k_days_text => k_is)
    (case a_text_of => k_is)
    (case l_text_of => k_is)
    (case c_text_of => k_is)
    (case k_text_of => k_is)
    (case a_read_crafts => k_is)
    (case l_read_crafts => k_is)
    (case c_read_crafts => k_is)
    (case k_read_crafts => k_is)
    (case a_read_days => k_is)
    (case l_read_days => k_is)
    (case c_read_days => k_is)
    (case k_read_days => k_is)
    (case a_read_hand => k_is)
    (case l_read_hand => k_is)
    (case c_read_hand => k_is)
    (case k_read_hand => k_is)
    (case a_read_boat => k_is)
    (case l_read_boat => k_is)
    (case c_read_boat => k_is)
    (case k_read_boat => k_is)
    (case a_read_days_line => k_is)
    (case l_read_days_line => k_is)
    (case c_read_days_line => k_is)
    (case k_read_days_line => k_is)
    (case a_yard_of => k_is)
    (case l_yard_of => k_is)
    (case c_yard_of => k_is)
    (case k_yard_of => k_is)
    (case a__law_taken => k_is)
    (case l__law_taken => k_is)
    (case c__law_taken => k_is)
    (case k__law_taken => k_is)
    (case a__law_pick => k_is)
    (case l__law_pick => k_is)
    (case c__law_pick => k_is)
    (case k__law_pick => k_is)
    (case a__law_alike => k_is)
    (case l__law_alike => k_is)
    (case c__law_alike => k_is)
    (case k__law_alike => k_is)
    (case a__law_unlike => k_is)
    (case l__law_unlike => k_is)
    (case c__law_unlike => k_is)
    (case k__law_unlike => k_is)
    (case a__law_yard_parts => k_is)
    (case l__law_yard_parts => k_is)
    (case c__law_yard_parts => k_is)
    (case k__law_yard_parts => k_is)
    (case a__law_bad_yard => k_is)
    (case l__law_bad_yard => k_is)
    (case c__law_bad_yard => k_is)
    (case k__law_bad_yard => k_is)
    (case a__law_text => k_is)
    (case l__law_text => k_is)
    (case c__law_text => k_is)
    (case k__law_text => k_is)
    (case a__law_refused => k_is)
    (case l__law_refused => k_is)
    (case c__law_refused => k_is)
    (case k__law_refused => k_is)
    (case a_law => k_is)
    (case l_law => k_is)
    (case c_law => k_is)
    (case k_law => k_is)
    (case l2 => k_is)
    (case p2 => rfl)
    (case nt => kernel_rfl)
    (case ea_BadDays => k_is)
    (case el_BadDays => k_is)
    (case er_BadDays => rfl)
    (case es_BadDays => k_is)
    (case ex_BadDays => k_is)
    (case et_BadDays => k_is)
    (case ek_BadDays => k_is)
    (case ei_BadDays => k_is)
    (case ev_BadDays => k_is)
    (case eg_BadDays => k_is)
    (case eh_BadDays => k_is)
    (case ed_BadDays => k_is)
    (case ea_BadHands => k_is)
    (case el_BadHands => k_is)
    (case er_BadHands => rfl)
    (case es_BadHands => k_is)
    (case ex_BadHands => k_is)
    (case et_BadHands => k_is)
    (case ek_BadHands => k_is)
    (case ei_BadHands => k_is)
    (case ev_BadHands => k_is)
    (case eg_BadHands => k_is)
    (case eh_BadHands => k_is)
    (case ed_BadHands => k_is)
    (case ea_BadBoats => k_is)
    (case el_BadBoats => k_is)
    (case er_BadBoats => rfl)
    (case es_BadBoats => k_is)
    (case ex_BadBoats => k_is)
    (case et_BadBoats => k_is)
    (case ek_BadBoats => k_is)
    (case ei_BadBoats => k_is)
    (case ev_BadBoats => k_is)
    (case eg_BadBoats => k_is)
    (case eh_BadBoats => k_is)
    (case ed_BadBoats => k_is)
    (case ea_BadYard => k_is)
    (case el_BadYard => k_is)
    (case er_BadYard => rfl)
    (case es_BadYard => k_is)
    (case ex_BadYard => k_is)
    (case et_BadYard => k_is)
    (case ek_BadYard => k_is)
    (case ei_BadYard => k_is)
    (case ev_BadYard => k_is)
    (case eg_BadYard => k_is)
    (case eh_BadYard => k_is)
    (case ed_BadYard => k_is)
    (case ea_BadText => k_is)
    (case el_BadText => k_is)
    (case er_BadText => rfl)
    (case es_BadText => k_is)
    (case ex_BadText => k_is)
    (case et_BadText => k_is)
    (case ek_BadText => k_is)
    (case ei_BadText => k_is)
    (case ev_BadText => k_is)
    (case eg_BadText => k_is)
    (case eh_BadText => k_is)
    (case ed_BadText => k_is)
    (case lE => k_is)
    (case cE => k_is)
    (case tE => k_is)
    (case lT => k_is)
    (case hT => rfl)
    (case kE => k_is)
    (case x_BadText_BadText => kernel_rfl)
    (case x_BadText_BadYard => kernel_rfl)
    (case x_BadYard_BadText => kernel_rfl)
    (case x_BadYard_BadYard => kernel_rfl)
    (case d_BadText_BadYard => decide)
    (case z_all => k_is)
    (case z_bool => k_is)
    (case z_dict => k_is)
    (case z_enumerate => k_is)
    (case z_int => k_is)
    (case z_isinstance => k_is)
    (case z_len => k_is)
    (case z_list => k_is)
    (case z_min => k_is)
    (case z_range => k_is)
    (case z_repr => k_is)
    (case z_sorted => k_is)
    (case z_str => k_is)
    (case z_tuple => k_is)
    (case z_zip => k_is)
    (case q_MOST_DAYS => k_is)
    (case q_MOST_HANDS => k_is)
    (case q_MOST_BOATS => k_is)
    (case q_CRAFTS => k_is)
    (case q_LETTERS => k_is)
#print axioms PySem.Challenge.cw_slipways_k11_whole_texts_holds

