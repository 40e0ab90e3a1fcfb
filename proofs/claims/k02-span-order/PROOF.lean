import PyProof.Rows.All
import Wide.All
import OpenK.AllK
import Wide.FinOn
import HandS.ForMost
import HandS.ForExc
import HandS.TupAny
import HandS.FStr
import HandS.ClsMeth
import HandS.Deep
import HandS.TupLe
import HandS.IsInst
import PySem.Challenge.RW_piecefinds_k02_span_order
set_option Elab.async false
set_option linter.all false
set_option maxRecDepth 100000
set_option maxHeartbeats 4000000
/-! GA: plain data, the frozen world, an evaluator of a part of Python over plain data. -/
namespace G
open PySem L2

/-! ### 1. data -/
inductive D where
  | non | bl (b : Bool) | int (i : Int) | str (s : List Nat)
  | tup (l : List D) | lst (l : List D) | obj (c : Nat) (l : List D) | scr (l : List Int)
  | dt (ks : List (List Key)) (vs : List D) | cache (m : D)

abbrev Sx (l : List Nat) : Str := ⟨l.toArray⟩

mutual
def D.py : D → PyData
  | .non => .none
  | .bl b => .bool b
  | .int i => .int i
  | .str s => .str (Sx s)
  | .tup l => .tuple (D.pyL l)
  | .lst l => .list (D.pyL l)
  | .obj _ _ => .none
  | .scr _ => .none
  | .dt _ _ => .none
  | .cache _ => .none
def D.pyL : List D → List PyData
  | [] => []
  | d :: ds => D.py d :: D.pyL ds
end
mutual
/-- data without objects, of depth below n, its texts of plain signs -/
def D.flat : Nat → D → Bool
  | _, .non => true
  | _, .bl _ => true
  | _, .int _ => true
  | _, .str s => s.all (· < 128) && decide (s.length ≤ 16777216)
  | n + 1, .tup l => D.flatL n l
  | n + 1, .lst l => D.flatL n l
  | _, _ => false
def D.flatL : Nat → List D → Bool
  | _, [] => true
  | n, d :: ds => D.flat n d && D.flatL n ds
end
mutual
/-- Python's == of such data -/
def D.eqv : D → D → Bool
  | .non, .non => true
  | .bl a, .bl b => a == b
  | .bl a, .int j => (if a then 1 else 0) == j
  | .int i, .bl b => i == (if b then 1 else 0)
  | .int i, .int j => i == j
  | .str x, .str y => x == y
  | .lst xs, .lst ys => D.eqvL xs ys
  | .tup xs, .tup ys => D.eqvL xs ys
  | _, _ => false
def D.eqvL : List D → List D → Bool
  | [], [] => true
  | x :: xs, y :: ys => D.eqv x y && D.eqvL xs ys
  | _, _ => false
end

/-! ### 2. the frozen world -/
inductive Fz where
  | o (u : HO) | c (m : D)
abbrev Wd := Addr → Option Fz
/-- where a frame began: the frozen world, the heap, its own new instance (of an __init__) -/
structure Bs where
  w : Wd
  h : Hp
  me : Addr
def fo (F : Wd) : Hp := fun a => match F a with | some (.o u) => some u | _ => none
def updW (F : Wd) (a : Addr) (x : Fz) : Wd := fun b => if b = a then some x else F b
theorem updW_same {F : Wd} {a : Addr} {x : Fz} : updW F a x a = some x := by unfold updW; rw [if_pos rfl]
theorem updW_ne {F : Wd} {a b : Addr} {x : Fz} (h : b ≠ a) : updW F a x b = F b := by unfold updW; rw [if_neg h]

/-- outcomes -/
inductive R (α : Type) where
  | ok (a : α) | exc (c : Nat) | bad
def R.bind {α β : Type} : R α → (α → R β) → R β
  | .ok a, f => f a
  | .exc c, _ => .exc c
  | .bad, _ => .bad
@[simp] theorem R.bind_ok {α β : Type} (a : α) (f : α → R β) : (R.ok a).bind f = f a := rfl
@[simp] theorem R.bind_exc {α β : Type} (c : Nat) (f : α → R β) : (R.exc c : R α).bind f = .exc c := rfl
@[simp] theorem R.bind_bad {α β : Type} (f : α → R β) : (R.bad : R α).bind f = .bad := rfl

/-- what isinstance asks: built-in classes by name, own classes by number -/
inductive Ty where | b (n : String) | c (n : Nat)
/-- what a name holds: nothing known, frozen data, or an object of the frame's own: a list, a dict, an instance in the making -/
inductive Cell where
  | dead | val (d : D) | ownL (l : List D) | ownK (kvs : List (Key × D)) | ownT (kvs : List (List Key × D)) | ownI (c : Nat) (l : List D)
abbrev Gam := List Cell
inductive Out where
  | next (Γ : Gam) | ret (d : D) | brk (Γ : Gam) | cont (Γ : Gam) | exc (c : Nat) (Γ : Gam) | bad
/-- the meaning of a text's names over data: the fields of the classes, the defs, the constants, which class is under which -/
structure Mng where
  flds : Nat → List Nat
  fn : Nat → List D → R D
  gl : Nat → D
  sub : Ty → Ty → Option Bool
  ow : Nat → Cell → List D → R D
  hs : Nat → Gam → Out
/-- what stands around -/
structure Cfg extends Mng where
  P : Program
  w : World
  K : PySem.W.Frag
  mg : Str → Option Value
  base : Heap
  J : Nat
  cls : Nat → Addr
  exa : Nat → Addr
  fnm : Nat → Str
  cok : Wd → Hp → Addr → D → Prop
  cok_mono : ∀ {F F' : Wd} {H H' : Hp} {a : Addr} {m : D}, (∀ b x, F b = some x → F' b = some x) → H' a = H a → cok F H a m → cok F' H' a m

/-- the frozen part stands in the heap -/
def Fits (C : Cfg) (F : Wd) (H : Hp) : Prop := ∀ a x, F a = some x → match x with
  | .o u => H a = some u
  | .c m => C.cok F H a m ∧ ∃ u, H a = some u

/-- from (F0, H0) to (F, H): the world grows at new places, what was tracked stands but the caches -/
structure Ext (F0 : Wd) (H0 : Hp) (F : Wd) (H : Hp) : Prop where
  le : ∀ b x, F0 b = some x → F b = some x
  new : ∀ b x, F b = some x → F0 b = some x ∨ H0 b = none
  keep : ∀ b u, H0 b = some u → (∀ m, F0 b ≠ some (.c m)) → H b = some u
theorem Ext.refl (F : Wd) (H : Hp) : Ext F H F H := ⟨fun _ _ h => h, fun _ _ h => .inl h, fun _ _ h _ => h⟩
theorem Ext.trans {F0 F1 F2 : Wd} {H0 H1 H2 : Hp} (a : Ext F0 H0 F1 H1) (b : Ext F1 H1 F2 H2) : Ext F0 H0 F2 H2 := by
  refine ⟨fun c x h => b.le c x (a.le c x h), fun c x h => ?_, fun c u h n => b.keep c u (a.keep c u h n) fun m e => ?_⟩
  · rcases b.new c x h with h1 | h1
    · exact a.new c x h1
    · cases e : H0 c with
      | none => exact .inr rfl
      | some u =>
        refine .inl ?_
        by_cases hm : ∃ m, F0 c = some (.c m)
        · obtain ⟨m, hm⟩ := hm
          have := b.le c _ (a.le c _ hm)
          rw [h] at this; rw [this]; exact hm
        · have := a.keep c u e fun m z => hm ⟨m, z⟩
          rw [h1] at this; cases this
  · rcases a.new c _ e with z | z
    · exact n m z
    · rw [z] at h; cases h

/-! ### 3. values that stand for data -/
def fields (C : Cfg) (c : Nat) (vs : List V) : List (Str × V) := ((C.flds c).map C.fnm).zip vs
mutual
def Rep (C : Cfg) (F : Wd) (v : V) : D → Prop
  | .non => v = .non
  | .bl b => v = .bl b
  | .int i => v = .int i
  | .str s => v = .str (Sx s)
  | .tup l => ∃ a xs, v = .ref a ∧ F a = some (.o (.tup xs)) ∧ RepL C F xs l
  | .lst l => ∃ a xs, v = .ref a ∧ F a = some (.o (.lst xs)) ∧ RepL C F xs l
  | .obj c l => ∃ a dx xs, v = .ref a ∧ F a = some (.o (.ins (C.cls c) dx (fields C c xs))) ∧ (C.flds c).length = xs.length ∧ RepL C F xs l
  | .scr l => ∃ a, v = .ref a ∧ SqL C.K (fo F) a (l.map V.int)
  | .dt ks l => ∃ a xs, v = .ref a ∧ F a = some (.o (.dT (ks.zip xs))) ∧ ks.length = xs.length ∧ RepL C F xs l
  | .cache m => ∃ a, v = .ref a ∧ F a = some (.c m)
def RepL (C : Cfg) (F : Wd) (vs : List V) : List D → Prop
  | [] => vs = []
  | d :: ds => ∃ v r, vs = v :: r ∧ Rep C F v d ∧ RepL C F r ds
end
section
variable {C : Cfg} {F F' : Wd}
theorem fo_le (h : ∀ b x, F b = some x → F' b = some x) : ∀ b u, fo F b = some u → fo F' b = some u := fun b u e => by
  unfold fo at e ⊢
  split at e
  · rename_i u' hu
    rw [h _ _ hu]
    exact e
  · cases e
theorem SqL.le {K : PySem.W.Frag} {H H' : Hp} {a : Addr} {xs : List V} (h : ∀ b u, H b = some u → H' b = some u) (q : SqL K H a xs) : SqL K H' a xs := by
  rcases q with (q | ⟨o, q⟩) | q
  · exact .inl (.inl (h _ _ q))
  · exact .inl (.inr ⟨o, h _ _ q⟩)
  · exact .inr q
mutual
theorem Rep.le (h : ∀ b x, F b = some x → F' b = some x) : ∀ (d : D) (v : V), Rep C F v d → Rep C F' v d
  | .non, _, q => q
  | .bl _, _, q => q
  | .int _, _, q => q
  | .str _, _, q => q
  | .tup l, v, q => by
    obtain ⟨a, xs, e, f, r⟩ := q
    exact ⟨a, xs, e, h _ _ f, RepL.le h l xs r⟩
  | .lst l, v, q => by
    obtain ⟨a, xs, e, f, r⟩ := q
    exact ⟨a, xs, e, h _ _ f, RepL.le h l xs r⟩
  | .obj c l, v, q => by
    obtain ⟨a, dx, xs, e, f, z, r⟩ := q
    exact ⟨a, dx, xs, e, h _ _ f, z, RepL.le h l xs r⟩
  | .scr l, v, q => by
    obtain ⟨a, e, f⟩ := q
    exact ⟨a, e, SqL.le (fo_le h) f⟩
  | .dt ks l, v, q => by
    obtain ⟨a, xs, e, f, z, r⟩ := q
    exact ⟨a, xs, e, h _ _ f, z, RepL.le h l xs r⟩
  | .cache m, v, q => by
    obtain ⟨a, e, f⟩ := q
    exact ⟨a, e, h _ _ f⟩
theorem RepL.le (h : ∀ b x, F b = some x → F' b = some x) : ∀ (l : List D) (vs : List V), RepL C F vs l → RepL C F' vs l
  | [], _, q => q
  | d :: ds, vs, q => by
    obtain ⟨v, r, e, q1, q2⟩ := q
    exact ⟨v, r, e, Rep.le h d v q1, RepL.le h ds r q2⟩
end
theorem RepL.len : ∀ {l : List D} {vs : List V}, RepL C F vs l → vs.length = l.length
  | [], _, q => by rw [show _ = [] from q]; rfl
  | d :: ds, vs, q => by
    obtain ⟨v, r, rfl, _, q2⟩ := q
    simp [RepL.len q2]
theorem RepL.get : ∀ {l : List D} {vs : List V} {i : Nat} {d : D}, RepL C F vs l → l[i]? = some d → ∃ v, vs[i]? = some v ∧ Rep C F v d
  | [], _, _, _, _, e => by simp at e
  | d :: ds, vs, i, x, q, e => by
    obtain ⟨v, r, rfl, q1, q2⟩ := q
    cases i with
    | zero => simp at e; subst e; exact ⟨v, rfl, q1⟩
    | succ i =>
      obtain ⟨u, h1, h2⟩ := RepL.get (i := i) (d := x) q2 (by simpa using e)
      exact ⟨u, by simpa using h1, h2⟩
theorem RepL.get2 : ∀ {l : List D} {vs : List V} {i : Nat} {v : V}, RepL C F vs l → vs[i]? = some v → ∃ d, l[i]? = some d ∧ Rep C F v d
  | [], _, _, _, q, e => by rw [show _ = [] from q] at e; simp at e
  | d :: ds, vs, i, x, q, e => by
    obtain ⟨v, r, rfl, q1, q2⟩ := q
    cases i with
    | zero => simp at e; subst e; exact ⟨d, rfl, q1⟩
    | succ i =>
      obtain ⟨u, h1, h2⟩ := RepL.get2 (i := i) (v := x) q2 (by simpa using e)
      exact ⟨u, by simpa using h1, h2⟩
theorem RepL.app : ∀ {l m : List D} {vs us : List V}, RepL C F vs l → RepL C F us m → RepL C F (vs ++ us) (l ++ m)
  | [], _, _, _, q, r => by rw [show _ = [] from q]; exact r
  | d :: ds, m, vs, us, q, r => by
    obtain ⟨v, r', rfl, q1, q2⟩ := q
    exact ⟨v, _, rfl, q1, RepL.app q2 r⟩
theorem RepL.one {d : D} {v : V} (q : Rep C F v d) : RepL C F [v] [d] := ⟨v, [], rfl, q, rfl⟩
theorem RepL.take : ∀ {l : List D} {vs : List V} (n : Nat), RepL C F vs l → RepL C F (vs.take n) (l.take n)
  | _, _, 0, _ => rfl
  | [], _, n + 1, q => by rw [show _ = [] from q]; rfl
  | d :: ds, vs, n + 1, q => by
    obtain ⟨v, r, rfl, q1, q2⟩ := q
    exact ⟨v, _, rfl, q1, RepL.take n q2⟩
theorem RepL.drop : ∀ {l : List D} {vs : List V} (n : Nat), RepL C F vs l → RepL C F (vs.drop n) (l.drop n)
  | _, _, 0, q => q
  | [], _, n + 1, q => by rw [show _ = [] from q]; rfl
  | d :: ds, vs, n + 1, q => by
    obtain ⟨v, r, rfl, q1, q2⟩ := q
    exact RepL.drop n q2
theorem RepL.set : ∀ {l : List D} {vs : List V} {d : D} {v : V} (n : Nat), RepL C F vs l → Rep C F v d → RepL C F (vs.set n v) (l.set n d)
  | [], _, _, _, n, q, _ => by rw [show _ = [] from q]; rfl
  | x :: xs, vs, d, v, n, q, r => by
    obtain ⟨u, us, rfl, q1, q2⟩ := q
    cases n with
    | zero => exact ⟨v, us, rfl, r, q2⟩
    | succ n => exact ⟨u, _, rfl, q1, RepL.set n q2 r⟩
theorem RepL.rev : ∀ {l : List D} {vs : List V}, RepL C F vs l → RepL C F vs.reverse l.reverse
  | [], _, q => by rw [show _ = [] from q]; rfl
  | d :: ds, vs, q => by
    obtain ⟨v, r, rfl, q1, q2⟩ := q
    rw [List.reverse_cons, List.reverse_cons]
    exact RepL.app (RepL.rev q2) (RepL.one q1)
theorem RepL.snoc {l : List D} {d : D} {vs : List V} {v : V} (q : RepL C F vs l) (r : Rep C F v d) : RepL C F (vs ++ [v]) (l ++ [d]) := RepL.app q (RepL.one r)
theorem RepL.ints {l : List Int} : ∀ {vs : List V}, RepL C F vs (l.map D.int) → vs = l.map V.int := by
  induction l with
  | nil => intro vs q; exact q
  | cons i r ih =>
    intro vs q
    obtain ⟨v, r', rfl, q1, q2⟩ := q
    rw [ih q2, show v = .int i from q1]; rfl
theorem RepL.of_ints : ∀ (l : List Int), RepL C F (l.map V.int) (l.map D.int)
  | [] => rfl
  | i :: r => ⟨.int i, _, rfl, rfl, RepL.of_ints r⟩
end

theorem le_upd {F : Wd} {a : Addr} {x : Fz} (hF : F a = none) : ∀ b y, F b = some y → updW F a x b = some y := fun b y h => by
  by_cases hb : b = a
  · rw [hb, hF] at h; cases h
  · rw [updW_ne hb]; exact h
theorem Fits.adopt {C : Cfg} {F : Wd} {H : Hp} {a : Addr} {u : HO} (f : Fits C F H) (hF : F a = none) (hH : H a = some u) : Fits C (updW F a (.o u)) H := fun b x e => by
  by_cases hb : b = a
  · subst hb
    rw [updW_same] at e
    cases e
    exact hH
  · rw [updW_ne hb] at e
    have := f b x e
    cases x with
    | o v => exact this
    | c m => exact ⟨C.cok_mono (le_upd hF) rfl this.1, this.2⟩
theorem Ext.adopt {F0 F : Wd} {H0 H : Hp} {a : Addr} {u : HO} (e : Ext F0 H0 F H) (hF : F a = none) (h0 : H0 a = none) : Ext F0 H0 (updW F a (.o u)) H := by
  refine ⟨fun b x h => ?_, fun b x h => ?_, e.keep⟩
  · have h1 := e.le b x h
    by_cases hb : b = a
    · rw [hb, hF] at h1; cases h1
    · rw [updW_ne hb]; exact h1
  · by_cases hb : b = a
    · rw [hb]; exact .inr h0
    · rw [updW_ne hb] at h; exact e.new b x h
theorem Fits.free {C : Cfg} {F : Wd} {H : Hp} {a : Addr} (f : Fits C F H) (h : H a = none) : F a = none := by
  cases e : F a with
  | none => rfl
  | some x =>
    have := f a x e
    cases x with
    | o u => rw [h] at this; cases this
    | c m => obtain ⟨_, u, z⟩ := this; rw [h] at z; cases z
/-- a new object, not frozen -/
theorem Fits.fresh {C : Cfg} {F : Wd} {H : Hp} {p : Addr} {u : HO} (f : Fits C F H) (hp : H p = none) : Fits C F (upd H p u) := fun b x e => by
  have hb : b ≠ p := fun z => by rw [z, f.free hp] at e; cases e
  have := f b x e
  cases x with
  | o v => rw [upd_ne hb]; exact this
  | c m => rw [upd_ne hb]; exact ⟨C.cok_mono (fun _ _ h => h) (by rw [upd_ne hb]) this.1, this.2⟩
/-- an unfrozen object is changed -/
theorem Fits.write {C : Cfg} {F : Wd} {H : Hp} {p : Addr} {u : HO} (f : Fits C F H) (hp : F p = none) : Fits C F (upd H p u) := fun b x e => by
  have hb : b ≠ p := fun z => by rw [z, hp] at e; cases e
  have := f b x e
  cases x with
  | o v => rw [upd_ne hb]; exact this
  | c m => rw [upd_ne hb]; exact ⟨C.cok_mono (fun _ _ h => h) (by rw [upd_ne hb]) this.1, this.2⟩
theorem Ext.fresh {F0 F : Wd} {H0 H : Hp} {p : Addr} {u : HO} (e : Ext F0 H0 F H) (hp : H0 p = none) : Ext F0 H0 F (upd H p u) :=
  ⟨e.le, e.new, fun b v h n => by rw [upd_ne (ne_of_none h hp)]; exact e.keep b v h n⟩
theorem Fits.fo {C : Cfg} {F : Wd} {H : Hp} (f : Fits C F H) : ∀ b u, fo F b = some u → H b = some u := fun b u e => by
  unfold G.fo at e
  split at e
  · rename_i u' hu
    cases e
    exact f _ _ hu
  · cases e
end G

set_option Elab.async false
set_option linter.all false
set_option maxRecDepth 100000
set_option maxHeartbeats 4000000
/-! GB: the evaluator. -/
namespace G
open PySem L2

inductive BOp where | add | sub | mul | fdiv | mod | pow | shr
inductive COp where | eq | ne | lt | le | gt | ge | isin | notin
inductive F1 where | len | int | str | tuple | list | sum | sorted | min | max | all | repr
inductive F2 where | min | max
/-- what isinstance asks: built-in classes by name, own classes by number -/

inductive E where
  | var (i : Nat) | int (i : Int) | str (s : List Nat) | bl (b : Bool) | non | glob (n : Nat)
  | bin (op : BOp) (a b : E) | neg (a : E)
  | cmp (op : COp) (a b : E) | isN (a : E) | notN (a : E) | chain (p q : COp) (a b c : E)
  | and (a b : E) | or (a b : E) | last (a : E) | not (a : E) | ite (c a b : E)
  | tup (l : E) | lst (l : E) | nil | cons (a l : E)
  | item (a i : E) | slice (a lo hi : E)
  | f1 (f : F1) (a : E) | f2 (f : F2) (a b : E) | isi (ts : List Ty) (a : E)
  | fld (nm : Nat) (a : E) | call (n : Nat) (l : E)
  | comp (tg : List Nat) (rng : Bool) (it : E) (c : E) (e : E)
  | own (n i : Nat) (l : E) | any | fmt (a : E) | calm (n : Nat) (l : E)

abbrev LINE : Nat := 16777216

/-! ### operators on data -/
def addD : D → D → R D
  | .int a, .int b => .ok (.int (a + b))
  | .str a, .str b => if a.length + b.length ≤ LINE then .ok (.str (a ++ b)) else .bad
  | .tup a, .tup b => if a.length + b.length ≤ LINE then .ok (.tup (a ++ b)) else .bad
  | .lst a, .lst b => if a.length + b.length ≤ LINE then .ok (.lst (a ++ b)) else .bad
  | _, _ => .bad
def subD : D → D → R D
  | .int a, .int b => .ok (.int (a - b))
  | _, _ => .bad
def mulD : D → D → R D
  | .int a, .int b => if (-18446744073709551616 < a ∧ a < 18446744073709551616) ∨ (-18446744073709551616 < b ∧ b < 18446744073709551616) then .ok (.int (a * b)) else .bad
  | _, _ => .bad
def fdivD : D → D → R D
  | .int a, .int b => if 0 < b ∧ b < 1073741824 then .ok (.int (a / b)) else .bad
  | _, _ => .bad
def modD : D → D → R D
  | .int a, .int b => if 0 < b then .ok (.int (a % b)) else .bad
  | _, _ => .bad
def powD : D → D → R D
  | .int a, .int b => if 0 ≤ b ∧ b ≤ 1000000 ∧ a.natAbs < 18446744073709551616 then .ok (.int (a ^ b.toNat)) else .bad
  | _, _ => .bad
def shrD : D → D → R D
  | .int a, .int b => if 0 ≤ b then .ok (.int (a / 2 ^ b.toNat)) else .bad
  | _, _ => .bad
def binD : BOp → D → D → R D
  | .add => addD | .sub => subD | .mul => mulD | .fdiv => fdivD | .mod => modD | .pow => powD | .shr => shrD

def D.scal : D → Bool
  | .non => true | .bl _ => true | .int _ => true | .str _ => true
  | _ => false
def D.isN : D → Bool
  | .non => true
  | _ => false
def eqD (a b : D) : R Bool := if a.flat 60 && b.flat 60 then .ok (a.eqv b) else .bad
def inD (a b : D) : R Bool :=
  match b with
  | .lst l => if a.flat 60 && D.flatL 60 l then .ok (l.any fun y => y.eqv a) else .bad
  | .tup l => if a.scal && l.all D.scal then .ok (l.any fun y => y.eqv a) else .bad
  | .str s => match a with
    | .str [c] => .ok (decide (c ∈ s))
    | _ => .bad
  | _ => .bad
def ltD : D → D → R Bool
  | .int a, .int b => .ok (decide (a < b))
  | .str a, .str b => .ok (decide (a < b))
  | _, _ => .bad
def leD : D → D → R Bool
  | .int a, .int b => .ok (decide (a ≤ b))
  | .str a, .str b => .ok (!decide (b < a))
  | _, _ => .bad
def cmpD : COp → D → D → R Bool
  | .eq, a, b => eqD a b
  | .ne, a, b => (eqD a b).bind fun c => .ok (!c)
  | .lt, a, b => ltD a b
  | .gt, a, b => ltD b a
  | .le, a, b => leD a b
  | .ge, a, b => leD b a
  | .isin, a, b => inD a b
  | .notin, a, b => (inD a b).bind fun c => .ok (!c)
def truD : D → R Bool
  | .bl b => .ok b
  | .int i => .ok (i != 0)
  | .non => .ok false
  | .str s => if s.length ≤ LINE then .ok (!s.isEmpty) else .bad
  | .lst l => .ok (!l.isEmpty)
  | .tup l => .ok (!l.isEmpty)
  | _ => .bad
def itemD : D → D → R D
  | .lst l, .int i => match atI l i with | some d => .ok d | none => .bad
  | .tup l, .int i => match atI l i with | some d => .ok d | none => .bad
  | .str s, .int i => if s.length ≤ LINE then (match atI s i with | some c => .ok (.str [c]) | none => .bad) else .bad
  | .scr l, .int i => match atI l i with | some d => .ok (.int d) | none => .bad
  | _, _ => .bad
def cutL {α : Type} (xs : List α) (lo hi : Option Int) : List α := (xs.drop (HT.sIx xs.length 0 lo)).take (HT.sIx xs.length xs.length hi - HT.sIx xs.length 0 lo)
def sliceD (a : D) (lo hi : Option Int) : R D :=
  match a with
  | .lst l => .ok (.lst (cutL l lo hi))
  | .tup l => .ok (.tup (cutL l lo hi))
  | .str s => if s.length ≤ LINE then .ok (.str (cutL s lo hi)) else .bad
  | _ => .bad
def partD : D → R (Option Int)
  | .int i => .ok (some i)
  | _ => .bad
def lenD : D → R D
  | .lst l => .ok (.int l.length)
  | .tup l => .ok (.int l.length)
  | .str s => if s.length ≤ LINE then .ok (.int s.length) else .bad
  | .scr l => .ok (.int l.length)
  | _ => .bad
def itoa (i : Int) : List Nat := (Str.ofString (toString i)).cps.toList
def fmtD : D → R D
  | .str s => if s.length ≤ 100000 then .ok (.str s) else .bad
  | .int i => if i.natAbs < 18446744073709551616 then .ok (.str (itoa i)) else .bad
  | _ => .bad
def f1D (f : F1) (a : D) : R D :=
  match f with
  | .len => lenD a
  | .int => match a with
    | .int i => .ok (.int i)
    | .bl b => .ok (.int (if b then 1 else 0))
    | _ => .bad
  | .tuple => match a with
    | .lst l => .ok (.tup l)
    | .tup l => .ok (.tup l)
    | _ => .bad
  | .list => match a with
    | .lst l => .ok (.lst l)
    | .tup l => .ok (.lst l)
    | _ => .bad
  | .str => match a with
    | .int i => if i.natAbs < 18446744073709551616 then .ok (.str (itoa i)) else .bad
    | _ => .bad
  | _ => .bad
def f2D (f : F2) (a b : D) : R D :=
  match a, b with
  | .int i, .int j => match f with
    | .min => .ok (.int (if j < i then j else i))
    | .max => .ok (.int (if j > i then j else i))
  | _, _ => .bad
/-- the class of data -/
def tyD : D → Ty
  | .non => .b "NoneType" | .bl _ => .b "bool" | .int _ => .b "int" | .str _ => .b "str" | .tup _ => .b "tuple" | .lst _ => .b "list"
  | .obj c _ => .c c | .scr _ => .b "list" | .dt _ _ => .b "dict" | .cache _ => .b "dict"
def findIx (n : Nat) : List Nat → Nat → Option Nat
  | [], _ => none
  | x :: r, i => if x = n then some i else findIx n r (i + 1)

section
variable (C : Mng)
/-- isinstance of a class in a list of classes: sub says which class is under which -/
def isiD (sub : Ty → Ty → Option Bool) (ts : List Ty) (t : Ty) : Option Bool :=
  match ts with
  | [] => some false
  | u :: r => match sub t u with
    | some true => some true
    | some false => isiD sub r t
    | none => none
end
def fldD (C : Mng) (nm : Nat) : D → R D
  | .obj c l => match findIx nm (C.flds c) 0 with
    | some i => match l[i]? with | some d => .ok d | none => .bad
    | none => .bad
  | _ => .bad

/-- the items that a loop walks -/
def walkD (rng : Bool) (d : D) : R (List D) :=
  if rng then match d with
    | .tup [.int j] => if -4611686018427387904 ≤ j ∧ j < 4611686018427387904 then .ok ((List.range j.toNat).map fun k => .int (k : Nat)) else .bad
    | .tup [.int i, .int j] => if -4611686018427387904 ≤ i ∧ i < 4611686018427387904 ∧ -4611686018427387904 ≤ j ∧ j < 4611686018427387904 then .ok ((List.range (j - i).toNat).map fun k => .int (i + (k : Nat))) else .bad
    | _ => .bad
  else match d with
    | .lst l => .ok l
    | .tup l => .ok l
    | .str s => .ok (s.map fun c => .str [c])
    | _ => .bad
def setAll (Γ : Gam) : List Nat → List D → R Gam
  | [], [] => .ok Γ
  | i :: r, d :: ds => setAll (Γ.set i (.val d)) r ds
  | _, _ => .bad
/-- a target: one name, or several -/
def tgtD (Γ : Gam) (tg : List Nat) (d : D) : R Gam :=
  match tg with
  | [i] => .ok (Γ.set i (.val d))
  | tg => match d with
    | .tup l => setAll Γ tg l
    | _ => .bad
def killG (Γ : Gam) : List Nat → Gam
  | [] => Γ
  | i :: r => (killG Γ r).set i .dead

/-- an operand that may be a list of the frame's own -/
def borrow (Γ : Gam) (e : E) (r : R D) : R D :=
  match e with
  | .var i => match Γ[i]? with
    | some (.val d) => .ok d
    | some (.ownL l) => .ok (.lst l)
    | some (.ownI c l) => .ok (.obj c l)
    | _ => .bad
  | _ => r
/-- a part of a slice -/
def part (e : E) (r : R D) : R (Option Int) :=
  match e with
  | .nil => .ok none
  | _ => r.bind partD
/-- a comprehension's turns -/
def compD (tg : List Nat) (Γ : Gam) (c : Option (Gam → R D)) (f : Gam → R D) : List D → List D → R (List D)
  | [], acc => .ok acc
  | d :: ds, acc => (tgtD Γ tg d).bind fun Γ' =>
    (match c with | none => R.ok true | some c => (c Γ').bind truD).bind fun b =>
      if b then (f Γ').bind fun y => if acc.length < LINE then compD tg Γ c f ds (acc ++ [y]) else .bad
      else compD tg Γ c f ds acc
/-- the test of a comprehension, if there is one -/
def condF (c : E) (f : Gam → R D) : Option (Gam → R D) := match c with
  | .nil => none
  | _ => some f
/-- an exception can't leave a comprehension -/
def R.noexc {α : Type} : R α → R α
  | .exc _ => .bad
  | r => r

def andD (x : D) (r : R D) : R D := match x with | .bl b => if b then r else .ok (.bl false) | _ => .bad
def orD (x : D) (r : R D) : R D := match x with | .bl b => if b then .ok (.bl true) else r | _ => .bad
def notD (x : D) : R D := match x with | .bl b => .ok (.bl (!b)) | _ => .bad
def iteD (x : D) (r t : R D) : R D := match x with | .bl b => if b then r else t | _ => .bad
def isiR (C : Mng) (ts : List Ty) (d : D) : R D := match d with
  | .cache _ => .bad
  | d => match isiD C.sub ts (tyD d) with | some b => .ok (.bl b) | none => .bad
def negD (x : D) : R D := match x with | .int i => .ok (.int (-i)) | _ => .bad
mutual
def evE (C : Mng) : E → Gam → R D
  | .var i, Γ => match Γ[i]? with
    | some (.val d) => .ok d
    | _ => .bad
  | .int i, _ => .ok (.int i)
  | .str s, _ => .ok (.str s)
  | .bl b, _ => .ok (.bl b)
  | .non, _ => .ok .non
  | .glob n, _ => .ok (C.gl n)
  | .bin op a b, Γ => (borrow Γ a (evE C a Γ)).bind fun x => (borrow Γ b (evE C b Γ)).bind fun y => binD op x y
  | .neg a, Γ => (evE C a Γ).bind negD
  | .cmp op a b, Γ => (borrow Γ a (evE C a Γ)).bind fun x => (borrow Γ b (evE C b Γ)).bind fun y => (cmpD op x y).bind fun c => .ok (.bl c)
  | .isN a, Γ => (evE C a Γ).bind fun x => .ok (.bl x.isN)
  | .notN a, Γ => (evE C a Γ).bind fun x => .ok (.bl (!x.isN))
  | .chain p q a b c, Γ => (evE C a Γ).bind fun x => (evE C b Γ).bind fun y => (cmpD p x y).bind fun r => if r then (evE C c Γ).bind fun z => (cmpD q y z).bind fun r => .ok (.bl r) else .ok (.bl false)
  | .and a b, Γ => (evE C a Γ).bind fun x => andD x (evE C b Γ)
  | .or a b, Γ => (evE C a Γ).bind fun x => orD x (evE C b Γ)
  | .last a, Γ => evE C a Γ
  | .not a, Γ => (evE C a Γ).bind notD
  | .ite c a b, Γ => (evE C c Γ).bind fun x => iteD x (evE C a Γ) (evE C b Γ)
  | .tup l, Γ => (evL C l Γ).bind fun ds => if ds.length ≤ LINE then .ok (.tup ds) else .bad
  | .lst l, Γ => (evL C l Γ).bind fun ds => if ds.length ≤ LINE then .ok (.lst ds) else .bad
  | .nil, _ => .bad
  | .cons _ _, _ => .bad
  | .item a i, Γ => (borrow Γ a (evE C a Γ)).bind fun x => (evE C i Γ).bind fun y => itemD x y
  | .slice a lo hi, Γ => (borrow Γ a (evE C a Γ)).bind fun x => (part lo (evE C lo Γ)).bind fun l => (part hi (evE C hi Γ)).bind fun h => sliceD x l h
  | .f1 f a, Γ => (borrow Γ a (evE C a Γ)).bind fun x => f1D f x
  | .f2 f a b, Γ => (evE C a Γ).bind fun x => (evE C b Γ).bind fun y => f2D f x y
  | .isi ts a, Γ => (evE C a Γ).bind (isiR C ts)
  | .fld nm a, Γ => (borrow Γ a (evE C a Γ)).bind fun x => fldD C nm x
  | .call n l, Γ => (evL C l Γ).bind fun ds => C.fn n ds
  | .comp tg rng it c e, Γ => (if rng then (evL C it Γ).bind fun ds => walkD true (.tup ds) else (evE C it Γ).bind fun d => walkD false d).bind fun items =>
      (compD tg (killG Γ tg) (condF c fun Γ' => evE C c Γ') (fun Γ' => evE C e Γ') items []).noexc.bind fun ds => .ok (.lst ds)
  | .any, _ => .bad
  | .fmt a, Γ => (evE C a Γ).bind fmtD
  | .calm n l, Γ => (evL C l Γ).noexc.bind fun ds => C.fn n ds
  | .own n i l, Γ => match Γ[i]? with
    | some c => (evL C l Γ).bind fun ds => C.ow n c ds
    | none => .bad
def evL (C : Mng) : E → Gam → R (List D)
  | .nil, _ => .ok []
  | .cons a l, Γ => (evE C a Γ).bind fun x => (evL C l Γ).bind fun xs => .ok (x :: xs)
  | _, _ => .bad
end
example (C : Mng) (i : Int) : evE C (.bin .add (.var 0) (.int 2)) [.val (.int i)] = .ok (.int (i + 2)) := rfl

/-! ### statements -/
inductive Sm where
  | nil | asg (i : Nat) (e : E) (k : Sm) | asgO (i : Nat) (e : E) (k : Sm) | newK (i : Nat) (k : Sm) | newT (i : Nat) (k : Sm)
  | unp (is : List Nat) (e : E) (k : Sm) | swp (i j : Nat) (a b : E) (k : Sm) | aug (i : Nat) (op : BOp) (e : E) (k : Sm)
  | app (i : Nat) (e : E) (k : Sm) | ext (i : Nat) (e : E) (k : Sm) | pop (i j : Nat) (k : Sm) | seti (i : Nat) (a e : E) (k : Sm)
  | frz (i : Nat) (k : Sm) | ifs (c : E) (a b k : Sm) | loop (tg kl : List Nat) (rng : Bool) (it : E) (body k : Sm) | whl (kl : List Nat) (c : E) (body k : Sm)
  | ret (e : E) | retN | brk | cont | raise (n : Nat) | drop (e : E) (k : Sm) | pass (k : Sm) | setf (i nm : Nat) (e : E) (k : Sm) | hook (n : Nat) (k : Sm) | any

def Out.andThen : Out → (Gam → Out) → Out
  | .next Γ, f => f Γ
  | o, _ => o
@[simp] theorem Out.andThen_next (Γ : Gam) (f : Gam → Out) : (Out.next Γ).andThen f = f Γ := rfl
@[simp] theorem Out.andThen_ret (d : D) (f : Gam → Out) : (Out.ret d).andThen f = .ret d := rfl
@[simp] theorem Out.andThen_brk (Γ : Gam) (f : Gam → Out) : (Out.brk Γ).andThen f = .brk Γ := rfl
@[simp] theorem Out.andThen_cont (Γ : Gam) (f : Gam → Out) : (Out.cont Γ).andThen f = .cont Γ := rfl
@[simp] theorem Out.andThen_exc (c : Nat) (Γ : Gam) (f : Gam → Out) : (Out.exc c Γ).andThen f = .exc c Γ := rfl
@[simp] theorem Out.andThen_bad (f : Gam → Out) : Out.bad.andThen f = .bad := rfl
/-- an expression's outcome at Γ, then the rest -/
def Out.of {α : Type} (Γ : Gam) (r : R α) (f : α → Out) : Out :=
  match r with
  | .ok a => f a
  | .exc c => .exc c Γ
  | .bad => .bad
@[simp] theorem Out.of_ok {α : Type} (Γ : Gam) (a : α) (f : α → Out) : Out.of Γ (.ok a) f = f a := rfl
@[simp] theorem Out.of_exc {α : Type} (Γ : Gam) (c : Nat) (f : α → Out) : Out.of Γ (.exc c : R α) f = .exc c Γ := rfl
@[simp] theorem Out.of_bad {α : Type} (Γ : Gam) (f : α → Out) : Out.of Γ (.bad : R α) f = .bad := rfl

def forD (tg kl : List Nat) (body : Gam → Out) : List D → Gam → Out
  | [], Γ => .next (killG Γ kl)
  | d :: ds, Γ => Out.of Γ (tgtD (killG Γ kl) tg d) fun Γ' => match body Γ' with
    | .next Γ2 => forD tg kl body ds Γ2
    | .cont Γ2 => forD tg kl body ds Γ2
    | .brk Γ2 => .next (killG Γ2 kl)
    | o => o
def whileD (kl : List Nat) (c : Gam → R Bool) (body : Gam → Out) : Nat → Gam → Out
  | 0, _ => .bad
  | n + 1, Γ => Out.of (killG Γ kl) (c (killG Γ kl)) fun b => if b then (match body (killG Γ kl) with
    | .next Γ2 => whileD kl c body n Γ2
    | .cont Γ2 => whileD kl c body n Γ2
    | .brk Γ2 => .next (killG Γ2 kl)
    | o => o) else .next (killG Γ kl)
/-- name op= e, ints -/
def augD : BOp → D → D → R D
  | .add, .int a, .int b => .ok (.int (a + b))
  | .sub, .int a, .int b => .ok (.int (a - b))
  | _, _, _ => .bad
def FUEL : Nat := 2 ^ 64
/-- a list of the frame's own, changed -/
def onL (Γ : Gam) (i : Nat) (f : List D → Out) : Out :=
  match Γ[i]? with
  | some (.ownL l) => f l
  | _ => .bad
def frzG (Γ : Gam) (i : Nat) : Out :=
  match Γ[i]? with
  | some (.ownL l) => .next (Γ.set i (.val (.lst l)))
  | some (.val _) => .next Γ
  | _ => .bad

def evS (C : Mng) : Sm → Gam → Out
  | .nil, Γ => .next Γ
  | .asg i e k, Γ => Out.of Γ (evE C e Γ) fun d => evS C k (Γ.set i (.val d))
  | .asgO i e k, Γ => Out.of Γ (evE C e Γ) fun d => match d with
    | .lst l => evS C k (Γ.set i (.ownL l))
    | _ => .bad
  | .newK i k, Γ => evS C k (Γ.set i (.ownK []))
  | .newT i k, Γ => evS C k (Γ.set i (.ownT []))
  | .unp is e k, Γ => Out.of Γ (evE C e Γ) fun d => match d with
    | .tup l => Out.of Γ (setAll Γ is l) (evS C k)
    | _ => .bad
  | .swp i j a b k, Γ => Out.of Γ (evE C a Γ) fun x => Out.of Γ (evE C b Γ) fun y => evS C k ((Γ.set i (.val x)).set j (.val y))
  | .aug i op e k, Γ => match Γ[i]? with
    | some (.val x) => Out.of Γ (evE C e Γ) fun y => Out.of Γ (augD op x y) fun z => evS C k (Γ.set i (.val z))
    | _ => .bad
  | .app i e k, Γ => onL Γ i fun l => Out.of Γ (evE C e Γ) fun y => if l.length < LINE then evS C k (Γ.set i (.ownL (l ++ [y]))) else .bad
  | .ext i e k, Γ => onL Γ i fun l => Out.of Γ (evE C e Γ) fun y => match y with
    | .lst m => if l.length + m.length ≤ LINE then evS C k (Γ.set i (.ownL (l ++ m))) else .bad
    | _ => .bad
  | .pop i j k, Γ => onL Γ j fun l => match l.getLast? with
    | some d => evS C k ((Γ.set j (.ownL l.dropLast)).set i (.val d))
    | none => .bad
  | .seti i a e k, Γ => Out.of Γ (evE C e Γ) fun y => onL Γ i fun l => Out.of Γ (evE C a Γ) fun x => match x with
    | .int n => match ixN l.length n with
      | some j => evS C k (Γ.set i (.ownL (l.set j y)))
      | none => .bad
    | _ => .bad
  | .frz i k, Γ => (frzG Γ i).andThen (evS C k)
  | .ifs c a b k, Γ => Out.of Γ (evE C c Γ) fun x => Out.of Γ (truD x) fun r => if r then (evS C a Γ).andThen (evS C k) else (evS C b Γ).andThen (evS C k)
  | .loop tg kl rng it body k, Γ => Out.of Γ (if rng then (evL C it Γ).bind fun ds => walkD true (.tup ds) else (evE C it Γ).bind fun d => walkD false d) fun items =>
      (forD tg kl (evS C body) items Γ).andThen (evS C k)
  | .whl kl c body k, Γ => (whileD kl (fun Γ' => (evE C c Γ').bind truD) (evS C body) FUEL Γ).andThen (evS C k)
  | .ret e, Γ => Out.of Γ (evE C e Γ) .ret
  | .retN, _ => .ret .non
  | .brk, Γ => .brk Γ
  | .cont, Γ => .cont Γ
  | .raise n, Γ => .exc n Γ
  | .drop e k, Γ => Out.of Γ (evE C e Γ) fun _ => evS C k Γ
  | .pass k, Γ => evS C k Γ
  | .setf i nm e k, Γ => Out.of Γ (evE C e Γ) fun d => match Γ[i]? with
    | some (.ownI c l) => if (C.flds c)[l.length]? = some nm then evS C k (Γ.set i (.ownI c (l ++ [d]))) else .bad
    | _ => .bad
  | .hook n k, Γ => (C.hs n Γ).andThen (evS C k)
  | .any, _ => .bad
end G

set_option Elab.async false
set_option linter.all false
set_option maxRecDepth 100000
set_option maxHeartbeats 4000000
/-! GC: the state that stands for an environment. -/
namespace G
open PySem L2

def RepKV (C : Cfg) (F : Wd) {κ : Type} (xs : List (κ × V)) (kvs : List (κ × D)) : Prop := xs.map (·.1) = kvs.map (·.1) ∧ RepL C F (xs.map (·.2)) (kvs.map (·.2))
def SlotOk (C : Cfg) (B : Bs) (F : Wd) (H : Hp) (v : Option V) : Cell → Prop
  | .dead => True
  | .val d => ∃ u, v = some u ∧ Rep C F u d
  | .ownL l => ∃ a xs, v = some (.ref a) ∧ F a = none ∧ B.2 a = none ∧ H a = some (.lst xs) ∧ RepL C F xs l
  | .ownK kvs => ∃ a xs, v = some (.ref a) ∧ F a = none ∧ B.2 a = none ∧ H a = some (.dK xs) ∧ RepKV C F xs kvs
  | .ownT kvs => ∃ a xs, v = some (.ref a) ∧ F a = none ∧ B.2 a = none ∧ H a = some (.dT xs) ∧ RepKV C F xs kvs
  | .ownI c l => ∃ a xs, v = some (.ref a) ∧ a = B.3 ∧ F a = none ∧ B.2 a = none ∧ (∃ dx, H a = some (.ins (C.cls c) dx ((((C.flds c).take l.length).map C.fnm).zip xs))) ∧ RepL C F xs l
def Cell.own : Cell → Bool
  | .ownL _ => true
  | .ownK _ => true
  | .ownT _ => true
  | .ownI _ _ => true
  | _ => false
structure SR (C : Cfg) (B : Bs) (F : Wd) (H : Hp) (σ : St) (Γ : Gam) : Prop where
  fits : Fits C F H
  ext : Ext B.1 B.2 F H
  len : σ.length = Γ.length
  sl : ∀ (i : Nat) (c : Cell), Γ[i]? = some c → SlotOk C B F H (σ[i]?.join) c
  inj : ∀ (i j : Nat) (c c' : Cell) (a : Addr), Γ[i]? = some c → Γ[j]? = some c' → c.own = true → c'.own = true → σ[i]? = some (some (.ref a)) → σ[j]? = some (some (.ref a)) → i = j
section
variable {C : Cfg} {B : Bs} {F F' : Wd} {H H' : Hp} {σ : St} {Γ : Gam}
theorem RepKV.le {κ : Type} {xs : List (κ × V)} {kvs : List (κ × D)} (h : ∀ b x, F b = some x → F' b = some x) (r : RepKV C F xs kvs) : RepKV C F' xs kvs := ⟨r.1, RepL.le h _ _ r.2⟩
theorem Ext.own (e : Ext F H F' H') {a : Addr} {u : HO} (h : H a = some u) (f : F a = none) : H' a = some u ∧ F' a = none := by
  refine ⟨e.keep a u h (fun m z => by rw [f] at z; cases z), ?_⟩
  cases q : F' a with
  | none => rfl
  | some x =>
    rcases e.new a x q with z | z
    · rw [f] at z; cases z
    · rw [h] at z; cases z
theorem SlotOk.ext (e : Ext F H F' H') {v : Option V} : ∀ {c : Cell}, SlotOk C B F H v c → SlotOk C B F' H' v c
  | .dead, _ => trivial
  | .val d, q => by
    obtain ⟨u, h, r⟩ := q
    exact ⟨u, h, Rep.le e.le d u r⟩
  | .ownL l, q => by
    obtain ⟨a, xs, h, f, z, k, r⟩ := q
    obtain ⟨k', f'⟩ := e.own k f
    exact ⟨a, xs, h, f', z, k', RepL.le e.le _ _ r⟩
  | .ownK l, q => by
    obtain ⟨a, xs, h, f, z, k, r⟩ := q
    obtain ⟨k', f'⟩ := e.own k f
    exact ⟨a, xs, h, f', z, k', r.le e.le⟩
  | .ownT l, q => by
    obtain ⟨a, xs, h, f, z, k, r⟩ := q
    obtain ⟨k', f'⟩ := e.own k f
    exact ⟨a, xs, h, f', z, k', r.le e.le⟩
  | .ownI c l, q => by
    obtain ⟨a, xs, h, me, f, z, ⟨dx, k⟩, r⟩ := q
    obtain ⟨k', f'⟩ := e.own k f
    exact ⟨a, xs, h, me, f', z, ⟨dx, k'⟩, RepL.le e.le _ _ r⟩
theorem SR.ext_ (s : SR C B F H σ Γ) (e : Ext F H F' H') (f : Fits C F' H') : SR C B F' H' σ Γ :=
  ⟨f, s.ext.trans e, s.len, fun i c h => (s.sl i c h).ext e, s.inj⟩
theorem join_of {σ : St} {i : Nat} {v : V} (h : σ[i]?.join = some v) : σ[i]? = some (some v) := by
  cases e : σ[i]? with
  | none => rw [e] at h; cases h
  | some o => rw [e] at h; exact congrArg some h
theorem SR.val (s : SR C B F H σ Γ) {i : Nat} {d : D} (h : Γ[i]? = some (.val d)) : ∃ v, σ[i]? = some (some v) ∧ Rep C F v d := by
  obtain ⟨u, e, r⟩ := s.sl i _ h
  exact ⟨u, join_of e, r⟩
theorem set_get {α : Type} {l : List α} {i j : Nat} {x y : α} (h : (l.set i x)[j]? = some y) : (i = j ∧ y = x ∧ i < l.length) ∨ (i ≠ j ∧ l[j]? = some y) := by
  by_cases e : i = j
  · subst e
    by_cases hl : i < l.length
    · rw [List.getElem?_set_self hl] at h
      exact .inl ⟨rfl, (Option.some.inj h).symm, hl⟩
    · rw [List.getElem?_eq_none (by simpa using hl)] at h; cases h
  · rw [List.getElem?_set_ne e] at h
    exact .inr ⟨e, h⟩
/-- slot i is stored: a cell that is none of the others' -/
theorem SR.put (s : SR C B F H σ Γ) {i : Nat} {o : Option V} {c : Cell} (h : i < Γ.length → SlotOk C B F H o c)
    (n : c.own = true → ∀ a, o = some (.ref a) → ∀ (j : Nat) (c' : Cell), j ≠ i → Γ[j]? = some c' → c'.own = true → σ[j]? ≠ some (some (.ref a))) : SR C B F H (σ.set i o) (Γ.set i c) := by
  refine ⟨s.fits, s.ext, by rw [List.length_set, List.length_set]; exact s.len, fun j c' hj => ?_, fun j k c1 c2 a h1 h2 o1 o2 e1 e2 => ?_⟩
  · rcases set_get hj with ⟨rfl, rfl, hl⟩ | ⟨hne, hj⟩
    · rw [List.getElem?_set_self (by rw [s.len]; exact hl)]
      exact h hl
    · rw [List.getElem?_set_ne hne]
      exact s.sl j c' hj
  · rcases set_get h1 with ⟨rfl, rfl, hl⟩ | ⟨n1, g1⟩
    · rcases set_get h2 with ⟨rfl, rfl, _⟩ | ⟨n2, g2⟩
      · rfl
      · rw [List.getElem?_set_self (by rw [s.len]; exact hl)] at e1
        rw [List.getElem?_set_ne n2] at e2
        exact absurd e2 (n o1 a (Option.some.inj e1) k c2 (Ne.symm n2) g2 o2)
    · rcases set_get h2 with ⟨rfl, rfl, hl⟩ | ⟨n2, g2⟩
      · rw [List.getElem?_set_self (by rw [s.len]; exact hl)] at e2
        rw [List.getElem?_set_ne n1] at e1
        exact absurd e1 (n o2 a (Option.some.inj e2) j c1 (Ne.symm n1) g1 o1)
      · rw [List.getElem?_set_ne n1] at e1
        rw [List.getElem?_set_ne n2] at e2
        exact s.inj j k c1 c2 a g1 g2 o1 o2 e1 e2
theorem SR.put_val (s : SR C B F H σ Γ) {i : Nat} {v : V} {d : D} (r : Rep C F v d) : SR C B F H (σ.set i (some v)) (Γ.set i (.val d)) :=
  s.put (fun _ => ⟨v, rfl, r⟩) fun z => by cases z
theorem SR.kill1 (s : SR C B F H σ Γ) (i : Nat) : SR C B F H σ (Γ.set i .dead) := by
  refine ⟨s.fits, s.ext, by rw [List.length_set]; exact s.len, fun j c' hj => ?_, fun j k c1 c2 a h1 h2 o1 o2 e1 e2 => ?_⟩
  · rcases set_get hj with ⟨rfl, rfl, hl⟩ | ⟨hne, hj⟩
    · trivial
    · exact s.sl j c' hj
  · rcases set_get h1 with ⟨rfl, rfl, hl⟩ | ⟨n1, g1⟩
    · cases o1
    · rcases set_get h2 with ⟨rfl, rfl, hl⟩ | ⟨n2, g2⟩
      · cases o2
      · exact s.inj j k c1 c2 a g1 g2 o1 o2 e1 e2
theorem SR.kill (s : SR C B F H σ Γ) : ∀ (kl : List Nat), SR C B F H σ (killG Γ kl)
  | [] => s
  | i :: r => (SR.kill s r).kill1 i
theorem SR.wipe (s : SR C B F H σ Γ) : ∀ (kl : List Nat), SR C B F H (wipe σ kl) (killG Γ kl)
  | [] => s
  | i :: r => (SR.wipe s r).put (fun _ => trivial) fun z => by cases z
/-- an owned object: its place is no other's -/
theorem SR.apart (s : SR C B F H σ Γ) {i : Nat} {c : Cell} {a : Addr} (h : Γ[i]? = some c) (o : c.own = true) (e : σ[i]? = some (some (.ref a))) : ∀ (j : Nat) (c' : Cell), j ≠ i → Γ[j]? = some c' → c'.own = true → σ[j]? ≠ some (some (.ref a)) :=
  fun j c' hj h' o' e' => hj (s.inj j i c' c a h' h o' o e' e)
theorem SlotOk.upd {v : Option V} {a : Addr} {u : HO} : ∀ {c : Cell}, SlotOk C B F H v c → (c.own = true → v ≠ some (.ref a)) → SlotOk C B F (upd H a u) v c
  | .dead, _, _ => trivial
  | .val d, q, _ => q
  | .ownL l, q, n => by
    obtain ⟨b, xs, h, f, z, k, r⟩ := q
    exact ⟨b, xs, h, f, z, by rw [upd_ne (fun e => n rfl (by rw [h, e]))]; exact k, r⟩
  | .ownK l, q, n => by
    obtain ⟨b, xs, h, f, z, k, r⟩ := q
    exact ⟨b, xs, h, f, z, by rw [upd_ne (fun e => n rfl (by rw [h, e]))]; exact k, r⟩
  | .ownT l, q, n => by
    obtain ⟨b, xs, h, f, z, k, r⟩ := q
    exact ⟨b, xs, h, f, z, by rw [upd_ne (fun e => n rfl (by rw [h, e]))]; exact k, r⟩
  | .ownI c l, q, n => by
    obtain ⟨b, xs, h, me, f, z, ⟨dx, k⟩, r⟩ := q
    exact ⟨b, xs, h, me, f, z, ⟨dx, by rw [upd_ne (fun e => n rfl (by rw [h, e]))]; exact k⟩, r⟩
/-- the owned object of slot i is changed -/
theorem SR.write (s : SR C B F H σ Γ) {i : Nat} {c c' : Cell} {a : Addr} {u : HO} (h : Γ[i]? = some c) (o : c.own = true) (e : σ[i]? = some (some (.ref a))) (fa : F a = none) (ha : B.2 a = none)
    (q : SlotOk C B F (upd H a u) (some (.ref a)) c') : SR C B F (upd H a u) σ (Γ.set i c') := by
  have ap := s.apart h o e
  have il : i < Γ.length := (List.getElem?_eq_some_iff.mp h).1
  refine ⟨s.fits.write fa, s.ext.fresh ha, by rw [List.length_set]; exact s.len, fun j c2 hj => ?_, fun j k c1 c2 b h1 h2 o1 o2 e1 e2 => ?_⟩
  · rcases set_get hj with ⟨rfl, rfl, hl⟩ | ⟨hne, hj⟩
    · rw [e]; exact q
    · exact (s.sl j c2 hj).upd fun o2 e2 => ap j c2 (Ne.symm hne) hj o2 (join_of e2)
  · rcases set_get h1 with ⟨rfl, rfl, hl⟩ | ⟨n1, g1⟩
    · rcases set_get h2 with ⟨rfl, rfl, _⟩ | ⟨n2, g2⟩
      · rfl
      · rw [e] at e1
        cases Option.some.inj (Option.some.inj e1)
        exact absurd e2 (ap k c2 (Ne.symm n2) g2 o2)
    · rcases set_get h2 with ⟨rfl, rfl, hl⟩ | ⟨n2, g2⟩
      · rw [e] at e2
        cases Option.some.inj (Option.some.inj e2)
        exact absurd e1 (ap j c1 (Ne.symm n1) g1 o1)
      · exact s.inj j k c1 c2 b g1 g2 o1 o2 e1 e2
/-- a new object becomes slot i's own -/
theorem SR.put_new (s : SR C B F H σ Γ) {i : Nat} {c : Cell} {a : Addr} (ha : ∀ (j : Nat) (c' : Cell), Γ[j]? = some c' → c'.own = true → σ[j]? ≠ some (some (.ref a))) (q : SlotOk C B F H (some (.ref a)) c) :
    SR C B F H (σ.set i (some (.ref a))) (Γ.set i c) :=
  s.put (fun _ => q) fun _ b e j c' hj h o => by cases Option.some.inj e; exact ha j c' h o
/-- no own slot stands at a place that is free, or was free at an earlier heap -/
theorem SR.notOwn (s : SR C B F H σ Γ) {a : Addr} (hp : H a = none) : ∀ (j : Nat) (c' : Cell), Γ[j]? = some c' → c'.own = true → σ[j]? ≠ some (some (.ref a)) := fun j c' h o e => by
  have q := s.sl j c' h
  rw [e] at q
  cases c' with
  | dead => cases o
  | val d => cases o
  | ownL l =>
    obtain ⟨b, xs, hb, f, z, k, r⟩ := q
    cases Option.some.inj hb
    rw [hp] at k; cases k
  | ownK l =>
    obtain ⟨b, xs, hb, f, z, k, r⟩ := q
    cases Option.some.inj hb
    rw [hp] at k; cases k
  | ownT l =>
    obtain ⟨b, xs, hb, f, z, k, r⟩ := q
    cases Option.some.inj hb
    rw [hp] at k; cases k
  | ownI c l =>
    obtain ⟨b, xs, hb, me, f, z, ⟨dx, k⟩, r⟩ := q
    cases Option.some.inj hb
    rw [hp] at k; cases k
theorem SlotOk.adopt {v : Option V} {a : Addr} {u : HO} (hF : F a = none) : ∀ {c : Cell}, SlotOk C B F H v c → (c.own = true → v ≠ some (.ref a)) → SlotOk C B (updW F a (.o u)) H v c
  | .dead, _, _ => trivial
  | .val d, q, _ => by
    obtain ⟨w, h, r⟩ := q
    exact ⟨w, h, Rep.le (le_upd hF) d w r⟩
  | .ownL l, q, n => by
    obtain ⟨b, xs, h, f, z, k, r⟩ := q
    exact ⟨b, xs, h, by rw [updW_ne (fun e => n rfl (by rw [h, e]))]; exact f, z, k, RepL.le (le_upd hF) _ _ r⟩
  | .ownK l, q, n => by
    obtain ⟨b, xs, h, f, z, k, r⟩ := q
    exact ⟨b, xs, h, by rw [updW_ne (fun e => n rfl (by rw [h, e]))]; exact f, z, k, r.le (le_upd hF)⟩
  | .ownT l, q, n => by
    obtain ⟨b, xs, h, f, z, k, r⟩ := q
    exact ⟨b, xs, h, by rw [updW_ne (fun e => n rfl (by rw [h, e]))]; exact f, z, k, r.le (le_upd hF)⟩
  | .ownI c l, q, n => by
    obtain ⟨b, xs, h, me, f, z, k, r⟩ := q
    exact ⟨b, xs, h, me, by rw [updW_ne (fun e => n rfl (by rw [h, e]))]; exact f, z, k, RepL.le (le_upd hF) _ _ r⟩
/-- slot i's own list is frozen -/
theorem SR.freeze (s : SR C B F H σ Γ) {i : Nat} {l : List D} (h : Γ[i]? = some (.ownL l)) : ∃ F', SR C B F' H σ (Γ.set i (.val (.lst l))) ∧ ∀ b x, F b = some x → F' b = some x := by
  obtain ⟨a, xs, e, fa, ha, k, r⟩ := s.sl i _ h
  have e' := join_of e
  have ap := s.apart h rfl e'
  refine ⟨updW F a (.o (.lst xs)), ⟨s.fits.adopt fa k, s.ext.adopt fa ha, by rw [List.length_set]; exact s.len, fun j c2 hj => ?_, fun j k c1 c2 b h1 h2 o1 o2 e1 e2 => ?_⟩, le_upd fa⟩
  · rcases set_get hj with ⟨rfl, rfl, hl⟩ | ⟨hne, hj⟩
    · exact ⟨_, e, a, xs, rfl, updW_same, RepL.le (le_upd fa) _ _ r⟩
    · exact (s.sl j c2 hj).adopt fa fun o2 e2 => ap j c2 (Ne.symm hne) hj o2 (join_of e2)
  · rcases set_get h1 with ⟨rfl, rfl, hl⟩ | ⟨n1, g1⟩
    · cases o1
    · rcases set_get h2 with ⟨rfl, rfl, hl⟩ | ⟨n2, g2⟩
      · cases o2
      · exact s.inj j k c1 c2 b g1 g2 o1 o2 e1 e2
theorem Ext.free0 (e : Ext F H F' H') (f : Fits C F H) (f' : Fits C F' H') {p : Addr} (h : H' p = none) : H p = none := by
  cases q : H p with
  | none => rfl
  | some u =>
    cases z : F p with
    | none => rw [(e.own q z).1] at h; cases h
    | some x =>
      have := f' p x (e.le p x z)
      cases x with
      | o v => rw [h] at this; cases this
      | c m => obtain ⟨_, v, w⟩ := this; rw [h] at w; cases w
theorem SR.base (s : SR C B F H σ Γ) {p : Addr} (h : H p = none) : B.2 p = none := by
  cases q : B.2 p with
  | none => rfl
  | some u =>
    by_cases hm : ∃ m, B.1 p = some (.c m)
    · obtain ⟨m, hm⟩ := hm
      have := s.fits p _ (s.ext.le p _ hm)
      obtain ⟨_, v, w⟩ := this
      rw [h] at w; cases w
    · have := s.ext.keep p u q fun m z => hm ⟨m, z⟩
      rw [h] at this; cases this
end
end G

set_option Elab.async false
set_option linter.all false
set_option maxRecDepth 100000
set_option maxHeartbeats 4000000
/-! GD: expressions: the rules over data. -/
namespace G
open PySem L2

/-! ### what is wanted of an outcome -/
def Po {α β : Type} (C : Cfg) (Rp : Wd → Hp → β → α → Prop) (F : Wd) (H : Hp) (r : R α) (Q : β → Hp → Prop) (Ex : Nat → Hp → Prop) : Prop :=
  match r with
  | .ok a => ∀ v F' H', Ext F H F' H' → Fits C F' H' → Rp F' H' v a → Q v H'
  | .exc c => ∀ F' H', Ext F H F' H' → Fits C F' H' → Ex c H'
  | .bad => False
section
variable {α α' β β' : Type} {C : Cfg} {Rp : Wd → Hp → β → α → Prop} {Rp' : Wd → Hp → β' → α' → Prop} {F F' : Wd} {H H' : Hp} {r : R α} {Q Q1 : β → Hp → Prop} {Q' : β' → Hp → Prop} {Ex : Nat → Hp → Prop}
theorem Po.ext (p : Po C Rp F H r Q Ex) (e : Ext F H F' H') : Po C Rp F' H' r Q Ex := by
  cases r with
  | ok a => exact fun v F2 H2 e2 f2 h => p v F2 H2 (e.trans e2) f2 h
  | exc c => exact fun F2 H2 e2 f2 => p F2 H2 (e.trans e2) f2
  | bad => exact p
theorem Po.mono (p : Po C Rp F H r Q Ex) (h : ∀ v H', Q v H' → Q1 v H') : Po C Rp F H r Q1 Ex := by
  cases r with
  | ok a => exact fun v F2 H2 e2 f2 q => h _ _ (p v F2 H2 e2 f2 q)
  | exc c => exact p
  | bad => exact p
theorem Po.bind {k : α → R α'} (p : Po C Rp' F H (r.bind k) Q' Ex) :
    Po C Rp F H r (fun v H1 => ∃ F1 a, Ext F H F1 H1 ∧ Fits C F1 H1 ∧ Rp F1 H1 v a ∧ r = .ok a ∧ Po C Rp' F1 H1 (k a) Q' Ex) Ex := by
  cases r with
  | ok a => exact fun v F1 H1 e1 f1 q => ⟨F1, a, e1, f1, q, rfl, Po.ext p e1⟩
  | exc c => exact p
  | bad => exact p
/-- the outcome is there already -/
theorem Po.now {a : α} {v : β} (p : Po C Rp F H (.ok a) Q Ex) (f : Fits C F H) (q : Rp F H v a) : Q v H := p v F H (Ext.refl _ _) f q
end
abbrev RpD (C : Cfg) : Wd → Hp → V → D → Prop := fun F _ v d => Rep C F v d
abbrev RpL (C : Cfg) : Wd → Hp → List V → List D → Prop := fun F _ v d => RepL C F v d
abbrev RpT : Wd → Hp → Bool → Bool → Prop := fun _ _ b c => b = c
/-- .. where a list of the frame's own may stand -/
def RpB (C : Cfg) : Wd → Hp → V → D → Prop := fun F H v d => Rep C F v d ∨ (∃ a xs l, v = .ref a ∧ d = .lst l ∧ F a = none ∧ H a = some (.lst xs) ∧ RepL C F xs l) ∨
  ∃ a dx xs c l, v = .ref a ∧ d = .obj c l ∧ F a = none ∧ H a = some (.ins (C.cls c) dx ((((C.flds c).take l.length).map C.fnm).zip xs)) ∧ RepL C F xs l
/-- .. where a list is new (free at H0) and not yet frozen -/
def RpN (C : Cfg) (H0 : Hp) : Wd → Hp → V → D → Prop := fun F H v d => match d with
  | .lst l => ∃ a xs, v = .ref a ∧ H0 a = none ∧ F a = none ∧ H a = some (.lst xs) ∧ RepL C F xs l
  | d => Rep C F v d
def Wx (C : Cfg) (W : WX) (σ : L2.St) : Nat → Hp → Prop := fun c H' => W (.ref (C.exa c)) none σ H'
def tD (C : Cfg) (B : Bs) (Γ : Gam) (W : WX) (r : R D) : TE := fun σ H Q => ∃ F, SR C B F H σ Γ ∧ Po C (RpD C) F H r Q (Wx C W σ)
def tB (C : Cfg) (B : Bs) (Γ : Gam) (W : WX) (r : R D) : TE := fun σ H Q => ∃ F, SR C B F H σ Γ ∧ Po C (RpB C) F H r Q (Wx C W σ)
def tN (C : Cfg) (B : Bs) (Γ : Gam) (W : WX) (r : R D) : TE := fun σ H Q => ∃ F, SR C B F H σ Γ ∧ Po C (RpN C H) F H r Q (Wx C W σ)
def tT (C : Cfg) (B : Bs) (Γ : Gam) (W : WX) (r : R Bool) : TT := fun σ H Q => ∃ F, SR C B F H σ Γ ∧ Po C RpT F H r Q (Wx C W σ)
def tL (C : Cfg) (B : Bs) (Γ : Gam) (W : WX) (r : R (List D)) : TA := fun σ H Q => ∃ F, SR C B F H σ Γ ∧ Po C (RpL C) F H r Q (Wx C W σ)
end G
namespace L2
open PySem G
variable {X : Cx} {e : Expr} {es : List Expr}
theorem PE.imp {t t' : TE} (h : PE X e t) (i : ∀ σ H Q, t' σ H Q → t σ H Q) : PE X e t' := ⟨fun pins s σ H Q I q => h.run pins s σ H Q I (i σ H Q q)⟩
theorem PT.imp {t t' : TT} (h : PT X e t) (i : ∀ σ H Q, t' σ H Q → t σ H Q) : PT X e t' := ⟨fun pins s σ H Q I q => h.run pins s σ H Q I (i σ H Q q)⟩
theorem PW.imp {t t' : TT} (h : PW X e t) (i : ∀ σ H Q, t' σ H Q → t σ H Q) : PW X e t' := ⟨fun wh pins s σ H Q I q => h.run wh pins s σ H Q I (i σ H Q q)⟩
theorem PA.imp {t t' : TA} (h : PA X es t) (i : ∀ σ H Q, t' σ H Q → t σ H Q) : PA X es t' := ⟨fun pos pins s σ H Q I q => h.run pos pins s σ H Q I (i σ H Q q)⟩
end L2
namespace G
open PySem L2

/-! ### plain forms -/
def okx : Expr → Bool
  | .Starred .. => false
  | .Set .. => false
  | .Slice .. => false
  | .NamedExpr .. => false
  | .Lambda .. => false
  | .SetComp .. => false
  | .DictComp .. => false
  | .GeneratorExp .. => false
  | .Await .. => false
  | .Yield .. => false
  | .YieldFrom .. => false
  | _ => true
theorem star_cons {e : Expr} {es : List Expr} {env : Env} (h : okx e = true) : starEach (e :: es) env = (false, eval e env) :: starEach es env := by
  cases e <;> first | rfl | cases h
theorem star_any {es : List Expr} {env : Env} {pos : Pos} (h : es.all okx = true) : (backTo pos (starEach es env)).any (·.1) = false := by
  induction es with
  | nil => rfl
  | cons e r ih =>
    rw [List.all_cons, Bool.and_eq_true] at h
    rw [star_cons h.1]
    have := ih h.2
    unfold backTo at this ⊢
    rw [List.map_cons, List.any_cons]
    simpa using this
theorem plainIx_ok {e : Expr} (h : okx e = true) : PlainIx e := fun o i => by
  cases e <;> first | rfl | cases h
theorem nomark_ok {e : Expr} (h : okx e = true) (op : CmpOp) : behindInMarks op e = false := by
  cases e <;> first | rfl | cases h
theorem folded_ok {e : Expr} {env : Env} (h : okx e = true) : ∀ x, foldedSetIterable e env x = pure x := fun x => by
  cases e <;> first | rfl | cases h
def notSuper : Expr → Bool
  | .Call .. => false
  | _ => true
theorem attr_ok {e : Expr} {x : Str} {env : Env} (h : notSuper e = true) : attributeBase e x env (eval e env) = eval e env := by
  cases e <;> first | rfl | cases h

/-! ### the static tables -/
inductive Cb where
  | fn (x : Str) | meth (m : Str) | prop (m : Str) | smeth (x m : Str) | op (o : Operator)
structure Tb where
  fname : Nat → Str
  gname : Nat → Option Str
  cname : Nat → Option Str
  ename : Nat → Option Str
  cb : Nat → Option (Scope → Expr → Option (List Expr))
  cm : Nat → Option (Scope → Expr → Option (List Expr))
  ow : Nat → Option (List Str → Nat → Scope → Expr → Option (List Expr))
  hs : Nat → Option (List Str → Scope → Stmt → Bool)

structure XOk (C : Cfg) (N : List Str) (sc : Scope) (top : Bool) (X : Cx) : Prop where
  eP : X.prog = C.P
  eW : X.w = C.w
  eK : X.K = C.K
  eM : X.mg = C.mg
  eB : X.base = C.base
  eN : X.N = N
  eS : X.env.scope = sc
  nd : N.Nodup
  calm : X.calm = true
  room : Room C.J X.A
  fnT : top = true → ∀ x, X.fn x = true

def visB (sc : Scope) (x : Str) : Bool := match sc.names.lookup x with
  | some .local => true
  | some .cell => true
  | some .free => true
  | _ => false
def nmOk (x : Str) : Bool := !(x == ("__debug__" : Str)) && !(x == ("__classdict__" : Str)) && !(x == ("__name__" : Str))
def glB (sc : Scope) (x : Str) : Bool := match sc.names.lookup x with
  | some .globalImplicit => nmOk x
  | _ => false
section
variable {C : Cfg} {N : List Str} {sc : Scope} {top : Bool} {X : Cx} {B : Bs} {Γ : Gam} {W : WX} {pos p : Pos}
theorem XOk.vis (h : XOk C N sc top X) {x : Str} (v : visB sc x = true) : Vis X.env.scope x := by
  rw [h.eS]
  unfold visB at v
  split at v
  · rename_i e; exact .inl e
  · rename_i e; exact .inr (.inl e)
  · rename_i e; exact .inr (.inr e)
  · cases v
theorem XOk.gl (h : XOk C N sc top X) {x : Str} (v : glB sc x = true) : Gl X x := by
  show X.env.scope.names.lookup x = some .globalImplicit
  rw [h.eS]
  unfold glB at v
  split at v
  · rename_i e; exact e
  · cases v
theorem glB_nm {sc : Scope} {x : Str} (v : glB sc x = true) : nmOk x = true := by
  unfold glB at v
  split at v
  · exact v
  · cases v
theorem nm_d {x : Str} (h : nmOk x = true) : (x == ("__debug__" : Str)) = false := by
  unfold nmOk at h; simp only [Bool.and_eq_true, Bool.not_eq_true'] at h; exact h.1.1
theorem nm_c {x : Str} (h : nmOk x = true) : (x == ("__classdict__" : Str)) = false := by
  unfold nmOk at h; simp only [Bool.and_eq_true, Bool.not_eq_true'] at h; exact h.1.2
theorem nm_n {x : Str} (h : nmOk x = true) : x ≠ "__name__" := by
  unfold nmOk at h; simp only [Bool.and_eq_true, Bool.not_eq_true'] at h; intro e; rw [e] at h; simp at h
end

/-! ### rules -/
section
variable {C : Cfg} {N : List Str} {sc : Scope} {top : Bool} {X : Cx} {B : Bs} {Γ : Gam} {W : WX} {pos p : Pos} {a b c : Expr} {ra rb : R D}
theorem RpB.of {F : Wd} {H : Hp} {v : V} {d : D} (q : Rep C F v d) : RpB C F H v d := .inl q
theorem RpB.ext {F F' : Wd} {H H' : Hp} {v : V} {d : D} (q : RpB C F H v d) (e : Ext F H F' H') : RpB C F' H' v d := by
  rcases q with q | ⟨a, xs, l, e1, e2, f, h, r⟩ | ⟨a, dx, xs, c, l, e1, e2, f, h, r⟩
  · exact .inl (Rep.le e.le d v q)
  · obtain ⟨h', f'⟩ := e.own h f
    exact .inr (.inl ⟨a, xs, l, e1, e2, f', h', RepL.le e.le _ _ r⟩)
  · obtain ⟨h', f'⟩ := e.own h f
    exact .inr (.inr ⟨a, dx, xs, c, l, e1, e2, f', h', RepL.le e.le _ _ r⟩)
theorem RpB.lst {F : Wd} {H : Hp} {v : V} {l : List D} (q : RpB C F H v (.lst l)) (f : Fits C F H) : ∃ a xs, v = .ref a ∧ H a = some (.lst xs) ∧ RepL C F xs l := by
  rcases q with ⟨a, xs, e, h, r⟩ | ⟨a, xs, l', e, e2, _, h, r⟩ | ⟨_, _, _, _, _, _, e2, _⟩
  · exact ⟨a, xs, e, f a _ h, r⟩
  · cases e2
    exact ⟨a, xs, e, h, r⟩
  · cases e2
def D.isLO : D → Bool
  | .lst _ => true
  | .obj _ _ => true
  | _ => false
theorem RpB.notlst {F : Wd} {H : Hp} {v : V} {d : D} (q : RpB C F H v d) (n : d.isLO = false) : Rep C F v d := by
  rcases q with q | ⟨a, xs, l, e1, e2, _⟩ | ⟨_, _, _, _, _, _, e2, _⟩
  · exact q
  · rw [e2] at n; cases n
  · rw [e2] at n; cases n
theorem Rep.tup_ {F : Wd} {H : Hp} {v : V} {l : List D} (q : Rep C F v (.tup l)) (f : Fits C F H) : ∃ a xs, v = .ref a ∧ H a = some (.tup xs) ∧ RepL C F xs l := by
  obtain ⟨a, xs, e, h, r⟩ := q
  exact ⟨a, xs, e, f a _ h, r⟩
theorem nd_B (h : PE X a (tD C B Γ W ra)) : PE X a (tB C B Γ W ra) := h.imp fun σ H Q ⟨F, s, p⟩ => ⟨F, s, by
  cases ra with
  | ok d => exact fun v F' H' e f q => p v F' H' e f (.inl q)
  | exc c => exact p
  | bad => exact p⟩
theorem nd_var (h : XOk C N sc top X) {i : Nat} {x : Str} (hN : N[i]? = some x) (hv : visB sc x = true) (hn : nmOk x = true) :
    PE X (.Name x pos) (tD C B Γ W (match Γ[i]? with | some (.val d) => .ok d | _ => .bad)) := by
  refine (pe_var (i := i) (by rw [h.eN]; exact hN) (h.vis hv) (nm_d hn) (nm_c hn)).imp fun σ H Q ⟨F, s, p⟩ => ?_
  cases e : Γ[i]? with
  | none => rw [e] at p; exact p.elim
  | some c =>
    rw [e] at p
    cases c with
    | val d =>
      obtain ⟨v, hv, r⟩ := s.val e
      exact ⟨v, hv, p.now s.fits r⟩
    | dead => exact p.elim
    | ownL l => exact p.elim
    | ownK l => exact p.elim
    | ownT l => exact p.elim
    | ownI c l => exact p.elim
theorem nd_varB (h : XOk C N sc top X) {i : Nat} {x : Str} (hN : N[i]? = some x) (hv : visB sc x = true) (hn : nmOk x = true) (r : R D) :
    PE X (.Name x pos) (tB C B Γ W (borrow Γ (.var i) r)) := by
  refine (pe_var (i := i) (by rw [h.eN]; exact hN) (h.vis hv) (nm_d hn) (nm_c hn)).imp fun σ H Q ⟨F, s, p⟩ => ?_
  unfold borrow at p
  cases e : Γ[i]? with
  | none => simp only [e] at p; exact p.elim
  | some c =>
    simp only [e] at p
    cases c with
    | val d =>
      obtain ⟨v, hv, r⟩ := s.val e
      exact ⟨v, hv, p.now s.fits (.inl r)⟩
    | ownL l =>
      obtain ⟨a, xs, e1, fa, _, ha, rl⟩ := s.sl i _ e
      exact ⟨_, join_of e1, p.now s.fits (.inr (.inl ⟨a, xs, l, rfl, rfl, fa, ha, rl⟩))⟩
    | ownI c l =>
      obtain ⟨a, xs, e1, _, fa, _, ⟨dx, ha⟩, rl⟩ := s.sl i _ e
      exact ⟨_, join_of e1, p.now s.fits (.inr (.inr ⟨a, dx, xs, c, l, rfl, rfl, fa, ha, rl⟩))⟩
    | dead => exact p.elim
    | ownK l => exact p.elim
    | ownT l => exact p.elim
theorem nd_const {v : V} {d : D} (h : PE X a (tC v)) (r : ∀ F, Rep C F v d) : PE X a (tD C B Γ W (.ok d)) := h.imp fun σ H Q ⟨F, s, p⟩ => p.now s.fits (r F)
theorem RpN.of {H0 : Hp} {F : Wd} {H : Hp} {v : V} {d : D} (q : Rep C F v d) (n : ∀ l, d ≠ .lst l) : RpN C H0 F H v d := by
  cases d with
  | lst l => exact absurd rfl (n l)
  | _ => exact q
theorem nd_adopt (h : PE X a (tN C B Γ W ra)) : PE X a (tD C B Γ W ra) := h.imp fun σ H Q ⟨F, s, p⟩ => ⟨F, s, by
  cases ra with
  | ok d =>
    intro v F' H' e f q
    cases d with
    | lst l =>
      obtain ⟨a, xs, rfl, h0, fa, ha, r⟩ := q
      exact p _ _ _ (e.adopt fa h0) (f.adopt fa ha) ⟨a, xs, rfl, updW_same, RepL.le (le_upd fa) _ _ r⟩
    | _ => exact p v F' H' e f q
  | exc c => exact p
  | bad => exact p⟩
theorem nd_bin {op : Operator} {r : R2} {g : D → D → R D} (ho : OpR X (binaryOp op) r) (ha : PE X a (tB C B Γ W ra)) (hb : PE X b (tB C B Γ W rb))
    (hg : ∀ H0 F H x y dx dy Q Ex, (∀ p, H p = none → H0 p = none) → Fits C F H → RpB C F H x dx → RpB C F H y dy → Po C (RpN C H0) F H (g dx dy) Q Ex → r x y H Q) :
    PE X (.BinOp a op b pos) (tN C B Γ W (ra.bind fun x => rb.bind fun y => g x y)) :=
  (pe_op ho ha hb).imp fun σ H Q ⟨F, s, p⟩ => ⟨F, s, p.bind.mono fun x H1 ⟨F1, dx, e1, f1, r1, _, p1⟩ => ⟨F1, s.ext_ e1 f1, p1.bind.mono fun y H2 ⟨F2, dy, e2, f2, r2, _, p2⟩ =>
    hg H F2 H2 x y dx dy Q _ (fun p h => (e1.trans e2).free0 s.fits f2 h) f2 (r1.ext e2) r2 p2⟩⟩
theorem nd_un {op : UnaryOp} {r : V → Hp → VK → Prop} {g : D → R D} (ho : UnR X (unaryOp op) r) (ha : PE X a (tD C B Γ W ra))
    (hg : ∀ F H x dx Q Ex, Fits C F H → Rep C F x dx → Po C (RpD C) F H (g dx) Q Ex → r x H Q) : PE X (.UnaryOp op a pos) (tD C B Γ W (ra.bind g)) :=
  (pe_un ho ha).imp fun σ H Q ⟨F, s, p⟩ => ⟨F, s, p.bind.mono fun x H1 ⟨F1, dx, e1, f1, r1, _, p1⟩ => hg F1 H1 x dx Q _ f1 r1 p1⟩
/-- a comparison, both operands borrowed -/
theorem nd_cmp {op : CmpOp} {r : R2} {g : D → D → R Bool} (ho : OpR X (compareOp op) r) (ha : PE X a (tB C B Γ W ra)) (hb : PE X b (tB C B Γ W rb)) (hm : okx b = true)
    (hg : ∀ F H x y dx dy (Q : VK) Ex, Fits C F H → RpB C F H x dx → RpB C F H y dy → Po C RpT F H (g dx dy) (fun k H' => Q (.bl k) H') Ex → r x y H Q) :
    PE X (.Compare a [op] [b] pos) (tD C B Γ W (ra.bind fun x => rb.bind fun y => (g x y).bind fun k => .ok (.bl k))) ∧
    PT X (.Compare a [op] [b] pos) (tT C B Γ W (ra.bind fun x => rb.bind fun y => g x y)) := by
  refine ⟨?_, ?_⟩
  · refine (pe_cmpR ho ha hb (nomark_ok hm op)).imp fun σ H Q ⟨F, s, p⟩ => ⟨F, s, p.bind.mono fun x H1 ⟨F1, dx, e1, f1, r1, _, p1⟩ => ⟨F1, s.ext_ e1 f1, p1.bind.mono fun y H2 ⟨F2, dy, e2, f2, r2, _, p2⟩ => ?_⟩⟩
    exact hg F2 H2 x y dx dy Q (Wx C W σ) f2 (r1.ext e2) r2 (p2.bind.mono fun k H3 ⟨F3, k', e3, f3, ek, _, p3⟩ => by cases ek; exact p3.now f3 rfl)
  · refine (pt_cmpR ho ha hb (nomark_ok hm op)).imp fun σ H Q ⟨F, s, p⟩ => ⟨F, s, p.bind.mono fun x H1 ⟨F1, dx, e1, f1, r1, _, p1⟩ => ⟨F1, s.ext_ e1 f1, p1.bind.mono fun y H2 ⟨F2, dy, e2, f2, r2, _, p2⟩ => ?_⟩⟩
    exact hg F2 H2 x y dx dy (fun z H' => ∃ k, z = .bl k ∧ Q k H') _ f2 (r1.ext e2) r2 (p2.mono fun k H3 q => ⟨k, rfl, q⟩)
end
end G

set_option Elab.async false
set_option linter.all false
set_option maxRecDepth 100000
set_option maxHeartbeats 4000000
/-! GE: the operators over data. -/
namespace G
open PySem L2

theorem line_eq : sizeLine = LINE := by rw [sizeLine_eq]
theorem laid {C : Cfg} {F : Wd} {H : Hp} {p : Addr} {u : HO} (f : Fits C F H) (hp : H p = none) : Ext F H (updW F p (.o u)) (upd H p u) ∧ Fits C (updW F p (.o u)) (upd H p u) :=
  ⟨((Ext.refl F H).fresh hp).adopt (f.free hp) hp, (f.fresh hp).adopt (f.free hp) upd_same⟩
theorem laid_le {C : Cfg} {F : Wd} {H : Hp} {p : Addr} {u : HO} (f : Fits C F H) (hp : H p = none) : ∀ b x, F b = some x → updW F p (.o u) b = some x := le_upd (f.free hp)
theorem Sx_len (s : List Nat) : (Sx s).length = s.length := by simp [Sx, Str.length]
theorem Sx_cps (s : List Nat) : (Sx s).cps.toList = s := by simp [Sx]
theorem Sx_app (s t : List Nat) : Sx s ++ Sx t = Sx (s ++ t) := by
  show Str.append (Sx s) (Sx t) = _
  simp [Sx, Str.append]
theorem Sx_inj {s t : List Nat} (h : Sx s = Sx t) : s = t := by
  have := congrArg (fun z => z.cps.toList) h
  simpa [Sx] using this

/-! ### data read -/
section
variable {C : Cfg} {F : Wd} {H : Hp} {K : PySem.W.Frag}
mutual
theorem Rep.dp (f : Fits C F H) : ∀ (d : D) (n : Nat) (v : V), Rep C F v d → d.flat n = true → Dp K H v d.py
  | .non, n, v, q, _ => by rw [show v = _ from q, D.py]; exact .non
  | .bl b, n, v, q, _ => by rw [show v = _ from q, D.py]; exact .bl b
  | .int i, n, v, q, _ => by rw [show v = _ from q, D.py]; exact .int i
  | .str s, n, v, q, _ => by rw [show v = _ from q, D.py]; exact .str _
  | .tup l, 0, v, q, h => by simp [D.flat] at h
  | .tup l, n + 1, v, q, h => by
    obtain ⟨a, xs, rfl, e, r⟩ := q
    rw [D.py]
    exact .tup (SqT.of (f a _ e)) (RepL.dp f l n xs r (by simpa [D.flat] using h))
  | .lst l, 0, v, q, h => by simp [D.flat] at h
  | .lst l, n + 1, v, q, h => by
    obtain ⟨a, xs, rfl, e, r⟩ := q
    rw [D.py]
    exact .lst (SqL.of (f a _ e)) (RepL.dp f l n xs r (by simpa [D.flat] using h))
  | .obj _ _, n, v, q, h => by cases n <;> simp [D.flat] at h
  | .scr _, n, v, q, h => by cases n <;> simp [D.flat] at h
  | .dt _ _, n, v, q, h => by cases n <;> simp [D.flat] at h
  | .cache _, n, v, q, h => by cases n <;> simp [D.flat] at h
theorem RepL.dp (f : Fits C F H) : ∀ (l : List D) (n : Nat) (vs : List V), RepL C F vs l → D.flatL n l = true → DpAll K H vs (D.pyL l)
  | [], n, vs, q, _ => by rw [show vs = [] from q, D.pyL]; exact .nil
  | d :: ds, n, vs, q, h => by
    obtain ⟨v, r, rfl, q1, q2⟩ := q
    rw [D.flatL, Bool.and_eq_true] at h
    rw [D.pyL]
    exact .cons (Rep.dp f d n v q1 h.1) (RepL.dp f ds n r q2 h.2)
end
theorem RpB.dp (f : Fits C F H) {d : D} {n : Nat} {v : V} (q : RpB C F H v d) (h : d.flat n = true) : Dp K H v d.py := by
  rcases q with q | ⟨a, xs, l, rfl, rfl, fa, ha, r⟩ | ⟨_, _, _, _, _, _, rfl, _⟩
  · exact Rep.dp f d n v q h
  · cases n with
    | zero => simp [D.flat] at h
    | succ n =>
      rw [D.py]
      exact .lst (SqL.of ha) (RepL.dp f l n xs r (by simpa [D.flat] using h))
  · cases n <;> simp [D.flat] at h
end
mutual
theorem eqv_py : ∀ (a b : D) (n m : Nat), a.flat n = true → b.flat m = true → PyData.eqv a.py b.py = a.eqv b
  | .tup l, .tup k, n, m, h1, h2 => by
    cases n with
    | zero => simp [D.flat] at h1
    | succ n =>
      cases m with
      | zero => simp [D.flat] at h2
      | succ m =>
        simp only [D.py, PyData.eqv, D.eqv]
        exact eqv_pyL l k n m (by simpa [D.flat] using h1) (by simpa [D.flat] using h2)
  | .lst l, .lst k, n, m, h1, h2 => by
    cases n with
    | zero => simp [D.flat] at h1
    | succ n =>
      cases m with
      | zero => simp [D.flat] at h2
      | succ m =>
        simp only [D.py, PyData.eqv, D.eqv]
        exact eqv_pyL l k n m (by simpa [D.flat] using h1) (by simpa [D.flat] using h2)
  | .str s, .str t, n, m, h1, h2 => by
    simp only [D.py, PyData.eqv, D.eqv]
    by_cases e : s = t
    · subst e; simp
    · have : Sx s ≠ Sx t := fun z => e (Sx_inj z)
      rw [beq_eq_false_iff_ne.mpr this, beq_eq_false_iff_ne.mpr e]
  | .non, b, n, m, h1, h2 => by cases b <;> first | (cases m <;> simp [D.flat] at h2 <;> done) | (simp only [D.py, PyData.eqv, D.eqv])
  | .bl _, b, n, m, h1, h2 => by cases b <;> first | (cases m <;> simp [D.flat] at h2 <;> done) | (simp only [D.py, PyData.eqv, D.eqv])
  | .int _, b, n, m, h1, h2 => by cases b <;> first | (cases m <;> simp [D.flat] at h2 <;> done) | (simp only [D.py, PyData.eqv, D.eqv])
  | .str _, .non, n, m, h1, h2 => by simp only [D.py, PyData.eqv, D.eqv]
  | .str _, .bl _, n, m, h1, h2 => by simp only [D.py, PyData.eqv, D.eqv]
  | .str _, .int _, n, m, h1, h2 => by simp only [D.py, PyData.eqv, D.eqv]
  | .str _, .tup _, n, m, h1, h2 => by simp only [D.py, PyData.eqv, D.eqv]
  | .str _, .lst _, n, m, h1, h2 => by simp only [D.py, PyData.eqv, D.eqv]
  | .tup _, .non, n, m, h1, h2 => by simp only [D.py, PyData.eqv, D.eqv]
  | .tup _, .bl _, n, m, h1, h2 => by simp only [D.py, PyData.eqv, D.eqv]
  | .tup _, .int _, n, m, h1, h2 => by simp only [D.py, PyData.eqv, D.eqv]
  | .tup _, .str _, n, m, h1, h2 => by simp only [D.py, PyData.eqv, D.eqv]
  | .tup _, .lst _, n, m, h1, h2 => by simp only [D.py, PyData.eqv, D.eqv]
  | .lst _, .non, n, m, h1, h2 => by simp only [D.py, PyData.eqv, D.eqv]
  | .lst _, .bl _, n, m, h1, h2 => by simp only [D.py, PyData.eqv, D.eqv]
  | .lst _, .int _, n, m, h1, h2 => by simp only [D.py, PyData.eqv, D.eqv]
  | .lst _, .str _, n, m, h1, h2 => by simp only [D.py, PyData.eqv, D.eqv]
  | .lst _, .tup _, n, m, h1, h2 => by simp only [D.py, PyData.eqv, D.eqv]
  | .obj _ _, _, n, m, h1, h2 => by cases n <;> simp [D.flat] at h1
  | .scr _, _, n, m, h1, h2 => by cases n <;> simp [D.flat] at h1
  | .dt _ _, _, n, m, h1, h2 => by cases n <;> simp [D.flat] at h1
  | .cache _, _, n, m, h1, h2 => by cases n <;> simp [D.flat] at h1
  | _, .obj _ _, n, m, h1, h2 => by cases m <;> simp [D.flat] at h2
  | _, .scr _, n, m, h1, h2 => by cases m <;> simp [D.flat] at h2
  | _, .dt _ _, n, m, h1, h2 => by cases m <;> simp [D.flat] at h2
  | _, .cache _, n, m, h1, h2 => by cases m <;> simp [D.flat] at h2
theorem eqv_pyL : ∀ (a b : List D) (n m : Nat), D.flatL n a = true → D.flatL m b = true → PyData.eqvAll (D.pyL a) (D.pyL b) = D.eqvL a b
  | [], [], _, _, _, _ => by simp only [D.pyL, PyData.eqvAll, D.eqvL]
  | [], _ :: _, _, _, _, _ => by simp only [D.pyL, PyData.eqvAll, D.eqvL]
  | _ :: _, [], _, _, _, _ => by simp only [D.pyL, PyData.eqvAll, D.eqvL]
  | x :: xs, y :: ys, n, m, h1, h2 => by
    rw [D.flatL, Bool.and_eq_true] at h1 h2
    simp only [D.pyL, PyData.eqvAll, D.eqvL]
    rw [eqv_py x y n m h1.1 h2.1, eqv_pyL xs ys n m h1.2 h2.2]
end
mutual
theorem flat_lay : ∀ (d : D) (n : Nat), d.flat n = true → d.py.canLay0 = true ∧ d.py.depth ≤ n
  | .non, n, _ => by simp [D.py, PyData.canLay0, PyData.depth]
  | .bl _, n, _ => by simp [D.py, PyData.canLay0, PyData.depth]
  | .int _, n, _ => by simp [D.py, PyData.canLay0, PyData.depth]
  | .str s, n, h => by
    simp only [D.flat, Bool.and_eq_true, List.all_eq_true, decide_eq_true_eq] at h
    refine ⟨?_, by simp [D.py, PyData.depth]⟩
    simp only [D.py, PyData.canLay0, PyData.strOk]
    rw [Array.all_eq_true']
    intro x hx
    have : x ∈ s := by simpa [Sx] using hx
    have := h.1 x this
    simp; omega
  | .tup l, 0, h => by simp [D.flat] at h
  | .lst l, 0, h => by simp [D.flat] at h
  | .tup l, n + 1, h => by
    obtain ⟨h1, h2⟩ := flat_layL l n (by simpa [D.flat] using h)
    simp only [D.py, PyData.canLay0, PyData.depth]
    exact ⟨h1, by omega⟩
  | .lst l, n + 1, h => by
    obtain ⟨h1, h2⟩ := flat_layL l n (by simpa [D.flat] using h)
    simp only [D.py, PyData.canLay0, PyData.depth]
    exact ⟨h1, by omega⟩
  | .obj _ _, n, h => by cases n <;> simp [D.flat] at h
  | .scr _, n, h => by cases n <;> simp [D.flat] at h
  | .dt _ _, n, h => by cases n <;> simp [D.flat] at h
  | .cache _, n, h => by cases n <;> simp [D.flat] at h
theorem flat_layL : ∀ (l : List D) (n : Nat), D.flatL n l = true → PyData.canLayAll0 (D.pyL l) = true ∧ PyData.depthAll (D.pyL l) ≤ n
  | [], n, _ => by simp [D.pyL, PyData.canLayAll0, PyData.depthAll]
  | d :: ds, n, h => by
    rw [D.flatL, Bool.and_eq_true] at h
    obtain ⟨h1, h2⟩ := flat_lay d n h.1
    obtain ⟨h3, h4⟩ := flat_layL ds n h.2
    simp only [D.pyL, PyData.canLayAll0, PyData.depthAll, Bool.and_eq_true]
    exact ⟨⟨h1, h3⟩, by omega⟩
end
theorem flat_shaped {d : D} (h : d.flat 60 = true) : SeqAt.shaped d.py = true := by
  obtain ⟨h1, h2⟩ := flat_lay d 60 h
  show (d.py.canLay0 && decide (d.py.depth ≤ 64)) = true
  rw [Bool.and_eq_true]
  exact ⟨h1, decide_eq_true (by omega)⟩
theorem flatL_shaped {l : List D} (h : D.flatL 60 l = true) : SeqAt.shaped (.list (D.pyL l)) = true := by
  obtain ⟨h1, h2⟩ := flat_layL l 60 h
  show (PyData.canLay0 (.list _) && decide (PyData.depth (.list _) ≤ 64)) = true
  simp only [PyData.canLay0, PyData.depth]
  rw [Bool.and_eq_true]
  exact ⟨h1, decide_eq_true (by omega)⟩
theorem any_pyL (x : D) (n m : Nat) (hx : x.flat m = true) : ∀ (l : List D), D.flatL n l = true → ((D.pyL l).any fun z => PyData.eqv z x.py) = l.any fun y => y.eqv x
  | [], _ => by simp [D.pyL]
  | d :: ds, h => by
    rw [D.flatL, Bool.and_eq_true] at h
    rw [D.pyL, List.any_cons, List.any_cons, eqv_py d x n m h.1 hx, any_pyL x n m hx ds h.2]

/-! ### the operators' wants -/
section
variable {C : Cfg} {X : Cx} {F : Wd} {H : Hp} {x y : V} {dx dy : D} {Q : VK} {Ex : Nat → Hp → Prop}
abbrev r3Add (X : Cx) : R2 := fun x y H Q => (fun x y H Q => (fun x y H Q => (rI0 fun i j => .int (i + j)) x y H Q ∨ (fun x y H Q => ∃ i j, x = V.str i ∧ y = V.str j ∧ i.length + j.length ≤ sizeLine ∧ Q (.str (i ++ j)) H) x y H Q) x y H Q ∨ rCatA X.K x y H Q) x y H Q ∨ rCat x y H Q
theorem op_add3 : OpR X (binaryOp .Add) (r3Add X) := ((op_add.or op_add_str).or op_catA).or op_cat
theorem wt_add (H0 : Hp) (hf : ∀ p, H p = none → H0 p = none) (f : Fits C F H) (rx : RpB C F H x dx) (ry : RpB C F H y dy) (p : Po C (RpN C H0) F H (addD dx dy) Q Ex) : r3Add X x y H Q := by
  unfold addD at p
  split at p
  · rename_i a b
    exact .inl (.inl (.inl ⟨a, b, rx.notlst rfl, ry.notlst rfl, p.now f rfl⟩))
  · rename_i a b
    split at p
    · rename_i hl
      refine .inl (.inl (.inr ⟨Sx a, Sx b, rx.notlst rfl, ry.notlst rfl, by rw [Sx_len, Sx_len, line_eq]; exact hl, ?_⟩))
      rw [Sx_app]
      exact p.now f rfl
    · exact False.elim p
  · rename_i a b
    split at p
    · rename_i hl
      have rx := rx.notlst rfl
      have ry := ry.notlst rfl
      obtain ⟨p1, xs, rfl, h1, r1⟩ := rx.tup_ f
      obtain ⟨p2, ys, rfl, h2, r2⟩ := ry.tup_ f
      have l1 := r1.len
      have l2 := r2.len
      refine .inl (.inr ⟨p1, p2, xs, ys, rfl, rfl, SqT.of h1, SqT.of h2, by rw [line_eq]; omega, fun e => ?_, fun e1 e2 => ?_, fun e1 e2 q hq => ?_⟩)
      · have : a = [] := List.length_eq_zero_iff.mp (by rw [← l1, e]; rfl)
        subst this
        exact p.now f ry
      · have : b = [] := List.length_eq_zero_iff.mp (by rw [← l2, e2]; rfl)
        subst this
        refine p.now f ?_
        rw [List.append_nil]; exact rx
      · obtain ⟨e, f'⟩ := laid (u := .tup (xs ++ ys)) f hq
        have le := laid_le (u := .tup (xs ++ ys)) f hq
        exact p _ _ _ e f' ⟨q, _, rfl, updW_same, RepL.app (RepL.le le _ _ r1) (RepL.le le _ _ r2)⟩
    · exact False.elim p
  · rename_i a b
    split at p
    · rename_i hl
      obtain ⟨p1, xs, rfl, h1, r1⟩ := rx.lst f
      obtain ⟨p2, ys, rfl, h2, r2⟩ := ry.lst f
      have l1 := r1.len
      have l2 := r2.len
      refine .inr ⟨p1, p2, xs, ys, rfl, rfl, h1, h2, by rw [line_eq]; omega, fun q hq => ?_⟩
      exact p _ _ _ ((Ext.refl F H).fresh hq) (f.fresh hq) ⟨q, _, rfl, hf q hq, f.free hq, upd_same, RepL.app r1 r2⟩
    · exact False.elim p
  · exact False.elim p
theorem wt_sub (H0 : Hp) (f : Fits C F H) (rx : RpB C F H x dx) (ry : RpB C F H y dy) (p : Po C (RpN C H0) F H (subD dx dy) Q Ex) : rI0 (fun i j => .int (i - j)) x y H Q := by
  unfold subD at p
  split at p
  · rename_i a b
    have rx := rx.notlst rfl
    have ry := ry.notlst rfl
    exact ⟨a, b, rx, ry, p.now f rfl⟩
  · exact False.elim p
theorem wt_mul (H0 : Hp) (f : Fits C F H) (rx : RpB C F H x dx) (ry : RpB C F H y dy) (p : Po C (RpN C H0) F H (mulD dx dy) Q Ex) : rI CMul (fun i j => .int (i * j)) x y H Q := by
  unfold mulD at p
  split at p
  · rename_i a b
    have rx := rx.notlst rfl
    have ry := ry.notlst rfl
    split at p
    · rename_i hl
      exact ⟨a, b, rx, ry, hl.imp (fun z => ⟨by omega, by omega⟩) (fun z => ⟨by omega, by omega⟩), p.now f rfl⟩
    · exact False.elim p
  · exact False.elim p
theorem wt_fdiv (H0 : Hp) (f : Fits C F H) (rx : RpB C F H x dx) (ry : RpB C F H y dy) (p : Po C (RpN C H0) F H (fdivD dx dy) Q Ex) : rI CDiv (fun i j => .int (i / j)) x y H Q := by
  unfold fdivD at p
  split at p
  · rename_i a b
    have rx := rx.notlst rfl
    have ry := ry.notlst rfl
    split at p
    · rename_i hl
      exact ⟨a, b, rx, ry, hl, p.now f rfl⟩
    · exact False.elim p
  · exact False.elim p
theorem wt_mod (H0 : Hp) (f : Fits C F H) (rx : RpB C F H x dx) (ry : RpB C F H y dy) (p : Po C (RpN C H0) F H (modD dx dy) Q Ex) : rI (fun _ j => 0 < j) (fun i j => .int (i % j)) x y H Q := by
  unfold modD at p
  split at p
  · rename_i a b
    have rx := rx.notlst rfl
    have ry := ry.notlst rfl
    split at p
    · rename_i hl
      exact ⟨a, b, rx, ry, hl, p.now f rfl⟩
    · exact False.elim p
  · exact False.elim p
theorem wt_pow (H0 : Hp) (f : Fits C F H) (rx : RpB C F H x dx) (ry : RpB C F H y dy) (p : Po C (RpN C H0) F H (powD dx dy) Q Ex) : rI CPow (fun i j => .int (i ^ j.toNat)) x y H Q := by
  unfold powD at p
  split at p
  · rename_i a b
    have rx := rx.notlst rfl
    have ry := ry.notlst rfl
    split at p
    · rename_i hl
      exact ⟨a, b, rx, ry, ⟨hl.1, hl.2.1, by omega⟩, p.now f rfl⟩
    · exact False.elim p
  · exact False.elim p
theorem wt_shr (H0 : Hp) (f : Fits C F H) (rx : RpB C F H x dx) (ry : RpB C F H y dy) (p : Po C (RpN C H0) F H (shrD dx dy) Q Ex) : rI (fun _ j => 0 ≤ j) (fun i j => .int (i / 2 ^ j.toNat)) x y H Q := by
  unfold shrD at p
  split at p
  · rename_i a b
    have rx := rx.notlst rfl
    have ry := ry.notlst rfl
    split at p
    · rename_i hl
      exact ⟨a, b, rx, ry, hl, p.now f rfl⟩
    · exact False.elim p
  · exact False.elim p

/-! comparisons -/
theorem wt_eq (f : Fits C F H) (rx : RpB C F H x dx) (ry : RpB C F H y dy) (p : Po C RpT F H (eqD dx dy) (fun k H' => Q (.bl k) H') Ex) : rEqD X.K x y H Q := by
  unfold eqD at p
  split at p
  · rename_i h
    rw [Bool.and_eq_true] at h
    refine ⟨dx.py, dy.py, rx.dp f h.1, ry.dp f h.2, flat_shaped h.1, flat_shaped h.2, ?_⟩
    rw [eqv_py _ _ _ _ h.1 h.2]
    exact p.now f rfl
  · exact p.elim
theorem wt_ne (f : Fits C F H) (rx : RpB C F H x dx) (ry : RpB C F H y dy) (p : Po C RpT F H ((eqD dx dy).bind fun c => .ok (!c)) (fun k H' => Q (.bl k) H') Ex) : rNeD X.K x y H Q := by
  unfold eqD at p
  split at p
  · rename_i h
    rw [Bool.and_eq_true] at h
    refine ⟨dx.py, dy.py, rx.dp f h.1, ry.dp f h.2, flat_shaped h.1, flat_shaped h.2, ?_⟩
    rw [eqv_py _ _ _ _ h.1 h.2]
    exact p.now f rfl
  · exact p.elim
abbrev r2Lt : R2 := fun x y H Q => (rI0 fun i j => .bl (decide (i < j))) x y H Q ∨ (fun x y H Q => ∃ i j, x = V.str i ∧ y = V.str j ∧ Q (.bl (decide (i.cps.toList < j.cps.toList))) H) x y H Q
abbrev r2Gt : R2 := fun x y H Q => (rI0 fun i j => .bl (decide (j < i))) x y H Q ∨ (fun x y H Q => ∃ i j, x = V.str i ∧ y = V.str j ∧ Q (.bl (decide (j.cps.toList < i.cps.toList))) H) x y H Q
abbrev r2Le : R2 := fun x y H Q => (rI0 fun i j => .bl (decide (i ≤ j))) x y H Q ∨ (fun x y H Q => ∃ i j, x = V.str i ∧ y = V.str j ∧ Q (.bl (!decide (j.cps.toList < i.cps.toList))) H) x y H Q
abbrev r2Ge : R2 := fun x y H Q => (rI0 fun i j => .bl (decide (j ≤ i))) x y H Q ∨ (fun x y H Q => ∃ i j, x = V.str i ∧ y = V.str j ∧ Q (.bl (!decide (i.cps.toList < j.cps.toList))) H) x y H Q
theorem op_lt2 : OpR X (compareOp .Lt) r2Lt := op_lt.or op_lt_str
theorem op_gt2 : OpR X (compareOp .Gt) r2Gt := op_gt.or op_gt_str
theorem op_le2 : OpR X (compareOp .LtE) r2Le := op_le.or op_le_str
theorem op_ge2 : OpR X (compareOp .GtE) r2Ge := op_ge.or op_ge_str
theorem wt_lt (f : Fits C F H) (rx : RpB C F H x dx) (ry : RpB C F H y dy) (p : Po C RpT F H (ltD dx dy) (fun k H' => Q (.bl k) H') Ex) : r2Lt x y H Q := by
  unfold ltD at p
  split at p
  · rename_i a b
    exact .inl ⟨a, b, rx.notlst rfl, ry.notlst rfl, p.now f rfl⟩
  · rename_i a b
    refine .inr ⟨Sx a, Sx b, rx.notlst rfl, ry.notlst rfl, ?_⟩
    rw [Sx_cps, Sx_cps]
    exact p.now f rfl
  · exact p.elim
theorem wt_gt (f : Fits C F H) (rx : RpB C F H x dx) (ry : RpB C F H y dy) (p : Po C RpT F H (ltD dy dx) (fun k H' => Q (.bl k) H') Ex) : r2Gt x y H Q := by
  unfold ltD at p
  split at p
  · rename_i a b
    exact .inl ⟨b, a, rx.notlst rfl, ry.notlst rfl, p.now f rfl⟩
  · rename_i a b
    refine .inr ⟨Sx b, Sx a, rx.notlst rfl, ry.notlst rfl, ?_⟩
    rw [Sx_cps, Sx_cps]
    exact p.now f rfl
  · exact p.elim
theorem wt_le (f : Fits C F H) (rx : RpB C F H x dx) (ry : RpB C F H y dy) (p : Po C RpT F H (leD dx dy) (fun k H' => Q (.bl k) H') Ex) : r2Le x y H Q := by
  unfold leD at p
  split at p
  · rename_i a b
    exact .inl ⟨a, b, rx.notlst rfl, ry.notlst rfl, p.now f rfl⟩
  · rename_i a b
    refine .inr ⟨Sx a, Sx b, rx.notlst rfl, ry.notlst rfl, ?_⟩
    rw [Sx_cps, Sx_cps]
    exact p.now f rfl
  · exact p.elim
theorem wt_ge (f : Fits C F H) (rx : RpB C F H x dx) (ry : RpB C F H y dy) (p : Po C RpT F H (leD dy dx) (fun k H' => Q (.bl k) H') Ex) : r2Ge x y H Q := by
  unfold leD at p
  split at p
  · rename_i a b
    exact .inl ⟨b, a, rx.notlst rfl, ry.notlst rfl, p.now f rfl⟩
  · rename_i a b
    refine .inr ⟨Sx b, Sx a, rx.notlst rfl, ry.notlst rfl, ?_⟩
    rw [Sx_cps, Sx_cps]
    exact p.now f rfl
  · exact p.elim
end
end G

set_option Elab.async false
set_option linter.all false
set_option maxRecDepth 100000
set_option maxHeartbeats 4000000
/-! GF: further rules for expressions. -/
namespace G
open PySem L2
section
variable {C : Cfg} {N : List Str} {sc : Scope} {top : Bool} {X : Cx} {B : Bs} {Γ : Gam} {W : WX} {pos p : Pos} {a b c : Expr} {es : List Expr} {ra rb : R D} {rs : R (List D)}

/-! ### in -/
theorem eqV_py {x y : V} {dx dy : D} {F : Wd} (rx : Rep C F x dx) (ry : Rep C F y dy) (hx : dx.scal = true) (hy : dy.scal = true) : flatV x = true ∧ flatV y = true ∧ eqV y x = dy.eqv dx := by
  cases dx <;> simp [D.scal] at hx <;> cases dy <;> simp [D.scal] at hy <;>
    (have e1 := rx; have e2 := ry; simp only [Rep] at e1 e2; subst e1 e2; refine ⟨rfl, rfl, ?_⟩) <;> try rfl
  rename_i s t
  simp only [eqV, D.eqv]
  by_cases e : t = s
  · subst e; simp
  · have : Sx t ≠ Sx s := fun z => e (Sx_inj z)
    rw [beq_eq_false_iff_ne.mpr e]
    first
      | exact beq_eq_false_iff_ne.mpr this
      | exact decide_eq_false this
theorem inV_py {x : V} {dx : D} {F : Wd} (rx : Rep C F x dx) (hx : dx.scal = true) : ∀ (l : List D) (vs : List V), RepL C F vs l → l.all D.scal = true → vs.all flatV = true ∧ inV x vs = l.any fun y => y.eqv dx
  | [], vs, q, _ => by rw [show vs = [] from q]; exact ⟨rfl, rfl⟩
  | d :: ds, vs, q, h => by
    obtain ⟨v, r, rfl, q1, q2⟩ := q
    rw [List.all_cons, Bool.and_eq_true] at h
    obtain ⟨_, h2, h3⟩ := eqV_py rx q1 hx h.1
    obtain ⟨h4, h5⟩ := inV_py rx hx ds r q2 h.2
    refine ⟨by rw [List.all_cons, h2, h4]; rfl, ?_⟩
    unfold inV at h5 ⊢
    rw [List.any_cons, List.any_cons, h3, h5]
theorem scal_flat {d : D} (h : d.scal = true) (h2 : d.flat 60 = true) : flatV (match d with | .non => V.non | .bl b => .bl b | .int i => .int i | .str s => .str (Sx s) | _ => .non) = true := by
  cases d <;> first | rfl | cases h
abbrev r3In (X : Cx) : R2 := fun x y H Q => (fun x y H Q => rInD X.K x y H Q ∨ rIn X.K false x y H Q) x y H Q ∨ (fun x y H Q => ∃ (c : Nat) (z : Str), x = V.str ⟨#[c]⟩ ∧ y = V.str z ∧ Q (.bl (decide (c ∈ z.cps.toList))) H) x y H Q
abbrev r3NotIn (X : Cx) : R2 := fun x y H Q => (fun x y H Q => rNotInD X.K x y H Q ∨ rIn X.K true x y H Q) x y H Q ∨ (fun x y H Q => ∃ (c : Nat) (z : Str), x = V.str ⟨#[c]⟩ ∧ y = V.str z ∧ Q (.bl (!decide (c ∈ z.cps.toList))) H) x y H Q
theorem op_in3 (hu : X.A.units + 65 < cLine) : OpR X (compareOp .In) (r3In X) := ((op_inD hu).or op_in_seq).or op_in_sign
theorem op_notin3 (hu : X.A.units + 65 < cLine) : OpR X (compareOp .NotIn) (r3NotIn X) := ((op_notInD hu).or op_notIn_seq).or op_notIn_sign
theorem wt_in {F : Wd} {H : Hp} {x y : V} {dx dy : D} {Q : VK} {Ex : Nat → Hp → Prop} (f : Fits C F H) (rx : RpB C F H x dx) (ry : RpB C F H y dy) (p : Po C RpT F H (inD dx dy) (fun k H' => Q (.bl k) H') Ex) : r3In X x y H Q := by
  unfold inD at p
  split at p
  · rename_i l
    split at p
    · rename_i h
      rw [Bool.and_eq_true] at h
      refine .inl (.inl ⟨dx.py, D.pyL l, rx.dp f h.1, ry.dp (n := 61) f (by simpa [D.flat] using h.2), flat_shaped h.1, flatL_shaped h.2, ?_⟩)
      rw [any_pyL dx 60 60 h.1 l h.2]
      exact p.now f rfl
    · exact False.elim p
  · rename_i l
    split at p
    · rename_i h
      rw [Bool.and_eq_true] at h
      have rx' := rx.notlst (by have := h.1; cases dx <;> first | rfl | cases this)
      obtain ⟨b, xs, rfl, hb, r⟩ := (ry.notlst rfl).tup_ f
      obtain ⟨h4, h5⟩ := inV_py rx' h.1 l xs r h.2
      refine .inl (.inr ⟨b, xs, rfl, .inr (SqT.of hb), ?_, h4, ?_⟩)
      · have hs := h.1
        cases dx <;> first | (cases hs; done) | (rw [show x = _ from rx']; rfl)
      · show Q (.bl (if false = true then !inV x xs else inV x xs)) H
        rw [if_neg Bool.false_ne_true, h5]
        exact p.now f rfl
    · exact False.elim p
  · rename_i s
    split at p
    · rename_i c
      refine .inr ⟨c, Sx s, rx.notlst rfl, ry.notlst rfl, ?_⟩
      rw [Sx_cps]
      exact p.now f rfl
    · exact False.elim p
  · exact False.elim p
theorem wt_notin {F : Wd} {H : Hp} {x y : V} {dx dy : D} {Q : VK} {Ex : Nat → Hp → Prop} (f : Fits C F H) (rx : RpB C F H x dx) (ry : RpB C F H y dy) (p : Po C RpT F H ((inD dx dy).bind fun c => .ok (!c)) (fun k H' => Q (.bl k) H') Ex) : r3NotIn X x y H Q := by
  unfold inD at p
  split at p
  · rename_i l
    split at p
    · rename_i h
      rw [Bool.and_eq_true] at h
      refine .inl (.inl ⟨dx.py, D.pyL l, rx.dp f h.1, ry.dp (n := 61) f (by simpa [D.flat] using h.2), flat_shaped h.1, flatL_shaped h.2, ?_⟩)
      rw [any_pyL dx 60 60 h.1 l h.2]
      exact p.now f rfl
    · exact False.elim p
  · rename_i l
    split at p
    · rename_i h
      rw [Bool.and_eq_true] at h
      have rx' := rx.notlst (by have := h.1; cases dx <;> first | rfl | cases this)
      obtain ⟨b, xs, rfl, hb, r⟩ := (ry.notlst rfl).tup_ f
      obtain ⟨h4, h5⟩ := inV_py rx' h.1 l xs r h.2
      refine .inl (.inr ⟨b, xs, rfl, .inr (SqT.of hb), ?_, h4, ?_⟩)
      · have hs := h.1
        cases dx <;> first | (cases hs; done) | (rw [show x = _ from rx']; rfl)
      · show Q (.bl (if true = true then !inV x xs else inV x xs)) H
        rw [if_pos rfl, h5]
        exact p.now f rfl
    · exact False.elim p
  · rename_i s
    split at p
    · rename_i c
      refine .inr ⟨c, Sx s, rx.notlst rfl, ry.notlst rfl, ?_⟩
      rw [Sx_cps]
      exact p.now f rfl
    · exact False.elim p
  · exact False.elim p

/-! ### subscripts -/
theorem ixN_len {α β : Type} {xs : List α} {ys : List β} (h : xs.length = ys.length) (i : Int) : ixN xs.length i = ixN ys.length i := by rw [h]
theorem RepL.at {F : Wd} {l : List D} {xs : List V} {i : Int} {d : D} (r : RepL C F xs l) (h : atI l i = some d) : ∃ v, atI xs i = some v ∧ Rep C F v d := by
  unfold atI at h ⊢
  rw [r.len]
  cases e : ixN l.length i with
  | none => rw [e] at h; cases h
  | some j =>
    rw [e] at h
    exact r.get h
theorem atI_map {l : List Int} {i : Int} {n : Int} (h : atI l i = some n) : atI (l.map V.int) i = some (V.int n) := by
  unfold atI at h ⊢
  rw [List.length_map]
  cases e : ixN l.length i with
  | none => rw [e] at h; cases h
  | some j =>
    rw [e] at h
    show (l.map V.int)[j]? = _
    rw [List.getElem?_map, show l[j]? = some n from h]
    rfl
theorem wt_item (h : XOk C N sc top X) {F2 : Wd} {H2 : Hp} {x y : V} {dx dy : D} {Q : VK} {Ex : Nat → Hp → Prop} (f2 : Fits C F2 H2) (r1 : RpB C F2 H2 x dx) (r2 : Rep C F2 y dy) (p2 : Po C (RpD C) F2 H2 (itemD dx dy) Q Ex) : rIx X.K x y H2 Q := by
  unfold itemD at p2
  split at p2
  · rename_i l i
    split at p2
    · rename_i d hd
      obtain ⟨q, xs, rfl, hq, r⟩ := r1.lst f2
      obtain ⟨v, hv, rv⟩ := r.at hd
      exact .inl ⟨q, xs, i, v, rfl, r2, SqL.of hq, hv, p2.now f2 rv⟩
    · exact False.elim p2
  · rename_i l i
    split at p2
    · rename_i d hd
      obtain ⟨q, xs, rfl, hq, r⟩ := (r1.notlst rfl).tup_ f2
      obtain ⟨v, hv, rv⟩ := r.at hd
      exact .inr (.inl ⟨q, xs, i, v, rfl, r2, SqT.of hq, hv, p2.now f2 rv⟩)
    · exact False.elim p2
  · rename_i s i
    split at p2
    · rename_i hl
      split at p2
      · rename_i c hc
        exact .inr (.inr ⟨Sx s, i, c, r1.notlst rfl, r2, by rw [Sx_len, line_eq]; exact hl, by rw [Sx_cps]; exact hc, p2.now f2 rfl⟩)
      · exact False.elim p2
    · exact False.elim p2
  · rename_i l i
    split at p2
    · rename_i n hn
      obtain ⟨q, rfl, hq⟩ := r1.notlst rfl
      refine .inl ⟨q, l.map V.int, i, .int n, rfl, r2, ?_, atI_map hn, p2.now f2 rfl⟩
      rw [h.eK]
      exact SqL.le f2.fo hq
    · exact False.elim p2
  · exact False.elim p2
theorem nd_item (h : XOk C N sc top X) (ha : PE X a (tB C B Γ W ra)) (hb : PE X b (tD C B Γ W rb)) (ob : okx b = true) : PE X (.Subscript a b pos) (tD C B Γ W (ra.bind fun x => rb.bind fun y => itemD x y)) :=
  (pe_ix (ix_seq (X := X)) ha hb (plainIx_ok ob)).imp fun σ H Q ⟨F, s, p⟩ => ⟨F, s, p.bind.mono fun x H1 ⟨F1, dx, e1, f1, r1, _, p1⟩ => ⟨F1, s.ext_ e1 f1, p1.bind.mono fun y H2 ⟨F2, dy, e2, f2, r2, _, p2⟩ =>
    wt_item h f2 (r1.ext e2) r2 p2⟩⟩
def tP (C : Cfg) (B : Bs) (Γ : Gam) (W : WX) (r : R (Option Int)) : TO := fun σ H Q => ∃ F, SR C B F H σ Γ ∧ Po C (fun _ _ v d => v = d) F H r Q (Wx C W σ)
theorem PO.imp {e : Option Expr} {t t' : TO} (h : PO X e t) (i : ∀ σ H Q, t' σ H Q → t σ H Q) : PO X e t' :=
  ⟨fun pins s σ H Q I q => h.run pins s σ H Q I (i σ H Q q)⟩
theorem wt_part {F1 : Wd} {H1 : Hp} {x : V} {dx : D} {Q : Option Int → Hp → Prop} {Ex : Nat → Hp → Prop} (f1 : Fits C F1 H1) (r1 : Rep C F1 x dx) (p1 : Po C (fun _ _ v d => v = d) F1 H1 (partD dx) Q Ex) : ∃ i, x = .int i ∧ Q (some i) H1 := by
  unfold partD at p1
  split at p1
  · rename_i i
    exact ⟨i, r1, p1.now f1 rfl⟩
  · exact False.elim p1
theorem nd_part (ha : PE X a (tD C B Γ W ra)) : PO X (some a) (tP C B Γ W (ra.bind partD)) :=
  PO.imp (po_some ha) fun σ H Q ⟨F, s, p⟩ => ⟨F, s, p.bind.mono fun x H1 ⟨F1, dx, e1, f1, r1, _, p1⟩ => wt_part f1 r1 p1⟩
theorem nd_nopart : PO X none (tP C B Γ W (.ok none)) := PO.imp po_none fun σ H Q ⟨F, s, p⟩ => p.now s.fits rfl
theorem cut_len {α β : Type} {xs : List α} {ys : List β} (h : xs.length = ys.length) (lo hi : Option Int) : (cutL xs lo hi).length = (cutL ys lo hi).length := by
  unfold cutL
  rw [List.length_take, List.length_take, List.length_drop, List.length_drop, h]
theorem RepL.cut {F : Wd} {l : List D} {xs : List V} (r : RepL C F xs l) (lo hi : Option Int) : RepL C F (cutV xs lo hi) (cutL l lo hi) := by
  unfold cutV cutL
  rw [r.len]
  exact (r.drop _).take _
theorem cut_whole {α : Type} {l : List α} {lo hi : Option Int} (h : HT.sIx l.length 0 lo = 0 ∧ HT.sIx l.length l.length hi = l.length) : cutL l lo hi = l := by
  unfold cutL
  rw [h.1, h.2]
  simp
theorem wt_slice {H0 : Hp} {F3 : Wd} {H3 : Hp} {x : V} {dx : D} {l u : Option Int} {Q : VK} {Ex : Nat → Hp → Prop} (hf : ∀ p, H3 p = none → H0 p = none) (f3 : Fits C F3 H3) (r1 : RpB C F3 H3 x dx) (p3 : Po C (RpN C H0) F3 H3 (sliceD dx l u) Q Ex) :
    (rSlL X.K x l u H3 Q ∨ rSlA X.K x l u H3 Q) ∨ rSlS x l u H3 Q := by
  unfold sliceD at p3
  split at p3
  · rename_i xs0
    obtain ⟨q, xs, rfl, hq, r⟩ := r1.lst f3
    refine .inl (.inl ⟨q, xs, rfl, SqL.of hq, fun t ht => ?_⟩)
    exact p3 _ _ _ ((Ext.refl F3 H3).fresh ht) (f3.fresh ht) ⟨t, _, rfl, hf t ht, f3.free ht, upd_same, r.cut _ _⟩
  · rename_i xs0
    have rr := r1.notlst rfl
    obtain ⟨q, xs, rfl, hq, r⟩ := rr.tup_ f3
    refine .inl (.inr ⟨q, xs, rfl, SqT.of hq, fun hw => ?_, fun hw t ht => ?_⟩)
    · refine p3.now f3 ?_
      rw [r.len] at hw
      show Rep C F3 _ (.tup _)
      rw [cut_whole hw]
      exact rr
    · obtain ⟨e', f'⟩ := laid (u := .tup (cutV xs l u)) f3 ht
      exact p3 _ _ _ e' f' ⟨t, _, rfl, updW_same, RepL.le (laid_le f3 ht) _ _ (r.cut _ _)⟩
  · rename_i z
    split at p3
    · rename_i hz
      refine .inr ⟨Sx z, r1.notlst rfl, by rw [Sx_len, line_eq]; exact hz, ?_⟩
      refine p3.now f3 ?_
      show V.str (cutS (Sx z) l u) = V.str (Sx (cutL z l u))
      unfold cutS cutL
      rw [Sx_cps, Sx_len]
    · exact False.elim p3
  · exact False.elim p3
theorem nd_slice {lo hi : Option Expr} {rl rh : R (Option Int)} {p2 : Pos} (ha : PE X a (tB C B Γ W ra)) (hl : PO X lo (tP C B Γ W rl)) (hh : PO X hi (tP C B Γ W rh)) :
    PE X (.Subscript a (.Slice lo hi none p2) pos) (tN C B Γ W (ra.bind fun x => rl.bind fun l => rh.bind fun h => sliceD x l h)) := by
  refine (pe_slice ((sl_list (X := X).or sl_tupA).or sl_str) ha hl hh).imp fun σ H Q ⟨F, s, p⟩ => ⟨F, s, p.bind.mono fun x H1 ⟨F1, dx, e1, f1, r1, _, p1⟩ => ⟨F1, s.ext_ e1 f1, p1.bind.mono fun l H2 ⟨F2, l', e2, f2, el, _, p2⟩ =>
    ⟨F2, s.ext_ (e1.trans e2) f2, p2.bind.mono fun u H3 ⟨F3, u', e3, f3, eu, _, p3⟩ => ?_⟩⟩⟩
  cases el
  cases eu
  exact wt_slice (fun t ht => ((e1.trans e2).trans e3).free0 s.fits f3 ht) f3 ((r1.ext e2).ext e3) p3
/-! ### argument lists, displays -/
inductive PL (C : Cfg) (X : Cx) (B : Bs) (Γ : Gam) (W : WX) : List Expr → R (List D) → Prop where
  | nil : PL C X B Γ W [] (.ok [])
  | cons {e : Expr} {es : List Expr} {r : R D} {rs : R (List D)} : okx e = true → PE X e (tD C B Γ W r) → PL C X B Γ W es rs → PL C X B Γ W (e :: es) (r.bind fun x => rs.bind fun xs => .ok (x :: xs))
theorem PL.ok (h : PL C X B Γ W es rs) : es.all okx = true := by
  induction h with
  | nil => rfl
  | cons o _ _ ih => rw [List.all_cons, o, ih]; rfl
theorem PL.pa (h : PL C X B Γ W es rs) : PA X es (tL C B Γ W rs) := by
  induction h with
  | nil => exact pa_nil.imp fun σ H Q ⟨F, s, p⟩ => p.now s.fits rfl
  | cons o he hl ih =>
    refine (pa_cons he ih (star_cons o)).imp fun σ H Q ⟨F, s, p⟩ => ⟨F, s, p.bind.mono fun x H1 ⟨F1, dx, e1, f1, r1, _, p1⟩ => ⟨F1, s.ext_ e1 f1, p1.bind.mono fun xs H2 ⟨F2, ds, e2, f2, r2, _, p2⟩ => ?_⟩⟩
    exact p2.now f2 ⟨_, _, rfl, Rep.le e2.le _ _ r1, r2⟩
theorem nd_tup {k : Nat} (h : PL C X B Γ W es rs) : PE X (.Tuple es k pos) (tD C B Γ W (rs.bind fun ds => if ds.length ≤ LINE then .ok (.tup ds) else .bad)) :=
  (pe_tup h.pa).imp fun σ H Q ⟨F, s, p⟩ => ⟨F, s, p.bind.mono fun xs H1 ⟨F1, ds, e1, f1, r1, _, p1⟩ => by
    split at p1
    · rename_i hl
      refine ⟨by rw [r1.len, line_eq]; exact hl, fun t ht => ?_⟩
      obtain ⟨e', f'⟩ := laid (u := .tup xs) f1 ht
      exact p1 _ _ _ e' f' ⟨t, _, rfl, updW_same, RepL.le (laid_le f1 ht) _ _ r1⟩
    · exact False.elim p1⟩
theorem nd_lst (h : PL C X B Γ W es rs) : PE X (.List es pos) (tN C B Γ W (rs.bind fun ds => if ds.length ≤ LINE then .ok (.lst ds) else .bad)) :=
  (pe_lst h.pa).imp fun σ H Q ⟨F, s, p⟩ => ⟨F, s, p.bind.mono fun xs H1 ⟨F1, ds, e1, f1, r1, _, p1⟩ => by
    split at p1
    · rename_i hl
      refine ⟨by rw [r1.len, line_eq]; exact hl, fun t ht => ?_⟩
      exact p1 _ _ _ ((Ext.refl F1 H1).fresh ht) (f1.fresh ht) ⟨t, _, rfl, e1.free0 s.fits f1 ht, f1.free ht, upd_same, r1⟩
    · exact False.elim p1⟩

/-! ### built-ins of one argument -/
theorem pa_one {te : TE} (ha : PE X a te) (o : okx a = true) : PA X [a] (tCons te tNil) := pa_cons ha pa_nil (star_cons o)
theorem one_any {env : Env} : (backTo pos (starEach [] env)).any (·.1) = false := rfl
theorem nd_f1B {id : String} {x : Str} {r : List V → Hp → VK → Prop} {g : D → R D} (h : XOk C N sc top X) (hc : CallR X (.builtin id) r) (hv : bootBuiltins x = some (.builtin id)) (hm : C.mg x = none) (hg : glB sc x = true) (o : okx a = true)
    (ha : PE X a (tB C B Γ W ra)) (hw : ∀ H0 F H v d Q Ex, (∀ p, H p = none → H0 p = none) → Fits C F H → RpB C F H v d → Po C (RpN C H0) F H (g d) Q Ex → r [v] H Q) :
    PE X (.Call (.Name x p) [a] [] pos) (tN C B Γ W (ra.bind g)) :=
  (pe_callB hc (h.gl hg) (by rw [h.eM]; exact hm) hv (pa_one ha o) (nm_n (glB_nm hg)) (nm_d (glB_nm hg)) (star_cons o) one_any).imp fun σ H Q ⟨F, s, q⟩ => ⟨F, s, q.bind.mono fun v H1 ⟨F1, d, e1, f1, r1, _, p1⟩ =>
    hw H F1 H1 v d Q _ (fun t ht => e1.free0 s.fits f1 ht) f1 r1 p1⟩
theorem nd_f1T {T : String} {x : Str} {r : List V → Hp → VK → Prop} {g : D → R D} (h : XOk C N sc top X) (hc : CallR X (.type T) r) (hv : bootBuiltins x = some (.type T)) (hm : C.mg x = none) (hg : glB sc x = true) (o : okx a = true)
    (ha : PE X a (tB C B Γ W ra)) (hw : ∀ H0 F H v d Q Ex, (∀ p, H p = none → H0 p = none) → Fits C F H → RpB C F H v d → Po C (RpN C H0) F H (g d) Q Ex → r [v] H Q) :
    PE X (.Call (.Name x p) [a] [] pos) (tN C B Γ W (ra.bind g)) :=
  (pe_callTy hc (h.gl hg) (by rw [h.eM]; exact hm) hv (pa_one ha o) (nm_n (glB_nm hg)) (nm_d (glB_nm hg)) (star_cons o) one_any).imp fun σ H Q ⟨F, s, q⟩ => ⟨F, s, q.bind.mono fun v H1 ⟨F1, d, e1, f1, r1, _, p1⟩ =>
    hw H F1 H1 v d Q _ (fun t ht => e1.free0 s.fits f1 ht) f1 r1 p1⟩
theorem wt_len (h : XOk C N sc top X) (H0 : Hp) (F : Wd) (H : Hp) (v : V) (d : D) (Q : VK) (Ex : Nat → Hp → Prop) (hf : ∀ p, H p = none → H0 p = none) (f : Fits C F H) (r : RpB C F H v d) (q : Po C (RpN C H0) F H (lenD d) Q Ex) :
    ∃ x n, [v] = [x] ∧ LenV X.K x H n ∧ Q (.int n) H := by
  unfold lenD at q
  split at q
  · rename_i l
    obtain ⟨a, xs, rfl, ha, rl⟩ := r.lst f
    exact ⟨_, _, rfl, .inl ⟨xs, SqL.of ha, rfl⟩, by rw [rl.len]; exact q.now f rfl⟩
  · rename_i l
    obtain ⟨a, xs, rfl, ha, rl⟩ := (r.notlst rfl).tup_ f
    exact ⟨_, _, rfl, .inr ⟨xs, SqT.of ha, rfl⟩, by rw [rl.len]; exact q.now f rfl⟩
  · rename_i s
    split at q
    · rename_i hl
      have e := r.notlst rfl
      rw [show v = _ from e]
      exact ⟨_, _, rfl, ⟨by rw [Sx_len, line_eq]; exact hl, rfl⟩, by rw [Sx_len]; exact q.now f rfl⟩
    · exact False.elim q
  · rename_i l
    obtain ⟨a, rfl, ha⟩ := r.notlst rfl
    refine ⟨_, _, rfl, .inl ⟨l.map V.int, ?_, rfl⟩, by rw [List.length_map]; exact q.now f rfl⟩
    rw [h.eK]
    exact SqL.le f.fo ha
  · exact False.elim q
theorem wt_int (H0 : Hp) (F : Wd) (H : Hp) (v : V) (d : D) (Q : VK) (Ex : Nat → Hp → Prop) (hf : ∀ p, H p = none → H0 p = none) (f : Fits C F H) (r : RpB C F H v d) (q : Po C (RpN C H0) F H (f1D .int d) Q Ex) :
    (∃ i, [v] = [V.int i] ∧ Q (.int i) H) ∨ ∃ k, [v] = [V.bl k] ∧ Q (.int (if k then 1 else 0)) H := by
  cases d with
  | int i => exact .inl ⟨i, by rw [show v = _ from r.notlst rfl], Po.now q f rfl⟩
  | bl b => exact .inr ⟨b, by rw [show v = _ from r.notlst rfl], Po.now q f rfl⟩
  | _ => exact False.elim q
theorem Sx_itoa (i : Int) : Sx (itoa i) = Str.ofString (toString i) := by unfold Sx itoa; simp
theorem log_lt {i : Int} (h : i.natAbs < 18446744073709551616) : i.natAbs.log2 < 1920 := by
  by_cases z : i.natAbs = 0
  · rw [z]; decide
  · exact Nat.lt_trans ((Nat.log2_lt z).mpr (show i.natAbs < 2 ^ 64 from h)) (by decide)
theorem wt_str (H0 : Hp) (F : Wd) (H : Hp) (v : V) (d : D) (Q : VK) (Ex : Nat → Hp → Prop) (hf : ∀ p, H p = none → H0 p = none) (f : Fits C F H) (r : RpB C F H v d) (q : Po C (RpN C H0) F H (f1D .str d) Q Ex) :
    ∃ i : Int, [v] = [V.int i] ∧ i.natAbs.log2 < 1920 ∧ Q (.str (toString i)) H := by
  cases d with
  | int i =>
    have q : Po C (RpN C H0) F H (if i.natAbs < 18446744073709551616 then .ok (.str (itoa i)) else .bad) Q Ex := q
    split at q
    · rename_i hi
      refine ⟨i, by rw [show v = _ from r.notlst rfl], log_lt hi, Po.now q f ?_⟩
      show V.str _ = V.str _
      rw [Sx_itoa]
    · exact False.elim q
  | _ => exact False.elim q
theorem nd_fmt (ha : PE X a (tD C B Γ W ra)) : PE X (.FormattedValue a (-1) none pos) (tD C B Γ W (ra.bind fmtD)) :=
  (pe_fmt ha).imp fun σ H Q ⟨F, s, q⟩ => ⟨F, s, q.bind.mono fun v H1 ⟨F1, d, e1, f1, r1, _, p1⟩ => by
    cases d with
    | str s =>
      have p1 : Po C (RpD C) F1 H1 (if s.length ≤ 100000 then .ok (.str s) else .bad) Q (Wx C W σ) := p1
      split at p1
      · rename_i hl
        exact .inl ⟨Sx s, r1, by rw [Sx_len, line_eq]; exact Nat.le_trans hl (by decide), p1.now f1 rfl⟩
      · exact False.elim p1
    | int i =>
      have p1 : Po C (RpD C) F1 H1 (if i.natAbs < 18446744073709551616 then .ok (.str (itoa i)) else .bad) Q (Wx C W σ) := p1
      split at p1
      · rename_i hi
        refine .inr ⟨i, r1, log_lt hi, p1.now f1 ?_⟩
        show V.str _ = V.str _
        rw [Sx_itoa]
      · exact False.elim p1
    | _ => exact False.elim p1⟩
theorem wt_tuple (H0 : Hp) (F : Wd) (H : Hp) (v : V) (d : D) (Q : VK) (Ex : Nat → Hp → Prop) (hf : ∀ p, H p = none → H0 p = none) (f : Fits C F H) (r : RpB C F H v d) (q : Po C (RpN C H0) F H (f1D .tuple d) Q Ex) :
    ∃ p ys, [v] = [V.ref p] ∧ ((SqL X.K H p ys ∧ ∀ l, H l = none → Q (.ref l) (upd H l (.tup ys))) ∨ (SqT X.K H p ys ∧ Q (.ref p) H)) := by
  cases d with
  | lst l =>
    obtain ⟨a, xs, rfl, ha, rl⟩ := r.lst f
    refine ⟨a, xs, rfl, .inl ⟨SqL.of ha, fun t ht => ?_⟩⟩
    obtain ⟨e', f'⟩ := laid (u := .tup xs) f ht
    exact q _ _ _ e' f' ⟨t, _, rfl, updW_same, RepL.le (laid_le f ht) _ _ rl⟩
  | tup l =>
    have rr := r.notlst rfl
    obtain ⟨a, xs, rfl, ha, rl⟩ := rr.tup_ f
    exact ⟨a, xs, rfl, .inr ⟨SqT.of ha, Po.now q f rr⟩⟩
  | _ => exact False.elim q
theorem wt_list (H0 : Hp) (F : Wd) (H : Hp) (v : V) (d : D) (Q : VK) (Ex : Nat → Hp → Prop) (hf : ∀ p, H p = none → H0 p = none) (f : Fits C F H) (r : RpB C F H v d) (q : Po C (RpN C H0) F H (f1D .list d) Q Ex) :
    ∃ p ys, [v] = [V.ref p] ∧ (SqL X.K H p ys ∨ SqT X.K H p ys) ∧ ∀ l, H l = none → Q (.ref l) (upd H l (.lst ys)) := by
  cases d with
  | lst l =>
    obtain ⟨a, xs, rfl, ha, rl⟩ := r.lst f
    exact ⟨a, xs, rfl, .inl (SqL.of ha), fun t ht => q _ _ _ ((Ext.refl F H).fresh ht) (f.fresh ht) ⟨t, _, rfl, hf t ht, f.free ht, upd_same, rl⟩⟩
  | tup l =>
    obtain ⟨a, xs, rfl, ha, rl⟩ := (r.notlst rfl).tup_ f
    exact ⟨a, xs, rfl, .inr (SqT.of ha), fun t ht => q _ _ _ ((Ext.refl F H).fresh ht) (f.fresh ht) ⟨t, _, rfl, hf t ht, f.free ht, upd_same, rl⟩⟩
  | _ => exact False.elim q

/-! ### truth, and, or, not, if -/
theorem tru_of (h : XOk C N sc top X) {F : Wd} {H : Hp} {v : V} {d : D} {k : Bool} (f : Fits C F H) (r : Rep C F v d) (e : truD d = .ok k) : TruV X.K v H k := by
  unfold truD at e
  split at e
  · cases e; rw [show v = _ from r]; rfl
  · cases e; rw [show v = _ from r]; rfl
  · cases e; rw [show v = _ from r]; rfl
  · rename_i s
    split at e
    · rename_i hl
      cases e
      rw [show v = _ from r]
      refine ⟨by rw [Sx_len, line_eq]; exact hl, ?_⟩
      rw [Sx_len]
      cases s with
      | nil => rfl
      | cons c t => simp; omega
    · cases e
  · rename_i l
    cases e
    obtain ⟨a, xs, rfl, ha, rl⟩ := r
    refine .inl ⟨xs, SqL.of (f a _ ha), ?_⟩
    have := rl.len
    cases l <;> cases xs <;> first | rfl | (simp at this)
  · rename_i l
    cases e
    obtain ⟨a, xs, rfl, ha, rl⟩ := r
    refine .inr (.inl ⟨xs, SqT.of (f a _ ha), ?_⟩)
    have := rl.len
    cases l <;> cases xs <;> first | rfl | (simp at this)
  · cases e
theorem nd_truth (h : XOk C N sc top X) (ha : PE X a (tD C B Γ W ra)) (he : ∀ whole, isTrue a X.env whole = (do let v ← whole; standAt a.pos; holding [v] (truthy v))) : PT X a (tT C B Γ W (ra.bind truD)) :=
  (pt_truth ha he).imp fun σ H Q ⟨F, s, q⟩ => ⟨F, s, q.bind.mono fun v H1 ⟨F1, d, e1, f1, r1, _, p1⟩ => by
    cases e : truD d with
    | ok k => rw [e] at p1; exact ⟨k, tru_of h f1 r1 e, p1.now f1 rfl⟩
    | exc c =>
      exfalso
      unfold truD at e
      split at e <;> first | cases e | (split at e <;> cases e)
    | bad => rw [e] at p1; exact False.elim p1⟩
theorem nd_and {rest : List Expr} (ha : PE X a (tD C B Γ W ra)) (hb : PE X (.BoolOp .And (b :: rest) pos) (tD C B Γ W rb)) : PE X (.BoolOp .And (a :: b :: rest) pos) (tD C B Γ W (ra.bind fun x => andD x rb)) :=
  (pe_and ha hb).imp fun σ H Q ⟨F, s, q⟩ => ⟨F, s, q.bind.mono fun v H1 ⟨F1, d, e1, f1, r1, _, p1⟩ => by
    cases d with
    | bl k =>
      refine ⟨k, r1, ?_⟩
      cases k with
      | true => exact ⟨F1, s.ext_ e1 f1, p1⟩
      | false => exact Po.now p1 f1 rfl
    | _ => exact False.elim p1⟩
theorem nd_or {rest : List Expr} (ha : PE X a (tD C B Γ W ra)) (hb : PE X (.BoolOp .Or (b :: rest) pos) (tD C B Γ W rb)) : PE X (.BoolOp .Or (a :: b :: rest) pos) (tD C B Γ W (ra.bind fun x => orD x rb)) :=
  (pe_or ha hb).imp fun σ H Q ⟨F, s, q⟩ => ⟨F, s, q.bind.mono fun v H1 ⟨F1, d, e1, f1, r1, _, p1⟩ => by
    cases d with
    | bl k =>
      refine ⟨k, r1, ?_⟩
      cases k with
      | true => exact Po.now p1 f1 rfl
      | false => exact ⟨F1, s.ext_ e1 f1, p1⟩
    | _ => exact False.elim p1⟩
theorem nd_not (ha : PE X a (tD C B Γ W ra)) : PE X (.UnaryOp .Not a pos) (tD C B Γ W (ra.bind notD)) :=
  (pe_not ha).imp fun σ H Q ⟨F, s, q⟩ => ⟨F, s, q.bind.mono fun v H1 ⟨F1, d, e1, f1, r1, _, p1⟩ => by
    cases d with
    | bl k => exact ⟨k, r1, Po.now p1 f1 rfl⟩
    | _ => exact False.elim p1⟩
theorem bind_bind {α β γ : Type} (r : R α) (f : α → R β) (g : β → R γ) : (r.bind f).bind g = r.bind fun x => (f x).bind g := by cases r <;> rfl
theorem pw_andD {rest : List Expr} (ha : PT X a (tT C B Γ W (ra.bind truD))) (hb : PW X (.BoolOp .And (b :: rest) pos) (tT C B Γ W (rb.bind truD))) : PW X (.BoolOp .And (a :: b :: rest) pos) (tT C B Γ W ((ra.bind fun x => andD x rb).bind truD)) :=
  (pw_and ha hb).imp fun σ H Q ⟨F, s, q⟩ => ⟨F, s, by
    cases ra with
    | ok d =>
      cases d with
      | bl k =>
        cases k with
        | true => exact fun c F1 H1 => fun e1 f1 ec => by cases ec; exact ⟨_, s.ext_ e1 f1, Po.ext q e1⟩
        | false => exact fun c F1 H1 => fun e1 f1 ec => by cases ec; exact q _ _ _ e1 f1 rfl
      | _ => exact False.elim q
    | exc c => exact q
    | bad => exact q⟩
theorem pw_orD {rest : List Expr} (ha : PT X a (tT C B Γ W (ra.bind truD))) (hb : PW X (.BoolOp .Or (b :: rest) pos) (tT C B Γ W (rb.bind truD))) : PW X (.BoolOp .Or (a :: b :: rest) pos) (tT C B Γ W ((ra.bind fun x => orD x rb).bind truD)) :=
  (pw_or ha hb).imp fun σ H Q ⟨F, s, q⟩ => ⟨F, s, by
    cases ra with
    | ok d =>
      cases d with
      | bl k =>
        cases k with
        | true => exact fun c F1 H1 => fun e1 f1 ec => by cases ec; exact q _ _ _ e1 f1 rfl
        | false => exact fun c F1 H1 => fun e1 f1 ec => by cases ec; exact ⟨_, s.ext_ e1 f1, Po.ext q e1⟩
      | _ => exact False.elim q
    | exc c => exact q
    | bad => exact q⟩
theorem pt_notD (ha : PT X a (tT C B Γ W (ra.bind truD))) : PT X (.UnaryOp .Not a pos) (tT C B Γ W ((ra.bind notD).bind truD)) :=
  (pt_not ha).imp fun σ H Q ⟨F, s, q⟩ => ⟨F, s, by
    cases ra with
    | ok d =>
      cases d with
      | bl k => exact fun c F1 H1 => fun e1 f1 ec => by cases ec; exact q _ _ _ e1 f1 rfl
      | _ => exact False.elim q
    | exc c => exact q
    | bad => exact q⟩
theorem nd_ite {rc : R D} (hc : PT X c (tT C B Γ W (rc.bind truD))) (ha : PE X a (tD C B Γ W ra)) (hb : PE X b (tD C B Γ W rb)) : PE X (.IfExp c a b pos) (tD C B Γ W (rc.bind fun x => iteD x ra rb)) :=
  (pe_ifExp hc ha hb).imp fun σ H Q ⟨F, s, q⟩ => ⟨F, s, by
    cases rc with
    | ok d =>
      cases d with
      | bl k =>
        cases k with
        | true => exact fun c F1 H1 => fun e1 f1 ec => by cases ec; exact ⟨_, s.ext_ e1 f1, Po.ext q e1⟩
        | false => exact fun c F1 H1 => fun e1 f1 ec => by cases ec; exact ⟨_, s.ext_ e1 f1, Po.ext q e1⟩
      | _ => exact False.elim q
    | exc c => exact q
    | bad => exact q⟩
/-- x is None, x is not None -/
theorem isN_eq {F : Wd} {v : V} : ∀ {d : D}, Rep C F v d → decide (v = V.non) = d.isN
  | .non, r => by rw [show v = _ from r]; rfl
  | .bl _, r => by rw [show v = _ from r]; rfl
  | .int _, r => by rw [show v = _ from r]; rfl
  | .str _, r => by rw [show v = _ from r]; rfl
  | .tup _, ⟨a, xs, e, _⟩ => by rw [e]; rfl
  | .lst _, ⟨a, xs, e, _⟩ => by rw [e]; rfl
  | .obj _ _, ⟨a, dx, xs, e, _⟩ => by rw [e]; rfl
  | .scr _, ⟨a, e, _⟩ => by rw [e]; rfl
  | .dt _ _, ⟨a, xs, e, _⟩ => by rw [e]; rfl
  | .cache _, ⟨a, e, _⟩ => by rw [e]; rfl
theorem nd_isN {k : Nat} {pos' : Pos} (ha : PE X a (tD C B Γ W ra)) : PE X (.Compare a [.Is] [.Constant .none k pos'] pos) (tD C B Γ W (ra.bind fun x => .ok (.bl x.isN))) :=
  (pe_cmp (pc_isN ha) rfl).imp fun σ H Q ⟨F, s, q⟩ => ⟨F, s, q.bind.mono fun v H1 ⟨F1, d, e1, f1, r1, _, p1⟩ => by
    rw [isN_eq r1]
    exact p1.now f1 rfl⟩
theorem nd_notN {k : Nat} {pos' : Pos} (ha : PE X a (tD C B Γ W ra)) : PE X (.Compare a [.IsNot] [.Constant .none k pos'] pos) (tD C B Γ W (ra.bind fun x => .ok (.bl (!x.isN)))) :=
  (pe_cmp (pc_notN ha) rfl).imp fun σ H Q ⟨F, s, q⟩ => ⟨F, s, q.bind.mono fun v H1 ⟨F1, d, e1, f1, r1, _, p1⟩ => by
    rw [isN_eq r1]
    exact p1.now f1 rfl⟩
end
end G

set_option Elab.async false
set_option linter.all false
set_option maxRecDepth 100000
set_option maxHeartbeats 4000000
/-! GG: isinstance, fields, iterators, comprehensions. -/
namespace G
open PySem L2

/-! ### the world -/
def BLT : List Str := ["len", "int", "str", "tuple", "list", "sum", "sorted", "min", "max", "all", "repr", "isinstance", "range", "zip", "bool", "bytes"]
def tyv (C : Cfg) : Ty → Value
  | .b n => .type n
  | .c n => .ref (C.cls n)
structure ClsOk (C : Cfg) (n : Nat) : Prop where
  cl : Cls C.K (C.cls n)
  ha : PySem.W.findIn C.K (.ref (C.cls n)) "__class__" = some (some (.builtin "object.__class__"))
  hn : PySem.W.specialIn C.K (.builtin "object.__class__") "__get__" = some (some (.builtin "getset_descriptor.__get__"))
  htk : PySem.W.takesIn C.K (.builtin "object.__class__") = some true
  hm : PySem.W.mroIn C.K (C.cls n) (.type "object") = some true
  na : ∀ f ∈ C.flds n, NoAttr C.K (C.cls n) (C.fnm f)
  nd : ((C.flds n).map C.fnm).Nodup
def CbOk (C : Cfg) (args : Scope → Expr → Option (List Expr)) (sem : List D → R D) : Prop :=
  ∀ (N : List Str) (sc : Scope) (top : Bool) (X : Cx), XOk C N sc top X → ∀ (W : WX), Takes X W → ∀ (B : Bs) (Γ : Gam) (ex : Expr) (es : List Expr) (rs : R (List D)),
    args sc ex = some es → PL C X B Γ W es rs → PE X ex (tD C B Γ W (rs.bind sem)) ∧ PT X ex (tT C B Γ W ((rs.bind sem).bind truD))
/-- .. whose arguments raise nothing -/
def CmOk (C : Cfg) (args : Scope → Expr → Option (List Expr)) (sem : List D → R D) : Prop :=
  ∀ (N : List Str) (sc : Scope) (top : Bool) (X : Cx), XOk C N sc top X → ∀ (W : WX), Takes X W → ∀ (B : Bs) (Γ : Gam) (ex : Expr) (es : List Expr) (rs : R (List D)),
    args sc ex = some es → PL C X B Γ W es rs → PE X ex (tD C B Γ W (rs.noexc.bind sem)) ∧ PT X ex (tT C B Γ W ((rs.noexc.bind sem).bind truD))
/-- .. with one operand that is the frame's own -/
def OwOk (C : Cfg) (args : List Str → Nat → Scope → Expr → Option (List Expr)) (sem : Cell → List D → R D) : Prop :=
  ∀ (N : List Str) (sc : Scope) (top : Bool) (X : Cx), XOk C N sc top X → ∀ (W : WX), Takes X W → ∀ (B : Bs) (Γ : Gam) (i : Nat) (c : Cell), Γ[i]? = some c → ∀ (ex : Expr) (es : List Expr) (rs : R (List D)),
    args N i sc ex = some es → PL C X B Γ W es rs → PE X ex (tD C B Γ W (rs.bind (sem c))) ∧ PT X ex (tT C B Γ W ((rs.bind (sem c)).bind truD))
/-- the arguments of a call of this kind, n of them -/
def cbArgs (k : Cb) (n : Nat) (sc : Scope) (ex : Expr) : Option (List Expr) :=
  match k with
  | .fn x => match ex with
    | .Call (.Name y _) args [] _ => if y = x ∧ glB sc y = true ∧ args.length = n then some args else none
    | _ => none
  | .meth m => match ex with
    | .Call (.Attribute o m' _) args [] _ => if m' = m ∧ notSuper o = true ∧ okx o = true ∧ args.length + 1 = n then some (o :: args) else none
    | _ => none
  | .prop m => match ex with
    | .Attribute o m' _ => if m' = m ∧ notSuper o = true ∧ n = 1 then some [o] else none
    | _ => none
  | .smeth x m => match ex with
    | .Call (.Attribute (.Name y _) m' _) args [] _ => if y = x ∧ m' = m ∧ glB sc y = true ∧ args.length = n then some args else none
    | _ => none
  | .op o => match ex with
    | .BinOp a o' b _ => if o' = o ∧ n = 2 then some [a, b] else none
    | _ => none
structure Wld (C : Cfg) (T : Tb) : Prop where
  blt : ∀ x ∈ BLT, C.mg x = none
  gl : ∀ n x, T.gname n = some x → ∃ u v, C.mg x = some u ∧ RelV v u ∧ ∀ F, Rep C F v (C.gl n)
  fnm : ∀ n, C.fnm n = T.fname n
  cls : ∀ n, C.flds n ≠ [] → ClsOk C n
  few : ∀ n, (C.flds n).length ≤ 100
  cnm : ∀ n x, T.cname n = some x → C.mg x = some (.ref (C.cls n))
  sub : ∀ t u b, C.sub t u = some b → PySem.W.kitOne C.K (tyv C t) (tyv C u) = some b ∧ ∀ c, t = .c c → C.flds c ≠ []
  cb : ∀ n k, T.cb n = some k → CbOk C k (C.fn n)
  cm : ∀ n k, T.cm n = some k → CmOk C k (C.fn n)
  ow : ∀ n k, T.ow n = some k → OwOk C k (C.ow n)

section
variable {C : Cfg} {T : Tb} {N : List Str} {sc : Scope} {top : Bool} {X : Cx} {B : Bs} {Γ : Gam} {W : WX} {pos p : Pos} {a b c : Expr} {es : List Expr} {ra rb : R D} {rs : R (List D)}

/-! ### isinstance -/
theorem tyx_of (w : Wld C T) {F : Wd} {H : Hp} {v : V} {u : Ty} {b : Bool} (f : Fits C F H) : ∀ {d : D}, Rep C F v d → C.sub (tyD d) u = some b → (∀ m, d ≠ .cache m) → TyX C.K H v (tyv C (tyD d))
  | .non, r, _, _ => by rw [show v = _ from r]; exact .base .non
  | .bl b, r, _, _ => by rw [show v = _ from r]; exact .base (.bl b)
  | .int i, r, _, _ => by rw [show v = _ from r]; exact .base (.int i)
  | .str s, r, _, _ => by rw [show v = _ from r]; exact .base (.str _)
  | .tup l, r, _, _ => by
    obtain ⟨a, xs, rfl, h, _⟩ := r
    exact .base (.tup (f a _ h))
  | .lst l, r, _, _ => by
    obtain ⟨a, xs, rfl, h, _⟩ := r
    exact .base (.lst (f a _ h))
  | .obj c l, r, e, _ => by
    obtain ⟨a, dx, xs, rfl, h, _⟩ := r
    have q := w.cls c ((w.sub _ _ _ e).2 c rfl)
    exact .base (.ins (f a _ h) q.cl q.ha q.hn q.htk q.hm)
  | .scr l, r, _, _ => by
    obtain ⟨a, rfl, h⟩ := r
    rcases h with (h | ⟨o, h⟩) | ⟨o, its, n, h, h2, _⟩
    · exact .base (.lst (f.fo _ _ h))
    · exact .base (.frz (f.fo _ _ h))
    · exact .kList h h2
  | .dt ks l, r, _, _ => by
    obtain ⟨a, xs, rfl, h, _⟩ := r
    exact .base (.dT (f a _ h))
  | .cache m, r, _, n => absurd rfl (n m)
def clsV (C : Cfg) : Ty → V
  | .b n => .ty n
  | .c n => .ref (C.cls n)
theorem clsV_ok : ∀ t : Ty, ClsV (clsV C t) (tyv C t)
  | .b n => .ty n
  | .c n => .own _
theorem isi_kit (w : Wld C T) {t : Ty} : ∀ {ts : List Ty} {b : Bool}, isiD C.sub ts t = some b → PySem.W.kitAny C.K (tyv C t) (ts.map (tyv C)) = some b
  | [], b, h => by unfold isiD at h; cases h; rfl
  | u :: r, b, h => by
    unfold isiD at h
    split at h
    · rename_i e
      cases h
      exact kitAny_cons (w.sub _ _ _ e).1 (fun z => by cases z) (fun _ => rfl)
    · rename_i e
      exact kitAny_cons (w.sub _ _ _ e).1 (fun _ => isi_kit w h) (fun z => by cases z)
    · cases h
theorem nd_isi1 {t : Ty} (w : Wld C T) (h : XOk C N sc top X) (hg : glB sc "isinstance" = true) (ha : PE X a (tD C B Γ W ra)) (oa : okx a = true) (hb : PE X b (tC (clsV C t))) (ob : okx b = true) :
    PE X (.Call (.Name "isinstance" p) [a, b] [] pos) (tD C B Γ W (ra.bind (isiR C.toMng [t]))) := by
  refine (pe_callB call_isi (h.gl hg) (by rw [h.eM]; exact w.blt _ (by simp [BLT])) PyProof.Rows.boot_isinstance (pa_cons ha (pa_cons hb pa_nil (star_cons ob)) (star_cons oa)) (by decide) (by decide) (star_cons oa)
    (star_any (es := [b]) (by rw [List.all_cons, ob]; rfl))).imp fun σ H Q ⟨F, s, q⟩ => ⟨F, s, q.bind.mono fun v H1 ⟨F1, d, e1, f1, r1, _, p1⟩ => ?_⟩
  unfold isiR at p1
  split at p1
  · exact False.elim p1
  · rename_i hd
    split at p1
    · rename_i bb hi
      have hi' := hi
      unfold isiD at hi'
      have hs : C.sub (tyD d) t = some bb := by
        split at hi'
        · rename_i e; cases hi'; exact e
        · rename_i e; unfold isiD at hi'; cases hi'; exact e
        · cases hi'
      refine ⟨v, clsV C t, tyv C (tyD d), tyv C t, bb, rfl, clsV_ok t, ?_, ?_, p1.now f1 rfl⟩
      · rw [h.eK]; exact tyx_of w f1 r1 hs hd
      · rw [h.eK]; exact (w.sub _ _ _ hs).1
    · exact False.elim p1
theorem nd_isi2 {t u : Ty} {k : Nat} {pos' : Pos} (w : Wld C T) (h : XOk C N sc top X) (hg : glB sc "isinstance" = true) (ha : PE X a (tD C B Γ W ra)) (oa : okx a = true) (hb : PE X b (tC (clsV C t))) (ob : okx b = true) (hc : PE X c (tC (clsV C u))) (oc : okx c = true) :
    PE X (.Call (.Name "isinstance" p) [a, .Tuple [b, c] k pos'] [] pos) (tD C B Γ W (ra.bind (isiR C.toMng [t, u]))) := by
  refine (pe_callB call_isiT (h.gl hg) (by rw [h.eM]; exact w.blt _ (by simp [BLT])) PyProof.Rows.boot_isinstance (pa_cons ha (pa_cons (pe_tup (pa_cons hb (pa_cons hc pa_nil (star_cons oc)) (star_cons ob))) pa_nil (star_cons rfl)) (star_cons oa)) (by decide) (by decide) (star_cons oa)
    (star_any (es := [.Tuple [b, c] k pos']) rfl)).imp fun σ H Q ⟨F, s, q⟩ => ⟨F, s, q.bind.mono fun v H1 ⟨F1, d, e1, f1, r1, _, p1⟩ => ?_⟩
  refine ⟨by show 2 ≤ sizeLine; rw [line_eq]; decide, fun t1 ht => ?_⟩
  obtain ⟨e', f'⟩ := laid (u := .tup [clsV C t, clsV C u]) f1 ht
  have le := laid_le (u := .tup [clsV C t, clsV C u]) f1 ht
  unfold isiR at p1
  split at p1
  · exact False.elim p1
  · rename_i hd
    split at p1
    · rename_i bb hi
      have hs : ∃ b', C.sub (tyD d) t = some b' := by
        unfold isiD at hi
        split at hi
        · rename_i e; exact ⟨_, e⟩
        · rename_i e; exact ⟨_, e⟩
        · cases hi
      obtain ⟨b', hs⟩ := hs
      refine ⟨v, t1, [clsV C t, clsV C u], tyv C (tyD d), [tyv C t, tyv C u], bb, rfl, upd_same, .cons (clsV_ok t) (.cons (clsV_ok u) .nil), ?_, ?_, p1 _ _ _ e' f' rfl⟩
      · rw [h.eK]; exact tyx_of w f' (Rep.le le _ _ r1) hs hd
      · rw [h.eK]; exact isi_kit w hi
    · exact False.elim p1

/-! ### fields -/
theorem findIx_at {n : Nat} : ∀ {l : List Nat} {k i : Nat}, findIx n l k = some i → k ≤ i ∧ l[i - k]? = some n
  | [], k, i, h => by cases h
  | x :: r, k, i, h => by
    unfold findIx at h
    split at h
    · rename_i e
      cases h
      exact ⟨Nat.le_refl _, by simp [e]⟩
    · obtain ⟨h1, h2⟩ := findIx_at h
      refine ⟨by omega, ?_⟩
      have : i - k = (i - (k + 1)) + 1 := by omega
      rw [this, List.getElem?_cons_succ]
      exact h2
theorem lookup_zip : ∀ {ks : List Str} {vs : List V} {i : Nat} {x : Str} {v : V}, ks.Nodup → ks[i]? = some x → vs[i]? = some v → (ks.zip vs).lookup x = some v
  | [], _, _, _, _, _, h, _ => by simp at h
  | k :: ks, [], i, _, _, _, _, h => by simp at h
  | k :: ks, w :: vs, i, x, v, nd, h1, h2 => by
    rw [List.zip_cons_cons, List.lookup_cons]
    cases i with
    | zero =>
      simp at h1 h2
      subst h1 h2
      simp
    | succ i =>
      have h1 : ks[i]? = some x := by simpa using h1
      have h2 : vs[i]? = some v := by simpa using h2
      have hne : (x == k) = false := by
        refine beq_eq_false_iff_ne.mpr fun e => ?_
        subst e
        exact (List.nodup_cons.mp nd).1 (List.mem_of_getElem? h1)
      rw [hne]
      exact lookup_zip (List.nodup_cons.mp nd).2 h1 h2
theorem lookup_take {ks : List Str} {vs : List V} {n i : Nat} {x : Str} {v : V} (nd : ks.Nodup) (h1 : ks[i]? = some x) (hi : i < n) (h2 : vs[i]? = some v) : ((ks.take n).zip vs).lookup x = some v :=
  lookup_zip (nd.sublist (List.take_sublist n ks)) (by rw [List.getElem?_take, if_pos hi]; exact h1) h2
theorem wt_fld {nm : Nat} {x : Str} (w : Wld C T) (h : XOk C N sc top X) (hx : T.fname nm = x) {F1 : Wd} {H1 : Hp} {v : V} {d : D} {Q : VK} {Ex : Nat → Hp → Prop} (f1 : Fits C F1 H1) (r1 : RpB C F1 H1 v d) (p1 : Po C (RpD C) F1 H1 (fldD C.toMng nm d) Q Ex) :
    ∃ o Cl dx fs u, v = V.ref o ∧ H1 o = some (.ins Cl dx fs) ∧ Cls X.K Cl ∧ NoAttr X.K Cl x ∧ fs.lookup x = some u ∧ Q u H1 := by
  unfold fldD at p1
  split at p1
  · rename_i c l
    split at p1
    · rename_i i hi
      split at p1
      · rename_i d hd
        obtain ⟨_, h2⟩ := findIx_at hi
        rw [Nat.sub_zero] at h2
        have hne : C.flds c ≠ [] := by intro z; rw [z] at h2; simp at h2
        have q := w.cls c hne
        have hname : C.fnm nm = x := by rw [w.fnm, hx]
        have hn : ((C.flds c).map C.fnm)[i]? = some x := by rw [List.getElem?_map, h2, ← hname]; rfl
        rcases r1 with ⟨o, dx, xs, rfl, ho, hl, r⟩ | ⟨_, _, _, _, z, _⟩ | ⟨o, dx, xs, c', l', rfl, z, fo, ho, r⟩
        · obtain ⟨v, hv, rv⟩ := r.get hd
          refine ⟨o, C.cls c, dx, _, v, rfl, f1 _ _ ho, by rw [h.eK]; exact q.cl, by rw [h.eK, ← hname]; exact q.na nm (List.mem_of_getElem? h2), ?_, p1.now f1 rv⟩
          unfold fields
          exact lookup_zip q.nd hn hv
        · cases z
        · cases z
          obtain ⟨v, hv, rv⟩ := r.get hd
          refine ⟨o, C.cls c, dx, _, v, rfl, ho, by rw [h.eK]; exact q.cl, by rw [h.eK, ← hname]; exact q.na nm (List.mem_of_getElem? h2), ?_, p1.now f1 rv⟩
          rw [List.map_take]
          exact lookup_take q.nd hn (List.getElem?_eq_some_iff.mp hd).1 hv
      · exact False.elim p1
    · exact False.elim p1
  · exact False.elim p1
theorem nd_fld {nm : Nat} {x : Str} (w : Wld C T) (h : XOk C N sc top X) (hx : T.fname nm = x) (ha : PE X a (tB C B Γ W ra)) (na : notSuper a = true) : PE X (.Attribute a x pos) (tD C B Γ W (ra.bind (fldD C.toMng nm))) :=
  (pe_fld ha (attr_ok na)).imp fun σ H Q ⟨F, s, q⟩ => ⟨F, s, q.bind.mono fun v H1 ⟨F1, d, e1, f1, r1, _, p1⟩ => wt_fld w h hx f1 r1 p1⟩

/-! ### iterators -/
def IterOk (C : Cfg) (F0 : Wd) (J : It) (ds : List D) : Prop := ∀ F H, (∀ b x, F0 b = some x → F b = some x) → Fits C F H →
  (∀ (i : Nat) (d : D), ds[i]? = some d → J.go i H ∧ ∀ x H', J.yld i H x H' → ∃ F', Ext F H F' H' ∧ Fits C F' H' ∧ Rep C F' x d) ∧ ∀ i : Nat, ds.length ≤ i → J.stop i H
def tI (C : Cfg) (B : Bs) (Γ : Gam) (W : WX) (r : R (List D)) : TI := fun σ H R => ∃ F, SR C B F H σ Γ ∧ Po C (fun F _ J ds => IterOk C F J ds) F H r R (Wx C W σ)
theorem pi_or {tg : Expr} {w1 w2 : TI} (h1 : PI X tg a w1) (h2 : PI X tg a w2) : PI X tg a (fun σ H R => w1 σ H R ∨ w2 σ H R) :=
  ⟨fun pins s σ H R I h => h.elim (fun q => h1.run pins s σ H R I q) fun q => h2.run pins s σ H R I q⟩
theorem pi_imp {tg : Expr} {w1 w2 : TI} (h1 : PI X tg a w1) (i : ∀ σ H R, w2 σ H R → w1 σ H R) : PI X tg a w2 := ⟨fun pins s σ H R I h => h1.run pins s σ H R I (i σ H R h)⟩
theorem iter_lst {F : Wd} {q : Addr} {xs : List V} {l : List D} (hq : F q = some (.o (.lst xs))) (r : RepL C F xs l) : IterOk C F (Itl C.K q) l := by
  intro F' H le f
  have hH : H q = some (.lst xs) := f q _ (le _ _ hq)
  refine ⟨fun i d hd => ?_, fun i hi => ⟨xs, SqL.of hH, by rw [r.len]; exact hi⟩⟩
  obtain ⟨v, hv, rv⟩ := r.get hd
  refine ⟨⟨xs, v, SqL.of hH, hv⟩, fun x H' ⟨e, y⟩ => ?_⟩
  subst e
  have := y xs (SqL.of hH)
  rw [hv] at this
  cases this
  exact ⟨F', Ext.refl _ _, f, Rep.le le _ _ rv⟩
theorem iter_tup {F : Wd} {q : Addr} {xs : List V} {l : List D} (hq : F q = some (.o (.tup xs))) (r : RepL C F xs l) : IterOk C F (Itt C.K q) l := by
  intro F' H le f
  have hH : H q = some (.tup xs) := f q _ (le _ _ hq)
  refine ⟨fun i d hd => ?_, fun i hi => ⟨xs, SqT.of hH, by rw [r.len]; exact hi⟩⟩
  obtain ⟨v, hv, rv⟩ := r.get hd
  refine ⟨⟨xs, v, SqT.of hH, hv⟩, fun x H' ⟨e, y⟩ => ?_⟩
  subst e
  have := y xs (SqT.of hH)
  rw [hv] at this
  cases this
  exact ⟨F', Ext.refl _ _, f, Rep.le le _ _ rv⟩
theorem iter_str {F : Wd} (s : List Nat) : IterOk C F (Its (Sx s)) (s.map fun c => .str [c]) := by
  intro F' H le f
  refine ⟨fun i d hd => ?_, fun i hi => by show (Sx s).cps.size ≤ i; simpa [Sx] using hi⟩
  rw [List.getElem?_map] at hd
  cases e : s[i]? with
  | none => rw [e] at hd; cases hd
  | some c =>
    rw [e] at hd
    cases hd
    refine ⟨by show i < (Sx s).cps.size; have := (List.getElem?_eq_some_iff.mp e).1; simpa [Sx] using this, fun x H' ⟨e1, c', hc, hx⟩ => ?_⟩
    subst e1
    have : (Sx s).cps[i]? = s[i]? := by simp [Sx]
    rw [this, e] at hc
    cases hc
    exact ⟨F', Ext.refl _ _, f, hx⟩
theorem iter_rng {F : Wd} (lo : Int) (n : Nat) : IterOk C F (Itr lo n) ((List.range n).map fun k => .int (lo + (k : Nat))) := by
  intro F' H le f
  refine ⟨fun i d hd => ?_, fun i hi => by show n ≤ i; simpa using hi⟩
  rw [List.getElem?_map] at hd
  by_cases hi : i < n
  · rw [List.getElem?_range hi] at hd
    cases hd
    refine ⟨hi, fun x H' ⟨e1, hx⟩ => ?_⟩
    subst e1
    exact ⟨F', Ext.refl _ _, f, hx⟩
  · rw [List.getElem?_eq_none (by simpa using hi)] at hd
    cases hd
theorem nd_iter {tg : Expr} (h : XOk C N sc top X) (ha : PE X a (tD C B Γ W ra)) : PI X tg a (tI C B Γ W (ra.bind (walkD false))) := by
  refine pi_imp (pi_or (pi_or (pi_list ha) (pi_tup ha)) (pi_str ha)) fun σ H R ⟨F, s, p⟩ => ?_
  cases ra with
  | exc c => exact .inl (.inl ⟨F, s, p⟩)
  | bad => exact False.elim p
  | ok d =>
    cases d with
    | lst l =>
      refine .inl (.inl ⟨F, s, fun v F1 H1 e1 f1 r1 => ?_⟩)
      obtain ⟨q, xs, rfl, hq, r⟩ := r1
      exact ⟨q, rfl, ⟨xs, SqL.of (f1 q _ hq)⟩, p _ F1 H1 e1 f1 (by rw [h.eK]; exact iter_lst hq r)⟩
    | tup l =>
      refine .inl (.inr ⟨F, s, fun v F1 H1 e1 f1 r1 => ?_⟩)
      obtain ⟨q, xs, rfl, hq, r⟩ := r1
      exact ⟨q, rfl, ⟨xs, SqT.of (f1 q _ hq)⟩, p _ F1 H1 e1 f1 (by rw [h.eK]; exact iter_tup hq r)⟩
    | str z =>
      refine .inr ⟨F, s, fun v F1 H1 e1 f1 r1 => ?_⟩
      exact ⟨Sx z, r1, p _ F1 H1 e1 f1 (iter_str z)⟩
    | _ => exact False.elim p
theorem wt_rng1 {F1 : Wd} {H1 : Hp} {vs : List V} {ds : List D} {R : It → Hp → Prop} {Ex : Nat → Hp → Prop} (hl : ds.length = 1) (f1 : Fits C F1 H1) (r1 : RepL C F1 vs ds) (p1 : Po C (fun F _ J ds => IterOk C F J ds) F1 H1 (walkD true (.tup ds)) R Ex) :
    ∃ j : Int, vs = [.int j] ∧ -(2 ^ 62) ≤ j ∧ j < 2 ^ 62 ∧ R (Itr 0 j.toNat) H1 := by
  match ds, hl with
  | [d], _ =>
    obtain ⟨v, r, rfl, hv, hr⟩ := r1
    cases d with
    | int j =>
      rw [show v = V.int j from hv, show r = [] from hr]
      have p1 : Po C (fun F _ J ds => IterOk C F J ds) F1 H1 (if -4611686018427387904 ≤ j ∧ j < 4611686018427387904 then .ok ((List.range j.toNat).map fun k => D.int (k : Nat)) else .bad) R Ex := p1
      by_cases hj : -4611686018427387904 ≤ j ∧ j < 4611686018427387904
      · rw [if_pos hj] at p1
        refine ⟨j, rfl, by omega, by omega, p1.now f1 ?_⟩
        have := iter_rng (C := C) (F := F1) 0 j.toNat
        simpa using this
      · rw [if_neg hj] at p1
        exact False.elim p1
    | _ => exact False.elim p1
theorem wt_rng2 {F1 : Wd} {H1 : Hp} {vs : List V} {ds : List D} {R : It → Hp → Prop} {Ex : Nat → Hp → Prop} (hl : ds.length = 2) (f1 : Fits C F1 H1) (r1 : RepL C F1 vs ds) (p1 : Po C (fun F _ J ds => IterOk C F J ds) F1 H1 (walkD true (.tup ds)) R Ex) :
    ∃ i j : Int, vs = [.int i, .int j] ∧ (-(2 ^ 62) ≤ i ∧ i < 2 ^ 62 ∧ -(2 ^ 62) ≤ j ∧ j < 2 ^ 62) ∧ R (Itr i (j - i).toNat) H1 := by
  match ds, hl with
  | [d, e], _ =>
    obtain ⟨v, r, rfl, hv, v2, r2, rfl, hv2, hr⟩ := r1
    cases d with
    | int i =>
      cases e with
      | int j =>
        rw [show v = V.int i from hv, show v2 = V.int j from hv2, show r2 = [] from hr]
        have p1 : Po C (fun F _ J ds => IterOk C F J ds) F1 H1 (if -4611686018427387904 ≤ i ∧ i < 4611686018427387904 ∧ -4611686018427387904 ≤ j ∧ j < 4611686018427387904 then .ok ((List.range (j - i).toNat).map fun k => D.int (i + (k : Nat))) else .bad) R Ex := p1
        by_cases hj : -4611686018427387904 ≤ i ∧ i < 4611686018427387904 ∧ -4611686018427387904 ≤ j ∧ j < 4611686018427387904
        · rw [if_pos hj] at p1
          exact ⟨i, j, rfl, ⟨by omega, by omega, by omega, by omega⟩, p1.now f1 (iter_rng i (j - i).toNat)⟩
        · rw [if_neg hj] at p1
          exact False.elim p1
      | _ => exact False.elim p1
    | _ => exact False.elim p1
theorem PL.cons_inv {e : Expr} (h : PL C X B Γ W (e :: es) rs) : ∃ r rs', rs = r.bind (fun x => rs'.bind fun xs => .ok (x :: xs)) ∧ okx e = true ∧ PE X e (tD C B Γ W r) ∧ PL C X B Γ W es rs' := by
  cases h with
  | cons o he hl => exact ⟨_, _, rfl, o, he, hl⟩
theorem PL.nil_inv (h : PL C X B Γ W [] rs) : rs = .ok [] := by
  cases h; rfl
theorem PL.len (h : PL C X B Γ W es rs) {ds : List D} (e : rs = .ok ds) : ds.length = es.length := by
  induction h generalizing ds with
  | nil => cases e; rfl
  | @cons x xs r rs' o he hl ih =>
    cases r with
    | ok d =>
      cases rs' with
      | ok ds' =>
        cases e
        simp [ih rfl]
      | _ => cases e
    | _ => cases e
theorem nd_range1 {tg : Expr} (w : Wld C T) (h : XOk C N sc top X) (hg : glB sc "range" = true) (ha : PL C X B Γ W [a] rs) :
    PI X tg (.Call (.Name "range" p) [a] [] pos) (tI C B Γ W (rs.bind fun ds => walkD true (.tup ds))) := by
  have oa : okx a = true := by have := ha.ok; simpa using this
  exact pi_imp (pi_range1 (h.gl hg) (by rw [h.eM]; exact w.blt _ (by simp [BLT])) ha.pa (star_cons oa)) fun σ H R ⟨F, s, p⟩ => ⟨F, s, p.bind.mono fun vs H1 ⟨F1, ds, e1, f1, r1, er, p1⟩ => wt_rng1 (ha.len er) f1 r1 p1⟩
theorem nd_range2 {tg : Expr} (w : Wld C T) (h : XOk C N sc top X) (hg : glB sc "range" = true) (ha : PL C X B Γ W [a, b] rs) :
    PI X tg (.Call (.Name "range" p) [a, b] [] pos) (tI C B Γ W (rs.bind fun ds => walkD true (.tup ds))) := by
  have o := ha.ok
  simp only [List.all_cons, List.all_nil, Bool.and_true, Bool.and_eq_true] at o
  exact pi_imp (pi_range2 (h.gl hg) (by rw [h.eM]; exact w.blt _ (by simp [BLT])) ha.pa (by rw [star_cons o.1, star_cons o.2]; rfl) (star_cons o.2)) fun σ H R ⟨F, s, p⟩ => ⟨F, s, p.bind.mono fun vs H1 ⟨F1, ds, e1, f1, r1, er, p1⟩ => wt_rng2 (ha.len er) f1 r1 p1⟩

/-! ### targets -/
def gNames : List Nat → TGs
  | [] => gNil
  | i :: r => gCons (gName i) (gNames r)
def gX (K : PySem.W.Frag) : List Nat → TG
  | [i] => gName i
  | tg => gTup K tg.length (gNames tg)
theorem wipe_set {σ : L2.St} {i : Nat} {o : Option V} : ∀ {vs : List Nat}, i ∈ vs → wipe (σ.set i o) vs = wipe σ vs
  | v :: vs, hm => by
    show (wipe (σ.set i o) vs).set v none = (wipe σ vs).set v none
    by_cases h : i ∈ vs
    · rw [wipe_set h]
    · have e : i = v := by
        rcases List.mem_cons.mp hm with e | e
        · exact e
        · exact absurd e h
      subst e
      have key : ∀ (vs : List Nat) (σ : L2.St), i ∉ vs → wipe (σ.set i o) vs = (wipe σ vs).set i o := by
        intro vs
        induction vs with
        | nil => intro σ _; rfl
        | cons w r ih =>
          intro σ hn
          rw [List.mem_cons, not_or] at hn
          show (wipe (σ.set i o) r).set w none = ((wipe σ r).set w none).set i o
          rw [ih σ hn.2, List.set_comm _ _ hn.1]
      rw [key vs σ h, List.set_set]
theorem gNames_ok {F : Wd} {H : Hp} {vs : List Nat} : ∀ {tg : List Nat} {ds : List D} {xs : List V} {σ : L2.St} {Γ Γ' : Gam} {Q : L2.St → Hp → Prop}, SR C B F H σ Γ → RepL C F xs ds → setAll Γ tg ds = .ok Γ' → (∀ i ∈ tg, i ∈ vs) →
    (∀ σ', SR C B F H σ' Γ' → wipe σ' vs = wipe σ vs → Q σ' H) → gNames tg xs σ H Q
  | [], [], xs, σ, Γ, Γ', Q, s, r, e, _, k => by
    cases e
    exact ⟨r, k σ s rfl⟩
  | [], _ :: _, _, _, _, _, _, _, _, e, _, _ => by cases e
  | _ :: _, [], _, _, _, _, _, _, _, e, _, _ => by cases e
  | i :: tg, d :: ds, xs, σ, Γ, Γ', Q, s, r, e, hv, k => by
    obtain ⟨v, rr, rfl, r1, r2⟩ := r
    refine ⟨v, rr, rfl, ?_⟩
    refine gNames_ok (s.put_val r1) r2 e (fun j hj => hv j (List.mem_cons_of_mem _ hj)) fun σ' s' w' => k σ' s' (w'.trans (wipe_set (hv i List.mem_cons_self)))
theorem gX_ok {K : PySem.W.Frag} {F : Wd} {H : Hp} {vs tg : List Nat} {d : D} {v : V} {σ : L2.St} {Γ Γ' : Gam} {Q : L2.St → Hp → Prop} (s : SR C B F H σ Γ) (r : Rep C F v d) (e : tgtD Γ tg d = .ok Γ') (hv : ∀ i ∈ tg, i ∈ vs)
    (k : ∀ σ', SR C B F H σ' Γ' → wipe σ' vs = wipe σ vs → Q σ' H) : gX K tg v σ H Q := by
  match tg, e, hv with
  | [i], e, hv =>
    cases e
    exact k _ (s.put_val r) (wipe_set (hv i List.mem_cons_self))
  | [], e, hv =>
    cases d with
    | tup l =>
      obtain ⟨a, xs, rfl, h, rl⟩ := r
      have hH := s.fits a _ h
      have e' : setAll Γ [] l = .ok Γ' := e
      have hl : l = [] := by cases l with | nil => rfl | cons _ _ => cases e'
      subst hl
      exact ⟨a, xs, rfl, SqT.of hH, rl.len, gNames_ok s rl e' hv k⟩
    | _ => cases e
  | i :: j :: t, e, hv =>
    cases d with
    | tup l =>
      obtain ⟨a, xs, rfl, h, rl⟩ := r
      have hH := s.fits a _ h
      have e' : setAll Γ (i :: j :: t) l = .ok Γ' := e
      have hl : ∀ (tg : List Nat) (l : List D) (Γ : Gam), setAll Γ tg l = .ok Γ' → l.length = tg.length := by
        intro tg
        induction tg with
        | nil => intro l Γ e; cases l with | nil => rfl | cons _ _ => cases e
        | cons i tg ih =>
          intro l Γ e
          cases l with
          | nil => cases e
          | cons d l => simp [ih l _ e]
      exact ⟨a, xs, rfl, SqT.of hH, by rw [rl.len]; exact hl _ l Γ e', gNames_ok s rl e' hv k⟩
    | _ => cases e
/-- a name that may be stored -/
def locB (top : Bool) (sc : Scope) (x : Str) : Bool := match sc.names.lookup x with
  | some .local => true
  | some .cell => top
  | _ => false
def isName (N : List Str) (top : Bool) (sc : Scope) (i : Nat) : Expr → Bool
  | .Name x _ => decide (N[i]? = some x) && locB top sc x
  | _ => false
def areNames (N : List Str) (top : Bool) (sc : Scope) : List Nat → List Expr → Bool
  | [], [] => true
  | i :: r, e :: es => isName N top sc i e && areNames N top sc r es
  | _, _ => false
def chkTg (N : List Str) (top : Bool) (sc : Scope) (tg : List Nat) (e : Expr) : Bool :=
  match tg with
  | [i] => isName N top sc i e
  | tg => match e with
    | .Tuple es _ _ => areNames N top sc tg es
    | _ => false
theorem loc_of (h : XOk C N sc top X) {x : Str} (l : locB top sc x = true) : Loc X.env.scope x ∧ (X.fn x = true ∨ X.env.scope.names.lookup x = some .local) := by
  unfold locB at l
  rw [h.eS]
  split at l
  · rename_i e; exact ⟨.inl e, .inr e⟩
  · rename_i e; exact ⟨.inr e, .inl (h.fnT l x)⟩
  · cases l
theorem pg_isName (h : XOk C N sc top X) {i : Nat} {e : Expr} (c : isName N top sc i e = true) : PG X e (gName i) := by
  unfold isName at c
  split at c
  · rename_i x p
    rw [Bool.and_eq_true, decide_eq_true_eq] at c
    obtain ⟨l1, l2⟩ := loc_of h c.2
    exact pg_name (by rw [h.eN]; exact h.nd) (by rw [h.eN]; exact c.1) l1 l2
  · cases c
theorem assign_names {env : Env} : ∀ {tg : List Nat} {es : List Expr}, areNames N top sc tg es = true → (assignEach es env).map (·.2) = es.map (fun e => assign e env) ∧ (assignEach es env).length = tg.length ∧ (assignEach es env).findIdx? (·.1) = none
  | [], [], _ => ⟨rfl, rfl, rfl⟩
  | i :: tg, e :: es, c => by
    unfold areNames at c
    rw [Bool.and_eq_true] at c
    obtain ⟨h1, h2, h3⟩ := assign_names (env := env) c.2
    have c1 := c.1
    unfold isName at c1
    split at c1
    · rename_i x p
      have e1 : assignEach (Expr.Name x p :: es) env = (false, assign (.Name x p) env) :: assignEach es env := rfl
      rw [e1]
      refine ⟨by rw [List.map_cons, List.map_cons, h1], by rw [List.length_cons, List.length_cons, h2], ?_⟩
      rw [List.findIdx?_cons]
      simp [h3]
    · cases c1
  | [], _ :: _, c => by cases c
  | _ :: _, [], c => by cases c
theorem pgs_names (h : XOk C N sc top X) : ∀ {tg : List Nat} {es : List Expr}, areNames N top sc tg es = true → PGs X es (gNames tg)
  | [], [], _ => pgs_nil
  | i :: tg, e :: es, c => by
    have c' := c
    unfold areNames at c
    rw [Bool.and_eq_true] at c
    refine pgs_cons (pg_isName h c.1) (pgs_names h c.2) ?_
    obtain ⟨h1, _, _⟩ := assign_names (env := X.env) c'
    obtain ⟨h2, _, _⟩ := assign_names (env := X.env) c.2
    rw [h1, h2]; rfl
  | [], _ :: _, c => by cases c
  | _ :: _, [], c => by cases c
theorem pg_tg (h : XOk C N sc top X) {tg : List Nat} {e : Expr} (c : chkTg N top sc tg e = true) : PG X e (gX X.K tg) := by
  match tg, c with
  | [i], c => exact pg_isName h c
  | [], c =>
    cases e with
    | Tuple es k p =>
      have c : areNames N top sc [] es = true := c
      obtain ⟨_, h2, h3⟩ := assign_names (env := X.env) c
      exact pg_tup h.calm (pgs_names h c) h2 h3
    | _ => cases c
  | i :: j :: t, c =>
    cases e with
    | Tuple es k p =>
      have c : areNames N top sc (i :: j :: t) es = true := c
      obtain ⟨_, h2, h3⟩ := assign_names (env := X.env) c
      exact pg_tup h.calm (pgs_names h c) h2 h3
    | _ => cases c

/-! ### comprehensions -/
theorem blk_ok (h : XOk C N sc top X) (s : Shared) (H : Hp) (scope : Scope) (D : Addr) (cl : List (Str × Addr)) (fp : List Addr) : XOk C N (relS scope sc) false (X.blk s H scope (compEnvC scope cl D X.env) fp) :=
  ⟨h.eP, h.eW, h.eK, h.eM, h.eB, h.eN, by rw [← h.eS]; rfl, h.nd, h.calm, h.room, fun z => by cases z⟩
theorem noWish {Y : Cx} : Takes Y (fun _ _ _ _ => False) := takes0
abbrev W0 : WX := fun _ _ _ _ => False
/-- whatever the names hold -/
def tAny (C : Cfg) (f : Gam → R D) : TE := fun σ H Q => ∃ B Γ, tD C B Γ W0 (f Γ) σ H Q
def tAnyT (C : Cfg) (f : Gam → R Bool) : TT := fun σ H Q => ∃ B Γ, tT C B Γ W0 (f Γ) σ H Q
theorem pe_any {Y : Cx} {f : Gam → R D} (h : ∀ B Γ, PE Y a (tD C B Γ W0 (f Γ))) : PE Y a (tAny C f) := ⟨fun pins s σ H Q I ⟨B, Γ, q⟩ => (h B Γ).run pins s σ H Q I q⟩
theorem pt_any {Y : Cx} {f : Gam → R Bool} (h : ∀ B Γ, PT Y a (tT C B Γ W0 (f Γ))) : PT Y a (tAnyT C f) := ⟨fun pins s σ H Q I ⟨B, Γ, q⟩ => (h B Γ).run pins s σ H Q I q⟩
theorem take_succ {α : Type} {l : List α} {i : Nat} {d : α} (h : l[i]? = some d) : l.drop i = d :: l.drop (i + 1) := by
  obtain ⟨hl, e⟩ := List.getElem?_eq_some_iff.mp h
  rw [List.drop_eq_getElem_cons hl, e]
theorem tLc_ok {tg : List Nat} {wi : TI} {tt : TT} {te : TE} {own : List (Str × Nat)} {rit : R (List D)} {fc : Option (Gam → R D)} {fe : Gam → R D} (ho : own.map (·.2) = tg)
    (hwi : wi = tI C B Γ W rit) (htt : tt = match fc with | none => tYes | some f => tAnyT C fun Γ => (f Γ).bind truD) (hte : te = tAny C fe) {σ : L2.St} {H : Hp} {Q : VK}
    (q : tN C B Γ W (rit.bind fun items => (compD tg (killG Γ tg) fc fe items []).noexc.bind fun ds => .ok (.lst ds)) σ H Q) : tLc wi (gX X.K tg) tt te (own.map (·.2)) σ H Q := by
  subst hwi hte
  rw [ho]
  obtain ⟨F, s, p⟩ := q
  refine ⟨F, s, p.bind.mono fun J H1 ⟨F1, items, e1, f1, r1, _, p1⟩ => ?_⟩
  intro D0 hD
  have s1 := (s.ext_ e1 f1).wipe tg
  -- the outcome
  cases eo : compD tg (killG Γ tg) fc fe items [] with
  | exc c => rw [eo] at p1; exact False.elim p1
  | bad => rw [eo] at p1; exact False.elim p1
  | ok res =>
    rw [eo] at p1
    have p1 : Po C (RpN C H) F1 H1 (.ok (.lst res)) Q (Wx C W σ) := p1
    -- the invariant
    let Inv : Nat → Hp → Prop := fun i Hc => ∃ Fc acc xs, Ext F1 H1 Fc Hc ∧ Fits C Fc Hc ∧ Fc D0 = none ∧ Hc D0 = some (.lst xs) ∧ RepL C Fc xs acc ∧ i ≤ items.length ∧ compD tg (killG Γ tg) fc fe (items.drop i) acc = .ok res
    refine ⟨fun i m Hc => m = items.length - i ∧ Inv i Hc, ⟨items.length, by simp, F1, [], [], (Ext.refl _ _).fresh hD, f1.fresh hD, f1.free hD, upd_same, rfl, Nat.zero_le _, by simpa using eo⟩, ?_⟩
    rintro i m Hc ⟨rfl, Fc, acc, xs, ec, fc', hFD, hHD, ra, hi, er⟩
    obtain ⟨hgo, hstop⟩ := r1 Fc Hc ec.le fc'
    by_cases hlt : i < items.length
    · have hd : items[i]? = some items[i] := List.getElem?_eq_getElem hlt
      obtain ⟨go, y⟩ := hgo i _ hd
      refine .inr ⟨go, Inv (i + 1), fun H' q => ⟨items.length - (i + 1), by omega, rfl, q⟩, fun x H' hy => ?_⟩
      obtain ⟨F2, e2, f2, rx⟩ := y x H' hy
      rw [take_succ hd] at er
      unfold compD at er
      have s2 : SR C B F2 H' (wipe σ tg) (killG Γ tg) := s1.ext_ (ec.trans e2) f2
      obtain ⟨hHD2, hFD2⟩ := e2.own hHD hFD
      cases et : tgtD (killG Γ tg) tg items[i] with
      | exc c => rw [et] at er; cases er
      | bad => rw [et] at er; cases er
      | ok Γ' =>
        rw [et] at er
        refine gX_ok s2 rx et (fun i hi => hi) fun σ' s' hw => ?_
        have ww : ∀ (l : List Nat), (∀ i ∈ l, i ∈ tg) → wipe (wipe σ l) tg = wipe σ tg := by
          intro l
          induction l with
          | nil => intro _; rfl
          | cons v r ih =>
            intro hl
            show wipe ((wipe σ r).set v none) tg = _
            rw [wipe_set (hl v List.mem_cons_self), ih fun i hi => hl i (List.mem_cons_of_mem _ hi)]
        refine ⟨hw.trans (ww tg fun _ h => h), ?_⟩
        -- the element, if kept
        have keep : ∀ (F3 : Wd) (H3 : Hp), Ext F2 H' F3 H3 → Fits C F3 H3 → ((fe Γ').bind fun y => if acc.length < LINE then compD tg (killG Γ tg) fc fe (items.drop (i + 1)) (acc ++ [y]) else .bad) = .ok res →
            tAny C fe σ' H3 fun y H4 => ∃ acc', H4 D0 = some (.lst acc') ∧ acc'.length < sizeLine ∧ Inv (i + 1) (upd H4 D0 (.lst (acc' ++ [y]))) := by
          intro F3 H3 e3 f3 er
          refine ⟨B, Γ', F3, s'.ext_ e3 f3, ?_⟩
          cases ef : fe Γ' with
          | exc c => rw [ef] at er; cases er
          | bad => rw [ef] at er; cases er
          | ok dy =>
            rw [ef] at er
            have er : (if acc.length < LINE then compD tg (killG Γ tg) fc fe (items.drop (i + 1)) (acc ++ [dy]) else .bad) = .ok res := er
            split at er
            · rename_i hl
              intro y F4 H4 e4 f4 ry
              obtain ⟨hHD4, hFD4⟩ := (e3.trans e4).own hHD2 hFD2
              have rl := RepL.le ((e2.trans e3).trans e4).le _ _ ra
              refine ⟨xs, hHD4, by rw [ra.len, line_eq]; exact hl, F4, acc ++ [dy], xs ++ [y], ?_, f4.write hFD4, hFD4, upd_same, rl.snoc ry, hlt, er⟩
              exact (((ec.trans e2).trans e3).trans e4).fresh hD
            · cases er
        have skip : ∀ (F3 : Wd) (H3 : Hp), Ext F2 H' F3 H3 → Fits C F3 H3 → compD tg (killG Γ tg) fc fe (items.drop (i + 1)) acc = .ok res → Inv (i + 1) H3 := by
          intro F3 H3 e3 f3 er
          obtain ⟨hHD3, hFD3⟩ := e3.own hHD2 hFD2
          exact ⟨F3, acc, xs, (ec.trans e2).trans e3, f3, hFD3, hHD3, RepL.le (e2.trans e3).le _ _ ra, hlt, er⟩
        cases fc with
        | none =>
          subst htt
          exact iteT (B := Inv (i + 1) H') (keep F2 H' (Ext.refl _ _) f2 er)
        | some f =>
          subst htt
          have er : (((f Γ').bind truD).bind fun b => if b then (fe Γ').bind fun y => if acc.length < LINE then compD tg (killG Γ tg) (some f) fe (items.drop (i + 1)) (acc ++ [y]) else .bad else compD tg (killG Γ tg) (some f) fe (items.drop (i + 1)) acc) = .ok res := er
          refine ⟨B, Γ', F2, s', ?_⟩
          cases ef : (f Γ').bind truD with
          | exc c => rw [ef] at er; cases er
          | bad => rw [ef] at er; cases er
          | ok bb =>
            rw [ef] at er
            have er : (if bb then (fe Γ').bind fun y => if acc.length < LINE then compD tg (killG Γ tg) (some f) fe (items.drop (i + 1)) (acc ++ [y]) else .bad else compD tg (killG Γ tg) (some f) fe (items.drop (i + 1)) acc) = .ok res := er
            show Po C RpT F2 H' ((f Γ').bind truD) _ _
            rw [ef]
            intro b2 F3 H3 e3 f3 eb
            cases eb
            cases bb with
            | true => rw [if_pos rfl] at er ⊢; exact keep F3 H3 e3 f3 er
            | false => rw [if_neg Bool.false_ne_true] at er ⊢; exact skip F3 H3 e3 f3 er
    · have hi' : i = items.length := by omega
      subst hi'
      rw [List.drop_length] at er
      unfold compD at er
      cases er
      refine .inl ⟨hstop _ (Nat.le_refl _), p1 _ _ _ ec fc' ⟨D0, xs, rfl, e1.free0 s.fits f1 hD, hFD, hHD, ra⟩⟩
end
end G

set_option Elab.async false
set_option linter.all false
set_option maxRecDepth 100000
set_option maxHeartbeats 4000000
/-! GH: the check of an expression against its text, and its soundness. -/
namespace G
open PySem L2

def bopIs : BOp → Operator → Bool
  | .add, .Add => true | .sub, .Sub => true | .mul, .Mult => true | .fdiv, .FloorDiv => true | .mod, .Mod => true | .pow, .Pow => true | .shr, .RShift => true
  | _, _ => false
def copIs : COp → CmpOp → Bool
  | .eq, .Eq => true | .ne, .NotEq => true | .lt, .Lt => true | .le, .LtE => true | .gt, .Gt => true | .ge, .GtE => true | .isin, .In => true | .notin, .NotIn => true
  | _, _ => false
def f1Name : F1 → Option Str
  | .len => some "len" | .int => some "int" | .str => some "str" | .tuple => some "tuple" | .list => some "list"
  | _ => none
def tyBoot (x : Str) : Option String :=
  if x = "int" then some "int" else if x = "str" then some "str" else if x = "bool" then some "bool" else if x = "list" then some "list" else if x = "tuple" then some "tuple" else if x = "bytes" then some "bytes" else none
def chkTy (T : Tb) (sc : Scope) (t : Ty) (e : Expr) : Bool :=
  match e with
  | .Name x _ => match t with
    | .b n => decide (tyBoot x = some n) && glB sc x
    | .c n => decide (T.cname n = some x) && glB sc x
  | _ => false
def isStr (s : List Nat) (c : Const) : Bool := match c with | .str x => decide (x.cps.toList = s) | _ => false
def noOwn : List Nat → List (Str × Nat) := fun _ => []
/-- the own names of a comprehension: the targets' names with their places -/
def ownOf (N : List Str) : List Nat → List (Str × Nat)
  | [] => []
  | i :: r => (match N[i]? with | some x => [(x, i)] | none => []) ++ ownOf N r
/-- forms whose truth is that of their value -/
def plainT : Expr → Bool
  | .UnaryOp .Not .. => false
  | .BoolOp .. => false
  | .IfExp .. => false
  | .Compare .. => false
  | _ => true
def isComp : Expr → Bool
  | .ListComp .. => true
  | _ => false
def notBool : Expr → Bool
  | .BoolOp .. => false
  | _ => true
def isNil : E → Bool
  | .nil => true
  | _ => false
def partB (lo : E) (el : Option Expr) (f : Expr → Bool) : Bool := match el with
  | none => isNil lo
  | some e => !isNil lo && f e
def condB (c : E) (ifs : List Expr) (f : Expr → Bool) : Bool := match ifs with
  | [] => isNil c
  | [e] => !isNil c && f e
  | _ => false
mutual
def chkE (T : Tb) (N : List Str) : E → Scope → Expr → Bool
  | .var i, sc, ex => match ex with
    | .Name x _ => decide (N[i]? = some x) && visB sc x && nmOk x
    | _ => false
  | .int i, _, ex => match ex with
    | .Constant (.int j) _ _ => decide (i = j)
    | _ => false
  | .str s, _, ex => match ex with
    | .Constant c _ _ => isStr s c
    | _ => false
  | .bl b, _, ex => match ex with
    | .Constant (.bool c) _ _ => b == c
    | _ => false
  | .non, _, ex => match ex with
    | .Constant .none _ _ => true
    | _ => false
  | .glob n, sc, ex => match ex with
    | .Name x _ => decide (T.gname n = some x) && glB sc x
    | _ => false
  | .bin op a b, sc, ex => match ex with
    | .BinOp ea o eb _ => bopIs op o && chkE T N a sc ea && chkE T N b sc eb
    | _ => false
  | .neg a, sc, ex => match ex with
    | .UnaryOp .USub ea _ => chkE T N a sc ea
    | _ => false
  | .cmp op a b, sc, ex => match ex with
    | .Compare ea [o] [eb] _ => copIs op o && chkE T N a sc ea && chkE T N b sc eb && okx eb
    | _ => false
  | .isN a, sc, ex => match ex with
    | .Compare ea [.Is] [.Constant .none _ _] _ => chkE T N a sc ea
    | _ => false
  | .notN a, sc, ex => match ex with
    | .Compare ea [.IsNot] [.Constant .none _ _] _ => chkE T N a sc ea
    | _ => false
  | .chain p q a b c, sc, ex => match ex with
    | .Compare ea [o1, o2] [eb, ec] _ => copIs p o1 && copIs q o2 && chkE T N a sc ea && chkE T N b sc eb && chkE T N c sc ec && okx eb && okx ec
    | _ => false
  | .and a b, sc, ex => match ex with
    | .BoolOp .And (ea :: eb :: r) pos => chkE T N a sc ea && chkE T N b sc (.BoolOp .And (eb :: r) pos)
    | _ => false
  | .or a b, sc, ex => match ex with
    | .BoolOp .Or (ea :: eb :: r) pos => chkE T N a sc ea && chkE T N b sc (.BoolOp .Or (eb :: r) pos)
    | _ => false
  | .last a, sc, ex => match ex with
    | .BoolOp _ [ea] _ => chkE T N a sc ea
    | _ => false
  | .not a, sc, ex => match ex with
    | .UnaryOp .Not ea _ => chkE T N a sc ea
    | _ => false
  | .ite _ _ _, _, _ => false
  | .tup l, sc, ex => match ex with
    | .Tuple es _ _ => chkL T N l sc es
    | _ => false
  | .lst l, sc, ex => match ex with
    | .List es _ => chkL T N l sc es
    | _ => false
  | .nil, _, _ => false
  | .cons _ _, _, _ => false
  | .item a i, sc, ex => match ex with
    | .Subscript ea ei _ => chkE T N a sc ea && chkE T N i sc ei && okx ei
    | _ => false
  | .slice a lo hi, sc, ex => match ex with
    | .Subscript ea (.Slice el eh none _) _ => chkE T N a sc ea && partB lo el (fun e => chkE T N lo sc e) && partB hi eh (fun e => chkE T N hi sc e)
    | _ => false
  | .f1 f a, sc, ex => match ex with
    | .Call (.Name x _) [ea] [] _ => decide (f1Name f = some x) && glB sc x && chkE T N a sc ea && okx ea
    | _ => false
  | .f2 _ _ _, _, _ => false
  | .isi ts a, sc, ex => match ex with
    | .Call (.Name x _) [ea, et] [] _ => decide (x = "isinstance") && glB sc x && chkE T N a sc ea && okx ea && (match ts with
      | [t] => chkTy T sc t et
      | [t, u] => (match et with | .Tuple [e1, e2] _ _ => chkTy T sc t e1 && chkTy T sc u e2 | _ => false)
      | _ => false)
    | _ => false
  | .fld nm a, sc, ex => match ex with
    | .Attribute ea x _ => decide (T.fname nm = x) && notSuper ea && chkE T N a sc ea
    | _ => false
  | .call n l, sc, ex => match T.cb n with
    | some k => match k sc ex with
      | some es => !isComp ex && notBool ex && chkL T N l sc es
      | none => false
    | none => false
  | .calm n l, sc, ex => match T.cm n with
    | some k => match k sc ex with
      | some es => !isComp ex && notBool ex && chkL T N l sc es
      | none => false
    | none => false
  | .comp tg rng it c e, sc, ex => match ex with
    | .ListComp elt [⟨etg, eit, ifs, 0⟩] scope _ =>
      blkC N sc scope (ownOf N tg) && decide ((ownOf N tg).map (·.2) = tg) && chkTg N false (relS scope sc) tg etg && okx eit &&
      (if rng then (match eit with | .Call (.Name x _) [a] [] _ => decide (x = "range") && glB sc x && chkL T N it sc [a] | .Call (.Name x _) [a, b] [] _ => decide (x = "range") && glB sc x && chkL T N it sc [a, b] | _ => false) else chkE T N it sc eit) &&
      condB c ifs (fun i => chkE T N c (relS scope sc) i) && chkE T N e (relS scope sc) elt
    | _ => false
  | .any, _, ex => !isComp ex
  | .fmt a, sc, ex => match ex with
    | .FormattedValue ea cv none _ => decide (cv = -1) && chkE T N a sc ea
    | _ => false
  | .own n i l, sc, ex => match T.ow n with
    | some k => match k N i sc ex with
      | some es => !isComp ex && notBool ex && chkL T N l sc es
      | none => false
    | none => false
def chkL (T : Tb) (N : List Str) : E → Scope → List Expr → Bool
  | .nil, _, es => match es with
    | [] => true
    | _ => false
  | .cons a l, sc, es => match es with
    | e :: r => okx e && chkE T N a sc e && chkL T N l sc r
    | _ => false
  | _, _, _ => false
end

/-- expressions that make a new list -/
def newE : E → Bool
  | .bin .. => true
  | .lst _ => true
  | .slice .. => true
  | .f1 .. => true
  | .comp .. => true
  | _ => false
structure Snd (C : Cfg) (X : Cx) (e : E) (ex : Expr) : Prop where
  pe : ∀ (W : WX), Takes X W → ∀ (B : Bs) (Γ : Gam), PE X ex (tD C B Γ W (evE C.toMng e Γ))
  pt : ∀ (W : WX), Takes X W → ∀ (B : Bs) (Γ : Gam), PT X ex (tT C B Γ W ((evE C.toMng e Γ).bind truD))
  pw : ∀ op vs pos, ex = .BoolOp op vs pos → ∀ (W : WX), Takes X W → ∀ (B : Bs) (Γ : Gam), PW X ex (tT C B Γ W ((evE C.toMng e Γ).bind truD))
  pn : newE e = true → ∀ (W : WX), Takes X W → ∀ (B : Bs) (Γ : Gam), PE X ex (tN C B Γ W (evE C.toMng e Γ))
  pb : ∀ (W : WX), Takes X W → ∀ (B : Bs) (Γ : Gam), PE X ex (tB C B Γ W (borrow Γ e (evE C.toMng e Γ)))
theorem plainT_ok {e : Expr} {env : Env} (h : plainT e = true) (whole : Sem Value) : isTrue e env whole = (do let v ← whole; standAt e.pos; holding [v] (truthy v)) := by
  cases e with
  | UnaryOp op x p => cases op <;> first | rfl | cases h
  | BoolOp op x p => cases h
  | IfExp a b c p => cases h
  | Compare a b c p => cases h
  | _ => rfl
theorem nobool {e : Expr} (h : plainT e = true) {op : PySem.BoolOp} {vs : List Expr} {pos : Pos} (z : e = .BoolOp op vs pos) : False := by
  subst z; cases h
section
variable {C : Cfg} {T : Tb} {N : List Str} {sc : Scope} {top : Bool} {X : Cx}
theorem borrow_ne {Γ : Gam} {e : E} {r : R D} (h : ∀ i, e ≠ .var i) : borrow Γ e r = r := by
  cases e <;> first | rfl | exact absurd rfl (h _)
theorem snd_mk (h : XOk C N sc top X) {e : E} {ex : Expr} (he : plainT ex = true) (hv : ∀ i, e ≠ .var i) (hn : newE e = false) (pe : ∀ (W : WX), Takes X W → ∀ (B : Bs) (Γ : Gam), PE X ex (tD C B Γ W (evE C.toMng e Γ))) : Snd C X e ex :=
  ⟨pe, fun W tk B Γ => nd_truth h (pe W tk B Γ) (plainT_ok he), fun op vs pos z => (nobool he z).elim, (fun z => by rw [hn] at z; cases z), fun W tk B Γ => by rw [borrow_ne hv]; exact nd_B (pe W tk B Γ)⟩
theorem snd_new (h : XOk C N sc top X) {e : E} {ex : Expr} (he : plainT ex = true) (hv : ∀ i, e ≠ .var i) (pn : ∀ (W : WX), Takes X W → ∀ (B : Bs) (Γ : Gam), PE X ex (tN C B Γ W (evE C.toMng e Γ))) : Snd C X e ex :=
  ⟨fun W tk B Γ => nd_adopt (pn W tk B Γ), fun W tk B Γ => nd_truth h (nd_adopt (pn W tk B Γ)) (plainT_ok he), fun op vs pos z => (nobool he z).elim, fun _ => pn, fun W tk B Γ => by rw [borrow_ne hv]; exact nd_B (nd_adopt (pn W tk B Γ))⟩
theorem part_some {lo : E} {r : R D} (h : isNil lo = false) : part lo r = r.bind partD := by cases lo <;> first | rfl | cases h
theorem part_none {lo : E} {r : R D} (h : isNil lo = true) : part lo r = .ok none := by cases lo <;> first | rfl | cases h
theorem snd_part {lo : E} {el : Option Expr} {f : Expr → Bool} (c : partB lo el f = true) (ih : ∀ e, f e = true → Snd C X lo e) (W : WX) (tk : Takes X W) (B : Bs) (Γ : Gam) : PO X el (tP C B Γ W (part lo (evE C.toMng lo Γ))) := by
  cases el with
  | none => rw [part_none (show isNil lo = true from c)]; exact nd_nopart
  | some e =>
    have c : (!isNil lo && f e) = true := c
    rw [Bool.and_eq_true, Bool.not_eq_true'] at c
    rw [part_some c.1]
    exact nd_part ((ih e c.2).pe W tk B Γ)
theorem ty_pe (w : Wld C T) (h : XOk C N sc top X) {t : Ty} {e : Expr} (c : chkTy T sc t e = true) : PE X e (tC (clsV C t)) := by
  unfold chkTy at c
  split at c
  · rename_i x p
    cases t with
    | b n =>
      simp only [Bool.and_eq_true, decide_eq_true_eq] at c
      have hg := h.gl c.2
      have go : ∀ (hv : bootBuiltins x = some (.type n)) (hm : C.mg x = none), PE X (.Name x p) (tC (V.ty n)) := fun hv hm =>
        pe_bltn hg (by rw [h.eM]; exact hm) hv rfl (nm_n (glB_nm c.2)) (nm_d (glB_nm c.2))
      have c1 := c.1
      unfold tyBoot at c1
      split at c1
      · rename_i e; subst e; cases c1; exact go (by decide +kernel) (w.blt _ (by simp [BLT]))
      · split at c1
        · rename_i e; subst e; cases c1; exact go (by decide +kernel) (w.blt _ (by simp [BLT]))
        · split at c1
          · rename_i e; subst e; cases c1; exact go (by decide +kernel) (w.blt _ (by simp [BLT]))
          · split at c1
            · rename_i e; subst e; cases c1; exact go (by decide +kernel) (w.blt _ (by simp [BLT]))
            · split at c1
              · rename_i e; subst e; cases c1; exact go (by decide +kernel) (w.blt _ (by simp [BLT]))
              · split at c1
                · rename_i e; subst e; cases c1; exact go (by decide +kernel) (w.blt _ (by simp [BLT]))
                · cases c1
    | c n =>
      simp only [Bool.and_eq_true, decide_eq_true_eq] at c
      exact pe_glob (h.gl c.2) (by rw [h.eM]; exact w.cnm n x c.1) rfl (nm_d (glB_nm c.2))
  · cases c
theorem ty_okx {t : Ty} {e : Expr} (c : chkTy T sc t e = true) : okx e = true := by
  unfold chkTy at c
  split at c
  · rfl
  · cases c
end
end G

set_option Elab.async false
set_option linter.all false
set_option maxRecDepth 100000
set_option maxHeartbeats 8000000
/-! GI: the soundness of the evaluator for expressions. -/
namespace G
open PySem L2
section
variable {C : Cfg} {T : Tb} {N : List Str} {sc : Scope} {top : Bool} {X : Cx} {B : Bs} {Γ : Gam} {W : WX} {pos p : Pos} {a b c : Expr} {es : List Expr} {ra rb rc : R D}
theorem bin_all (op : BOp) (o : Operator) (c : bopIs op o = true) : ∃ r : R2, OpR X (binaryOp o) r ∧ ∀ H0 F H x y dx dy Q Ex, (∀ p, H p = none → H0 p = none) → Fits C F H → RpB C F H x dx → RpB C F H y dy → Po C (RpN C H0) F H (binD op dx dy) Q Ex → r x y H Q := by
  cases op <;> cases o <;> first
    | (cases c; done)
    | exact ⟨_, op_add3, fun H0 F H x y dx dy Q Ex hf f rx ry q => wt_add H0 hf f rx ry q⟩
    | exact ⟨_, op_sub, fun H0 F H x y dx dy Q Ex hf f rx ry q => wt_sub H0 f rx ry q⟩
    | exact ⟨_, op_mul, fun H0 F H x y dx dy Q Ex hf f rx ry q => wt_mul H0 f rx ry q⟩
    | exact ⟨_, op_fdiv, fun H0 F H x y dx dy Q Ex hf f rx ry q => wt_fdiv H0 f rx ry q⟩
    | exact ⟨_, op_mod, fun H0 F H x y dx dy Q Ex hf f rx ry q => wt_mod H0 f rx ry q⟩
    | exact ⟨_, op_pow, fun H0 F H x y dx dy Q Ex hf f rx ry q => wt_pow H0 f rx ry q⟩
    | exact ⟨_, op_shr, fun H0 F H x y dx dy Q Ex hf f rx ry q => wt_shr H0 f rx ry q⟩
theorem cmp_all (h : XOk C N sc top X) (op : COp) (o : CmpOp) (c : copIs op o = true) : ∃ r : R2, OpR X (compareOp o) r ∧ ∀ F H x y dx dy (Q : VK) Ex, Fits C F H → RpB C F H x dx → RpB C F H y dy → Po C RpT F H (cmpD op dx dy) (fun k H' => Q (.bl k) H') Ex → r x y H Q := by
  have u1 : X.A.units + 64 < cLine := h.room.units
  have u2 : X.A.units + 65 < cLine := by have := h.room.un; omega
  cases op <;> cases o <;> first
    | (cases c; done)
    | exact ⟨_, op_eqD u1, fun F H x y dx dy Q Ex f rx ry q => wt_eq f rx ry q⟩
    | exact ⟨_, op_neD u1, fun F H x y dx dy Q Ex f rx ry q => wt_ne f rx ry q⟩
    | exact ⟨_, op_lt2, fun F H x y dx dy Q Ex f rx ry q => wt_lt f rx ry q⟩
    | exact ⟨_, op_le2, fun F H x y dx dy Q Ex f rx ry q => wt_le f rx ry q⟩
    | exact ⟨_, op_gt2, fun F H x y dx dy Q Ex f rx ry q => wt_gt f rx ry q⟩
    | exact ⟨_, op_ge2, fun F H x y dx dy Q Ex f rx ry q => wt_ge f rx ry q⟩
    | exact ⟨_, op_in3 u2, fun F H x y dx dy Q Ex f rx ry q => wt_in f rx ry q⟩
    | exact ⟨_, op_notin3 u2, fun F H x y dx dy Q Ex f rx ry q => wt_notin f rx ry q⟩
def chainD (q : COp) (y : D) (b : Bool) (rc : R D) : R Bool := if b then rc.bind fun z => cmpD q y z else .ok false
theorem chain_eq (p' q' : COp) (ra rb rc : R D) : (ra.bind fun x => rb.bind fun y => (cmpD p' x y).bind fun r => (chainD q' y r rc).bind fun r => .ok (.bl r)) = (ra.bind fun x => rb.bind fun y => (cmpD p' x y).bind fun r => chainD q' y r rc).bind (fun r => .ok (D.bl r)) := by
  rw [bind_bind]
  congr 1
  funext x
  rw [bind_bind]
  congr 1
  funext y
  rw [bind_bind]
theorem nd_chain {p' q' : COp} {o1 o2 : CmpOp} (h : XOk C N sc top X) (c1 : copIs p' o1 = true) (c2 : copIs q' o2 = true) (ha : PE X a (tD C B Γ W ra)) (hb : PE X b (tD C B Γ W rb)) (hc : PE X c (tD C B Γ W rc)) (ob : okx b = true) (oc : okx c = true) :
    PE X (.Compare a [o1, o2] [b, c] pos) (tD C B Γ W (ra.bind fun x => rb.bind fun y => (cmpD p' x y).bind fun r => (chainD q' y r rc).bind fun r => .ok (.bl r))) ∧
    PT X (.Compare a [o1, o2] [b, c] pos) (tT C B Γ W (ra.bind fun x => rb.bind fun y => (cmpD p' x y).bind fun r => chainD q' y r rc)) := by
  obtain ⟨r1, ho1, hw1⟩ := cmp_all (C := C) h p' o1 c1
  obtain ⟨r2, ho2, hw2⟩ := cmp_all (C := C) h q' o2 c2
  have hm : lastMarks [o1, o2] [b, c] = false := by
    show lastMarks [o2] [c] = false
    exact nomark_ok oc o2
  have key : ∀ (σ : L2.St) (H : Hp) (Q : VK), (∃ F, SR C B F H σ Γ ∧ Po C RpT F H (ra.bind fun x => rb.bind fun y => (cmpD p' x y).bind fun r => chainD q' y r rc) (fun k H' => Q (.bl k) H') (Wx C W σ)) → tChain r1 r2 (tD C B Γ W ra) (tD C B Γ W rb) (tD C B Γ W rc) σ H Q := by
    rintro σ H Q ⟨F, s, q⟩
    refine ⟨F, s, q.bind.mono fun x H1 ⟨F1, dx, e1, f1, rx, _, q1⟩ => ⟨F1, s.ext_ e1 f1, q1.bind.mono fun y H2 ⟨F2, dy, e2, f2, ry, _, q2⟩ => ?_⟩⟩
    refine hw1 F2 H2 x y dx dy _ (Wx C W σ) f2 (.inl (Rep.le e2.le _ _ rx)) (.inl ry) (q2.bind.mono fun k H3 ⟨F3, k', e3, f3, ek, _, q3⟩ => ?_)
    cases ek
    refine ⟨k, rfl, ?_⟩
    cases k with
    | true =>
      rw [if_pos rfl]
      have q3 : Po C RpT F3 H3 (rc.bind fun z => cmpD q' dy z) (fun k H' => Q (.bl k) H') (Wx C W σ) := q3
      refine ⟨F3, s.ext_ ((e1.trans e2).trans e3) f3, q3.bind.mono fun z H4 ⟨F4, dz, e4, f4, rz, _, q4⟩ => ?_⟩
      exact hw2 F4 H4 y z dy dz Q (Wx C W σ) f4 (.inl (Rep.le (e3.trans e4).le _ _ ry)) (.inl rz) q4
    | false =>
      rw [if_neg Bool.false_ne_true]
      have q3 : Po C RpT F3 H3 (.ok false) (fun k H' => Q (.bl k) H') (Wx C W σ) := q3
      exact q3.now f3 rfl
  refine ⟨?_, ?_⟩
  · refine (pe_chain ho1 ho2 ha hb hc hm).imp fun σ H Q ⟨F, s, q⟩ => key σ H Q ⟨F, s, ?_⟩
    have e := chain_eq p' q' ra rb rc
    rw [e] at q
    exact q.bind.mono fun k H1 ⟨F1, k', e1, f1, ek, _, q1⟩ => by cases ek; exact q1.now f1 rfl
  · refine (pt_chain ho1 ho2 ha hb hc hm).imp fun σ H Q ⟨F, s, q⟩ => key σ H _ ⟨F, s, q.mono fun k H1 q1 => ⟨k, rfl, q1⟩⟩
theorem f1_all (w : Wld C T) (h : XOk C N sc top X) {f : F1} {x : Str} (c : f1Name f = some x) (hg : glB sc x = true) (o : okx a = true) (ha : PE X a (tB C B Γ W ra)) : PE X (.Call (.Name x p) [a] [] pos) (tN C B Γ W (ra.bind (f1D f))) := by
  cases f with
  | len => cases c; exact nd_f1B h call_len boot_len (w.blt _ (by simp [BLT])) hg o ha (fun H0 F H v d Q Ex hf f r q => wt_len h H0 F H v d Q Ex hf f r q)
  | int => cases c; exact nd_f1T h call_int1 (by decide +kernel) (w.blt _ (by simp [BLT])) hg o ha (fun H0 F H v d Q Ex hf f r q => wt_int H0 F H v d Q Ex hf f r q)
  | str => cases c; exact nd_f1T h call_str_int (by decide +kernel) (w.blt _ (by simp [BLT])) hg o ha (fun H0 F H v d Q Ex hf f r q => wt_str H0 F H v d Q Ex hf f r q)
  | tuple => cases c; exact nd_f1T h call_tuple_of (by decide +kernel) (w.blt _ (by simp [BLT])) hg o ha (fun H0 F H v d Q Ex hf f r q => wt_tuple H0 F H v d Q Ex hf f r q)
  | list => cases c; exact nd_f1T h call_list_of (by decide +kernel) (w.blt _ (by simp [BLT])) hg o ha (fun H0 F H v d Q Ex hf f r q => wt_list H0 F H v d Q Ex hf f r q)
  | _ => cases c

/-- a comprehension's parts -/
theorem snd_comp (w : Wld C T) (h : XOk C N sc top X) {tg : List Nat} {rng : Bool} {it ce e : E} {elt etg eit : Expr} {ifs : List Expr} {scope : Scope}
    (c1 : blkC N sc scope (ownOf N tg) = true) (c2 : (ownOf N tg).map (·.2) = tg) (c3 : chkTg N false (relS scope sc) tg etg = true) (oit : okx eit = true)
    (hit : PI X etg eit (tI C B Γ W (if rng then (evL C.toMng it Γ).bind fun ds => walkD true (.tup ds) else (evE C.toMng it Γ).bind fun d => walkD false d)))
    (hc : ifs = [] ∧ isNil ce = true ∨ ∃ i, ifs = [i] ∧ isNil ce = false ∧ ∀ Y : Cx, XOk C N (relS scope sc) false Y → Snd C Y ce i)
    (he : ∀ Y : Cx, XOk C N (relS scope sc) false Y → Snd C Y e elt) : PE X (.ListComp elt [⟨etg, eit, ifs, 0⟩] scope pos) (tN C B Γ W (evE C.toMng (.comp tg rng it ce e) Γ)) := by
  have ok : BlkOk X.N X.env.scope scope (ownOf N tg) := by rw [h.eN, h.eS]; exact blkOk_by c1
  have hte : ∀ (s : Shared) (H : Hp) (D : Addr) (cl : List (Str × Addr)) (fp : List Addr), PE (X.blk s H scope (compEnvC scope cl D X.env) fp) elt (tAny C fun Γ' => evE C.toMng e Γ') := fun s H D cl fp =>
    pe_any fun B Γ => (he _ (blk_ok h s H scope D cl fp)).pe W0 noWish B Γ
  have htg : ∀ (s : Shared) (H : Hp) (D : Addr) (cl : List (Str × Addr)) (fp : List Addr), PG (X.blk s H scope (compEnvC scope cl D X.env) fp) etg (gX X.K tg) := fun s H D cl fp =>
    pg_tg (blk_ok h s H scope D cl fp) c3
  have nd : X.N.Nodup := by rw [h.eN]; exact h.nd
  rcases hc with ⟨rfl, hn⟩ | ⟨i, rfl, hn, hi⟩
  · refine (pe_lc h.calm nd hit ok htg (fun _ _ _ _ _ => pts_nil) hte (folded_ok oit)).imp fun σ H Q q => ?_
    refine tLc_ok (fc := none) c2 rfl rfl rfl ?_
    have e1 : condF ce (fun Γ' => evE C.toMng ce Γ') = none := by cases ce <;> first | rfl | cases hn
    rw [evE, e1] at q
    exact q
  · have htt : ∀ (s : Shared) (H : Hp) (D : Addr) (cl : List (Str × Addr)) (fp : List Addr), PTs (X.blk s H scope (compEnvC scope cl D X.env) fp) [i] (tAnyT C fun Γ' => (evE C.toMng ce Γ').bind truD) := fun s H D cl fp =>
      pts_one (pt_any fun B Γ => (hi _ (blk_ok h s H scope D cl fp)).pt W0 noWish B Γ)
    refine (pe_lc h.calm nd hit ok htg htt hte (folded_ok oit)).imp fun σ H Q q => ?_
    refine tLc_ok (fc := some fun Γ' => evE C.toMng ce Γ') c2 rfl rfl rfl ?_
    have e1 : condF ce (fun Γ' => evE C.toMng ce Γ') = some (fun Γ' => evE C.toMng ce Γ') := by cases ce <;> first | rfl | cases hn
    rw [evE, e1] at q
    exact q
end

section
variable {C : Cfg} {T : Tb} {N : List Str}
theorem pe_bad {X : Cx} {B : Bs} {Γ : Gam} {W : WX} {ex : Expr} : PE X ex (tD C B Γ W .bad) := ⟨fun _ _ _ _ _ _ ⟨_, _, p⟩ => False.elim p⟩
theorem pt_bad {X : Cx} {B : Bs} {Γ : Gam} {W : WX} {ex : Expr} : PT X ex (tT C B Γ W ((R.bad : R D).bind truD)) := ⟨fun _ _ _ _ _ _ ⟨_, _, p⟩ => False.elim p⟩
theorem pw_bad {X : Cx} {B : Bs} {Γ : Gam} {W : WX} {ex : Expr} : PW X ex (tT C B Γ W ((R.bad : R D).bind truD)) := ⟨fun _ _ _ _ _ _ _ ⟨_, _, p⟩ => False.elim p⟩
mutual
theorem sndE (w : Wld C T) : ∀ (e : E) {sc : Scope} {top : Bool} {X : Cx} {ex : Expr}, XOk C N sc top X → chkE T N e sc ex = true → Snd C X e ex
  | .var i, sc, top, X, ex, h, c => by
    unfold chkE at c
    split at c
    · rename_i x pos
      simp only [Bool.and_eq_true, decide_eq_true_eq] at c
      have pe : ∀ (W : WX), Takes X W → ∀ (B : Bs) (Γ : Gam), PE X (.Name x pos) (tD C B Γ W (evE C.toMng (.var i) Γ)) := fun W tk B Γ => nd_var h c.1.1 c.1.2 c.2
      exact ⟨pe, fun W tk B Γ => nd_truth h (pe W tk B Γ) (plainT_ok rfl), fun op vs pos z => (by cases z), (fun z => by cases z), fun W tk B Γ => nd_varB h c.1.1 c.1.2 c.2 _⟩
    · cases c
  | .int i, sc, top, X, ex, h, c => by
    unfold chkE at c
    split at c
    · rw [decide_eq_true_eq] at c
      subst c
      exact snd_mk h rfl (fun _ z => by cases z) rfl fun W tk B Γ => nd_const pe_int fun F => rfl
    · cases c
  | .str s, sc, top, X, ex, h, c => by
    unfold chkE at c
    split at c
    · unfold isStr at c
      split at c
      · rw [decide_eq_true_eq] at c
        subst c
        exact snd_mk h rfl (fun _ z => by cases z) rfl fun W tk B Γ => nd_const pe_str fun F => rfl
      · cases c
    · cases c
  | .bl b, sc, top, X, ex, h, c => by
    unfold chkE at c
    split at c
    · have c := eq_of_beq c
      subst c
      exact snd_mk h rfl (fun _ z => by cases z) rfl fun W tk B Γ => nd_const pe_bl fun F => rfl
    · cases c
  | .non, sc, top, X, ex, h, c => by
    unfold chkE at c
    split at c
    · exact snd_mk h rfl (fun _ z => by cases z) rfl fun W tk B Γ => nd_const pe_non fun F => rfl
    · cases c
  | .glob n, sc, top, X, ex, h, c => by
    unfold chkE at c
    split at c
    · simp only [Bool.and_eq_true, decide_eq_true_eq] at c
      obtain ⟨u, v, hm, hr, hd⟩ := w.gl n _ c.1
      exact snd_mk h rfl (fun _ z => by cases z) rfl fun W tk B Γ => nd_const (pe_glob (h.gl c.2) (by rw [h.eM]; exact hm) hr (nm_d (glB_nm c.2))) hd
    · cases c
  | .bin op a b, sc, top, X, ex, h, c => by
    unfold chkE at c
    split at c
    · simp only [Bool.and_eq_true] at c
      obtain ⟨r, ho, hw⟩ := bin_all (C := C) (X := X) op _ c.1.1
      have sa := sndE w a h c.1.2
      have sb := sndE w b h c.2
      exact snd_new h rfl (fun _ z => by cases z) fun W tk B Γ => nd_bin ho (sa.pb W tk B Γ) (sb.pb W tk B Γ) hw
    · cases c
  | .neg a, sc, top, X, ex, h, c => by
    unfold chkE at c
    split at c
    · have sa := sndE w a h c
      refine snd_mk h rfl (fun _ z => by cases z) rfl fun W tk B Γ => nd_un un_neg (sa.pe W tk B Γ) fun F H x dx Q Ex f r q => ?_
      cases dx with
      | int i => exact ⟨i, r, q.now f rfl⟩
      | _ => exact False.elim q
    · cases c
  | .cmp op a b, sc, top, X, ex, h, c => by
    unfold chkE at c
    split at c
    · rename_i ea o eb pos
      simp only [Bool.and_eq_true] at c
      obtain ⟨r, ho, hw⟩ := cmp_all (C := C) h op _ c.1.1.1
      have sa := sndE w a h c.1.1.2
      have sb := sndE w b h c.1.2
      have pe : ∀ (W : WX), Takes X W → ∀ (B : Bs) (Γ : Gam), PE X (.Compare ea [o] [eb] pos) (tD C B Γ W (evE C.toMng (.cmp op a b) Γ)) := fun W tk B Γ => (nd_cmp ho (sa.pb W tk B Γ) (sb.pb W tk B Γ) c.2 hw).1
      refine ⟨pe, fun W tk B Γ => ?_, fun op vs pos z => (by cases z), (fun z => by cases z), fun W tk B Γ => nd_B (pe W tk B Γ)⟩
      have e : (evE C.toMng (.cmp op a b) Γ).bind truD = (borrow Γ a (evE C.toMng a Γ)).bind fun x => (borrow Γ b (evE C.toMng b Γ)).bind fun y => cmpD op x y := by
        rw [evE]
        cases borrow Γ a (evE C.toMng a Γ) with
        | ok dx =>
          cases borrow Γ b (evE C.toMng b Γ) with
          | ok dy =>
            show ((cmpD op dx dy).bind _).bind truD = cmpD op dx dy
            cases cmpD op dx dy <;> rfl
          | _ => rfl
        | _ => rfl
      rw [e]
      exact (nd_cmp ho (sa.pb W tk B Γ) (sb.pb W tk B Γ) c.2 hw).2
    · cases c
  | .isN a, sc, top, X, ex, h, c => by
    unfold chkE at c
    split at c
    · rename_i ea k pos' pos
      have sa := sndE w a h c
      have pe : ∀ (W : WX), Takes X W → ∀ (B : Bs) (Γ : Gam), PE X (.Compare ea [.Is] [.Constant .none k pos'] pos) (tD C B Γ W (evE C.toMng (.isN a) Γ)) := fun W tk B Γ => nd_isN (sa.pe W tk B Γ)
      refine ⟨pe, fun W tk B Γ => ?_, fun op vs pos z => (by cases z), (fun z => by cases z), fun W tk B Γ => nd_B (pe W tk B Γ)⟩
      refine (pt_cmp (pc_isN (sa.pe W tk B Γ)) rfl).imp fun σ H Q ⟨F, s, q⟩ => ⟨F, s, ?_⟩
      have q : Po C RpT F H ((((evE C.toMng a Γ).bind fun x => .ok (.bl x.isN))).bind truD) Q (Wx C W σ) := q
      rw [bind_bind] at q
      exact q.bind.mono fun v H1 ⟨F1, d, e1, f1, r1, _, p1⟩ => ⟨_, by rw [isN_eq r1], p1.now f1 rfl⟩
    · cases c
  | .notN a, sc, top, X, ex, h, c => by
    unfold chkE at c
    split at c
    · rename_i ea k pos' pos
      have sa := sndE w a h c
      have pe : ∀ (W : WX), Takes X W → ∀ (B : Bs) (Γ : Gam), PE X (.Compare ea [.IsNot] [.Constant .none k pos'] pos) (tD C B Γ W (evE C.toMng (.notN a) Γ)) := fun W tk B Γ => nd_notN (sa.pe W tk B Γ)
      refine ⟨pe, fun W tk B Γ => ?_, fun op vs pos z => (by cases z), (fun z => by cases z), fun W tk B Γ => nd_B (pe W tk B Γ)⟩
      refine (pt_cmp (pc_notN (sa.pe W tk B Γ)) rfl).imp fun σ H Q ⟨F, s, q⟩ => ⟨F, s, ?_⟩
      have q : Po C RpT F H ((((evE C.toMng a Γ).bind fun x => .ok (.bl (!x.isN)))).bind truD) Q (Wx C W σ) := q
      rw [bind_bind] at q
      exact q.bind.mono fun v H1 ⟨F1, d, e1, f1, r1, _, p1⟩ => ⟨_, by rw [isN_eq r1], p1.now f1 rfl⟩
    · cases c
  | .chain p q a b d, sc, top, X, ex, h, c => by
    unfold chkE at c
    split at c
    · rename_i ea o1' o2' eb ec pos
      simp only [Bool.and_eq_true] at c
      obtain ⟨⟨⟨⟨⟨⟨c1, c2⟩, c3⟩, c4⟩, c5⟩, o1⟩, o2⟩ := c
      have sa := sndE w a h c3
      have sb := sndE w b h c4
      have sd := sndE w d h c5
      have e0 : ∀ Γ, evE C.toMng (.chain p q a b d) Γ = ((evE C.toMng a Γ).bind fun x => (evE C.toMng b Γ).bind fun y => (cmpD p x y).bind fun r => (chainD q y r (evE C.toMng d Γ)).bind fun r => .ok (.bl r)) := fun Γ => by
        rw [evE]
        cases evE C.toMng a Γ <;> try rfl
        cases evE C.toMng b Γ <;> try rfl
        rename_i dx dy
        show ((cmpD p dx dy).bind _) = ((cmpD p dx dy).bind _)
        cases cmpD p dx dy with
        | ok r => cases r with
          | true => show (evE C.toMng d Γ).bind _ = ((evE C.toMng d Γ).bind _).bind _; rw [bind_bind]
          | false => rfl
        | _ => rfl
      have pe : ∀ (W : WX), Takes X W → ∀ (B : Bs) (Γ : Gam), PE X (.Compare ea [o1', o2'] [eb, ec] pos) (tD C B Γ W (evE C.toMng (.chain p q a b d) Γ)) := fun W tk B Γ => by
        rw [e0]
        exact (nd_chain h c1 c2 (sa.pe W tk B Γ) (sb.pe W tk B Γ) (sd.pe W tk B Γ) o1 o2).1
      refine ⟨pe, fun W tk B Γ => ?_, fun op vs pos z => (by cases z), (fun z => by cases z), fun W tk B Γ => nd_B (pe W tk B Γ)⟩
      have e : (evE C.toMng (.chain p q a b d) Γ).bind truD = (evE C.toMng a Γ).bind fun x => (evE C.toMng b Γ).bind fun y => (cmpD p x y).bind fun r => chainD q y r (evE C.toMng d Γ) := by
        rw [e0]
        cases evE C.toMng a Γ <;> try rfl
        cases evE C.toMng b Γ <;> try rfl
        rename_i dx dy
        show ((cmpD p dx dy).bind _).bind truD = ((cmpD p dx dy).bind _)
        rw [bind_bind]
        congr 1
        funext r
        rw [bind_bind]
        cases chainD q dy r (evE C.toMng d Γ) <;> rfl
      rw [e]
      exact (nd_chain h c1 c2 (sa.pe W tk B Γ) (sb.pe W tk B Γ) (sd.pe W tk B Γ) o1 o2).2
    · cases c
  | .and a b, sc, top, X, ex, h, c => by
    unfold chkE at c
    split at c
    · rename_i ea eb r pos
      simp only [Bool.and_eq_true] at c
      have sa := sndE w a h c.1
      have sb := sndE w b h c.2
      have pe : ∀ (W : WX), Takes X W → ∀ (B : Bs) (Γ : Gam), PE X (.BoolOp .And (ea :: eb :: r) pos) (tD C B Γ W (evE C.toMng (.and a b) Γ)) := fun W tk B Γ => nd_and (sa.pe W tk B Γ) (sb.pe W tk B Γ)
      have pw : ∀ (W : WX), Takes X W → ∀ (B : Bs) (Γ : Gam), PW X (.BoolOp .And (ea :: eb :: r) pos) (tT C B Γ W ((evE C.toMng (.and a b) Γ).bind truD)) := fun W tk B Γ => pw_andD (sa.pt W tk B Γ) (sb.pw _ _ _ rfl W tk B Γ)
      exact ⟨pe, fun W tk B Γ => (pw W tk B Γ).pt, fun op vs pos z => (by cases z; exact pw), (fun z => by cases z), fun W tk B Γ => nd_B (pe W tk B Γ)⟩
    · cases c
  | .or a b, sc, top, X, ex, h, c => by
    unfold chkE at c
    split at c
    · rename_i ea eb r pos
      simp only [Bool.and_eq_true] at c
      have sa := sndE w a h c.1
      have sb := sndE w b h c.2
      have pe : ∀ (W : WX), Takes X W → ∀ (B : Bs) (Γ : Gam), PE X (.BoolOp .Or (ea :: eb :: r) pos) (tD C B Γ W (evE C.toMng (.or a b) Γ)) := fun W tk B Γ => nd_or (sa.pe W tk B Γ) (sb.pe W tk B Γ)
      have pw : ∀ (W : WX), Takes X W → ∀ (B : Bs) (Γ : Gam), PW X (.BoolOp .Or (ea :: eb :: r) pos) (tT C B Γ W ((evE C.toMng (.or a b) Γ).bind truD)) := fun W tk B Γ => pw_orD (sa.pt W tk B Γ) (sb.pw _ _ _ rfl W tk B Γ)
      exact ⟨pe, fun W tk B Γ => (pw W tk B Γ).pt, fun op vs pos z => (by cases z; exact pw), (fun z => by cases z), fun W tk B Γ => nd_B (pe W tk B Γ)⟩
    · cases c
  | .last a, sc, top, X, ex, h, c => by
    unfold chkE at c
    split at c
    · rename_i op ea pos
      have sa := sndE w a h c
      have pe : ∀ (W : WX), Takes X W → ∀ (B : Bs) (Γ : Gam), PE X (.BoolOp op [ea] pos) (tD C B Γ W (evE C.toMng (.last a) Γ)) := fun W tk B Γ => pe_one (sa.pe W tk B Γ)
      have pw : ∀ (W : WX), Takes X W → ∀ (B : Bs) (Γ : Gam), PW X (.BoolOp op [ea] pos) (tT C B Γ W ((evE C.toMng (.last a) Γ).bind truD)) := fun W tk B Γ => by
        cases op with
        | And => exact pw_and1 (sa.pt W tk B Γ)
        | Or => exact pw_or1 (sa.pt W tk B Γ)
      exact ⟨pe, fun W tk B Γ => (pw W tk B Γ).pt, fun op vs pos z => (by cases z; exact pw), (fun z => by cases z), fun W tk B Γ => nd_B (pe W tk B Γ)⟩
    · cases c
  | .not a, sc, top, X, ex, h, c => by
    unfold chkE at c
    split at c
    · rename_i ea pos
      have sa := sndE w a h c
      have pe : ∀ (W : WX), Takes X W → ∀ (B : Bs) (Γ : Gam), PE X (.UnaryOp .Not ea pos) (tD C B Γ W (evE C.toMng (.not a) Γ)) := fun W tk B Γ => nd_not (sa.pe W tk B Γ)
      exact ⟨pe, fun W tk B Γ => pt_notD (sa.pt W tk B Γ), fun op vs pos z => (by cases z), (fun z => by cases z), fun W tk B Γ => nd_B (pe W tk B Γ)⟩
    · cases c
  | .ite _ _ _, sc, top, X, ex, h, c => by unfold chkE at c; cases c
  | .tup l, sc, top, X, ex, h, c => by
    unfold chkE at c
    split at c
    · have sl := sndL w l h c
      exact snd_mk h rfl (fun _ z => by cases z) rfl fun W tk B Γ => nd_tup (sl W tk B Γ)
    · cases c
  | .lst l, sc, top, X, ex, h, c => by
    unfold chkE at c
    split at c
    · have sl := sndL w l h c
      exact snd_new h rfl (fun _ z => by cases z) fun W tk B Γ => nd_lst (sl W tk B Γ)
    · cases c
  | .nil, sc, top, X, ex, h, c => by unfold chkE at c; cases c
  | .cons _ _, sc, top, X, ex, h, c => by unfold chkE at c; cases c
  | .item a i, sc, top, X, ex, h, c => by
    unfold chkE at c
    split at c
    · simp only [Bool.and_eq_true] at c
      have sa := sndE w a h c.1.1
      have si := sndE w i h c.1.2
      exact snd_mk h rfl (fun _ z => by cases z) rfl fun W tk B Γ => nd_item h (sa.pb W tk B Γ) (si.pe W tk B Γ) c.2
    · cases c
  | .slice a lo hi, sc, top, X, ex, h, c => by
    unfold chkE at c
    split at c
    · simp only [Bool.and_eq_true] at c
      have sa := sndE w a h c.1.1
      exact snd_new h rfl (fun _ z => by cases z) fun W tk B Γ => nd_slice (sa.pb W tk B Γ) (snd_part c.1.2 (fun e he => sndE w lo h he) W tk B Γ) (snd_part c.2 (fun e he => sndE w hi h he) W tk B Γ)
    · cases c
  | .f1 f a, sc, top, X, ex, h, c => by
    unfold chkE at c
    split at c
    · simp only [Bool.and_eq_true, decide_eq_true_eq] at c
      have sa := sndE w a h c.1.2
      exact snd_new h rfl (fun _ z => by cases z) fun W tk B Γ => f1_all w h c.1.1.1 c.1.1.2 c.2 (sa.pb W tk B Γ)
    · cases c
  | .f2 _ _ _, sc, top, X, ex, h, c => by unfold chkE at c; cases c
  | .isi ts a, sc, top, X, ex, h, c => by
    unfold chkE at c
    split at c
    · simp only [Bool.and_eq_true, decide_eq_true_eq] at c
      obtain ⟨⟨⟨⟨cx, cg⟩, ca⟩, oa⟩, ct⟩ := c
      subst cx
      have sa := sndE w a h ca
      split at ct
      · exact snd_mk h rfl (fun _ z => by cases z) rfl fun W tk B Γ => nd_isi1 w h cg (sa.pe W tk B Γ) oa (ty_pe w h ct) (ty_okx ct)
      · split at ct
        · simp only [Bool.and_eq_true] at ct
          exact snd_mk h rfl (fun _ z => by cases z) rfl fun W tk B Γ => nd_isi2 w h cg (sa.pe W tk B Γ) oa (ty_pe w h ct.1) (ty_okx ct.1) (ty_pe w h ct.2) (ty_okx ct.2)
        · cases ct
      · cases ct
    · cases c
  | .fld nm a, sc, top, X, ex, h, c => by
    unfold chkE at c
    split at c
    · simp only [Bool.and_eq_true, decide_eq_true_eq] at c
      have sa := sndE w a h c.2
      exact snd_mk h rfl (fun _ z => by cases z) rfl fun W tk B Γ => nd_fld w h c.1.1 (sa.pb W tk B Γ) c.1.2
    · cases c
  | .call n l, sc, top, X, ex, h, c => by
    unfold chkE at c
    split at c
    · rename_i k hk
      split at c
      · rename_i es hes
        simp only [Bool.and_eq_true] at c
        have sl := sndL w l h c.2
        have key : ∀ (W : WX), Takes X W → ∀ (B : Bs) (Γ : Gam), PE X ex (tD C B Γ W (evE C.toMng (.call n l) Γ)) ∧ PT X ex (tT C B Γ W ((evE C.toMng (.call n l) Γ).bind truD)) := fun W tk B Γ => w.cb n k hk N sc top X h W tk B Γ ex es _ hes (sl W tk B Γ)
        refine ⟨fun W tk B Γ => (key W tk B Γ).1, fun W tk B Γ => (key W tk B Γ).2, fun op vs pos z => ?_, (fun z => by cases z), fun W tk B Γ => by rw [borrow_ne (fun _ z => by cases z)]; exact nd_B (key W tk B Γ).1⟩
        subst z
        have := c.1.2
        cases this
      · cases c
    · cases c
  | .calm n l, sc, top, X, ex, h, c => by
    unfold chkE at c
    split at c
    · rename_i k hk
      split at c
      · rename_i es hes
        simp only [Bool.and_eq_true] at c
        have sl := sndL w l h c.2
        have key : ∀ (W : WX), Takes X W → ∀ (B : Bs) (Γ : Gam), PE X ex (tD C B Γ W (evE C.toMng (.calm n l) Γ)) ∧ PT X ex (tT C B Γ W ((evE C.toMng (.calm n l) Γ).bind truD)) := fun W tk B Γ => w.cm n k hk N sc top X h W tk B Γ ex es _ hes (sl W tk B Γ)
        refine ⟨fun W tk B Γ => (key W tk B Γ).1, fun W tk B Γ => (key W tk B Γ).2, fun op vs pos z => ?_, (fun z => by cases z), fun W tk B Γ => by rw [borrow_ne (fun _ z => by cases z)]; exact nd_B (key W tk B Γ).1⟩
        subst z
        have := c.1.2
        cases this
      · cases c
    · cases c
  | .comp tg rng it ce e, sc, top, X, ex, h, c => by
    unfold chkE at c
    split at c
    · rename_i elt etg eit ifs scope pos
      simp only [Bool.and_eq_true, decide_eq_true_eq] at c
      obtain ⟨⟨⟨⟨⟨⟨c1, c2⟩, c3⟩, c4⟩, c5⟩, c6⟩, c7⟩ := c
      refine snd_new h rfl (fun _ z => by cases z) fun W tk B Γ => snd_comp w h c1 c2 c3 c4 ?_ ?_ ?_
      · cases rng with
        | true =>
          rw [if_pos rfl] at c5 ⊢
          split at c5
          · simp only [Bool.and_eq_true, decide_eq_true_eq] at c5
            obtain ⟨⟨hx, hg⟩, hl⟩ := c5
            subst hx
            exact nd_range1 w h hg (sndL w it h hl W tk B Γ)
          · simp only [Bool.and_eq_true, decide_eq_true_eq] at c5
            obtain ⟨⟨hx, hg⟩, hl⟩ := c5
            subst hx
            exact nd_range2 w h hg (sndL w it h hl W tk B Γ)
          · cases c5
        | false =>
          rw [if_neg Bool.false_ne_true] at c5 ⊢
          exact nd_iter h ((sndE w it h c5).pe W tk B Γ)
      · unfold condB at c6
        split at c6
        · exact .inl ⟨rfl, c6⟩
        · rename_i i
          rw [Bool.and_eq_true, Bool.not_eq_true'] at c6
          exact .inr ⟨i, rfl, c6.1, fun Y hY => sndE w ce hY c6.2⟩
        · cases c6
      · exact fun Y hY => sndE w e hY c7
    · cases c
  | .fmt a, sc, top, X, ex, h, c => by
    unfold chkE at c
    split at c
    · simp only [Bool.and_eq_true, decide_eq_true_eq] at c
      have sa := sndE w a h c.2
      rw [c.1]
      exact snd_mk h rfl (fun _ z => by cases z) rfl fun W tk B Γ => nd_fmt (sa.pe W tk B Γ)
    · cases c
  | .any, sc, top, X, ex, h, c => by
    refine ⟨fun W tk B Γ => ?_, fun W tk B Γ => ?_, fun op vs pos _ W tk B Γ => ?_, (fun z => by cases z), fun W tk B Γ => ?_⟩
    · rw [evE]; exact pe_bad
    · rw [evE]; exact pt_bad
    · rw [evE]; exact pw_bad
    · rw [borrow_ne (fun _ z => by cases z), evE]; exact nd_B pe_bad
  | .own n i l, sc, top, X, ex, h, c => by
    unfold chkE at c
    split at c
    · rename_i k hk
      split at c
      · rename_i es hes
        simp only [Bool.and_eq_true] at c
        have sl := sndL w l h c.2
        have key : ∀ (W : WX), Takes X W → ∀ (B : Bs) (Γ : Gam), PE X ex (tD C B Γ W (evE C.toMng (.own n i l) Γ)) ∧ PT X ex (tT C B Γ W ((evE C.toMng (.own n i l) Γ).bind truD)) := fun W tk B Γ => by
          rw [evE]
          cases hi : Γ[i]? with
          | some c0 => exact w.ow n k hk N sc top X h W tk B Γ i c0 hi ex es _ hes (sl W tk B Γ)
          | none => exact ⟨⟨fun _ _ _ _ _ _ ⟨F, s, p⟩ => False.elim p⟩, ⟨fun _ _ _ _ _ _ ⟨F, s, p⟩ => False.elim p⟩⟩
        refine ⟨fun W tk B Γ => (key W tk B Γ).1, fun W tk B Γ => (key W tk B Γ).2, fun op vs pos z => ?_, (fun z => by cases z), fun W tk B Γ => nd_B (key W tk B Γ).1⟩
        subst z
        have := c.1.2
        cases this
      · cases c
    · cases c
theorem sndL (w : Wld C T) : ∀ (l : E) {sc : Scope} {top : Bool} {X : Cx} {es : List Expr}, XOk C N sc top X → chkL T N l sc es = true → ∀ (W : WX), Takes X W → ∀ (B : Bs) (Γ : Gam), PL C X B Γ W es (evL C.toMng l Γ)
  | .nil, sc, top, X, es, h, c, W, tk, B, Γ => by
    unfold chkL at c
    split at c
    · exact PL.nil
    · cases c
  | .cons a l, sc, top, X, es, h, c, W, tk, B, Γ => by
    unfold chkL at c
    split at c
    · simp only [Bool.and_eq_true] at c
      exact PL.cons c.1.1 ((sndE w a h c.1.2).pe W tk B Γ) (sndL w l h c.2 W tk B Γ)
    · cases c
  | .var _, sc, top, X, es, h, c, W, tk, B, Γ => by unfold chkL at c; cases c
  | .int _, sc, top, X, es, h, c, W, tk, B, Γ => by unfold chkL at c; cases c
  | .str _, sc, top, X, es, h, c, W, tk, B, Γ => by unfold chkL at c; cases c
  | .bl _, sc, top, X, es, h, c, W, tk, B, Γ => by unfold chkL at c; cases c
  | .non, sc, top, X, es, h, c, W, tk, B, Γ => by unfold chkL at c; cases c
  | .calm _ _, sc, top, X, es, h, c, W, tk, B, Γ => by unfold chkL at c; cases c
  | .fmt _, sc, top, X, es, h, c, W, tk, B, Γ => by unfold chkL at c; cases c
  | .any, sc, top, X, es, h, c, W, tk, B, Γ => by unfold chkL at c; cases c
  | .glob _, sc, top, X, es, h, c, W, tk, B, Γ => by unfold chkL at c; cases c
  | .bin _ _ _, sc, top, X, es, h, c, W, tk, B, Γ => by unfold chkL at c; cases c
  | .neg _, sc, top, X, es, h, c, W, tk, B, Γ => by unfold chkL at c; cases c
  | .cmp _ _ _, sc, top, X, es, h, c, W, tk, B, Γ => by unfold chkL at c; cases c
  | .isN _, sc, top, X, es, h, c, W, tk, B, Γ => by unfold chkL at c; cases c
  | .notN _, sc, top, X, es, h, c, W, tk, B, Γ => by unfold chkL at c; cases c
  | .chain _ _ _ _ _, sc, top, X, es, h, c, W, tk, B, Γ => by unfold chkL at c; cases c
  | .and _ _, sc, top, X, es, h, c, W, tk, B, Γ => by unfold chkL at c; cases c
  | .or _ _, sc, top, X, es, h, c, W, tk, B, Γ => by unfold chkL at c; cases c
  | .last _, sc, top, X, es, h, c, W, tk, B, Γ => by unfold chkL at c; cases c
  | .not _, sc, top, X, es, h, c, W, tk, B, Γ => by unfold chkL at c; cases c
  | .ite _ _ _, sc, top, X, es, h, c, W, tk, B, Γ => by unfold chkL at c; cases c
  | .tup _, sc, top, X, es, h, c, W, tk, B, Γ => by unfold chkL at c; cases c
  | .lst _, sc, top, X, es, h, c, W, tk, B, Γ => by unfold chkL at c; cases c
  | .item _ _, sc, top, X, es, h, c, W, tk, B, Γ => by unfold chkL at c; cases c
  | .slice _ _ _, sc, top, X, es, h, c, W, tk, B, Γ => by unfold chkL at c; cases c
  | .f1 _ _, sc, top, X, es, h, c, W, tk, B, Γ => by unfold chkL at c; cases c
  | .f2 _ _ _, sc, top, X, es, h, c, W, tk, B, Γ => by unfold chkL at c; cases c
  | .isi _ _, sc, top, X, es, h, c, W, tk, B, Γ => by unfold chkL at c; cases c
  | .fld _ _, sc, top, X, es, h, c, W, tk, B, Γ => by unfold chkL at c; cases c
  | .call _ _, sc, top, X, es, h, c, W, tk, B, Γ => by unfold chkL at c; cases c
  | .comp _ _ _ _ _, sc, top, X, es, h, c, W, tk, B, Γ => by unfold chkL at c; cases c
  | .own _ _ _, sc, top, X, es, h, c, W, tk, B, Γ => by unfold chkL at c; cases c
end
end
end G

set_option Elab.async false
set_option linter.all false
set_option maxRecDepth 100000
set_option maxHeartbeats 8000000
/-! GJ: statements. -/
namespace G
open PySem L2

def Le (F F' : Wd) : Prop := ∀ b x, F b = some x → F' b = some x
theorem Le.refl (F : Wd) : Le F F := fun _ _ h => h
theorem Le.trans {F F1 F2 : Wd} (a : Le F F1) (b : Le F1 F2) : Le F F2 := fun c x h => b c x (a c x h)
def PoS (C : Cfg) (B : Bs) (W : WX) (F0 : Wd) (D : Ends) (o : Out) : Prop :=
  match o with
  | .next Γ => ∀ σ F H, SR C B F H σ Γ → Le F0 F → D.nx σ H
  | .ret d => ∀ v F H, Fits C F H → Ext B.1 B.2 F H → Rep C F v d → D.rt v H
  | .brk Γ => ∀ σ F H, SR C B F H σ Γ → Le F0 F → D.bk σ H
  | .cont Γ => ∀ σ F H, SR C B F H σ Γ → Le F0 F → D.ct σ H
  | .exc c Γ => ∀ σ F H, SR C B F H σ Γ → W (.ref (C.exa c)) none σ H
  | .bad => False
def tS (C : Cfg) (B : Bs) (Γ : Gam) (W : WX) (o : Out) : TS := fun D σ H => ∃ F, SR C B F H σ Γ ∧ PoS C B W F D o
def tK (C : Cfg) (B : Bs) (W : WX) (s : Sm) : TS := fun D σ H => ∃ Γ, tS C B Γ W (evS C.toMng s Γ) D σ H
theorem PoS.le {C : Cfg} {B : Bs} {W : WX} {F0 F1 : Wd} {D : Ends} {o : Out} (p : PoS C B W F0 D o) (l : Le F0 F1) : PoS C B W F1 D o := by
  cases o with
  | next Γ => exact fun σ F H s h => p σ F H s (l.trans h)
  | ret d => exact p
  | brk Γ => exact fun σ F H s h => p σ F H s (l.trans h)
  | cont Γ => exact fun σ F H s h => p σ F H s (l.trans h)
  | exc c Γ => exact p
  | bad => exact p
theorem PoS.seq {C : Cfg} {B : Bs} {W : WX} {F0 : Wd} {D : Ends} {o : Out} {k : Sm} (p : PoS C B W F0 D (o.andThen (evS C.toMng k))) : PoS C B W F0 { D with nx := tK C B W k D } o := by
  cases o with
  | next Γ => exact fun σ F H s h => ⟨Γ, F, s, PoS.le p h⟩
  | ret d => exact p
  | brk Γ => exact p
  | cont Γ => exact p
  | exc c Γ => exact p
  | bad => exact p
theorem tK.mk {C : Cfg} {B : Bs} {W : WX} {F : Wd} {H : Hp} {σ : L2.St} {Γ : Gam} {D : Ends} {k : Sm} (s : SR C B F H σ Γ) (p : PoS C B W F D (evS C.toMng k Γ)) : tK C B W k D σ H := ⟨Γ, F, s, p⟩
/-- an expression ahead -/
theorem PoS.of {α β : Type} {C : Cfg} {B : Bs} {W : WX} {F : Wd} {H : Hp} {σ : L2.St} {Γ : Gam} {D : Ends} {r : R α} {f : α → Out} {Rp : Wd → Hp → β → α → Prop} {Q : β → Hp → Prop} (s : SR C B F H σ Γ) (p : PoS C B W F D (Out.of Γ r f))
    (k : ∀ a v F' H', r = .ok a → Ext F H F' H' → SR C B F' H' σ Γ → Rp F' H' v a → PoS C B W F' D (f a) → Q v H') : Po C Rp F H r Q (Wx C W σ) := by
  cases r with
  | ok a => exact fun v F' H' e f' q => k a v F' H' rfl e (s.ext_ e f') q (PoS.le p e.le)
  | exc c => exact fun F' H' e f' => p σ F' H' (s.ext_ e f')
  | bad => exact p
end G
namespace L2
open PySem G
variable {X : Cx} {st : Stmt} {sts : List Stmt}
theorem PS.imp {t t' : TS} (h : PS X st t) (i : ∀ D σ H, t' D σ H → t D σ H) : PS X st t' := ⟨fun pins s σ H D I q => h.run pins s σ H D I (i D σ H q)⟩
theorem PSs.imp {t t' : TS} (h : PSs X sts t) (i : ∀ D σ H, t' D σ H → t D σ H) : PSs X sts t' := ⟨fun pins s σ H D I q => h.run pins s σ H D I (i D σ H q)⟩
end L2
namespace G
open PySem L2
section
variable {C : Cfg} {T : Tb} {N : List Str} {sc : Scope} {top : Bool} {X : Cx} {B : Bs} {Γ : Gam} {W : WX} {pos p : Pos} {a b c ex : Expr} {es : List Expr} {ra rb rc : R D} {st : Stmt} {rest : List Stmt}

/-! ### storing a name -/
theorem swaps_no {e : Expr} {tg : Option Expr} {l : Nat} {env : Env} (h : isComp e = false) (o : okx e = true) : swapsWith e tg l env = pure false := by
  cases e <;> first | (cases o; done) | (cases h; done) | rfl
theorem sole_no {e tg : Expr} {l : Nat} {env : Env} (h : isComp e = false) (o : okx e = true) : swapsWithSole [tg] e l env = pure false := by
  cases e <;> first | (cases o; done) | (cases h; done) | rfl
theorem setAll_noexc {c : Nat} : ∀ (is : List Nat) (l : List D) (Γ : Gam), setAll Γ is l ≠ .exc c := by
  intro is
  induction is with
  | nil => intro l Γ; cases l <;> intro z <;> cases z
  | cons i r ih => intro l Γ; cases l with
    | nil => intro z; cases z
    | cons d l => exact ih l _
theorem adopt_imp {σ : L2.St} {H : Hp} {Q : VK} (h : tD C B Γ W ra σ H Q) : tN C B Γ W ra σ H Q := by
  obtain ⟨F, s, p⟩ := h
  refine ⟨F, s, ?_⟩
  cases ra with
  | ok d =>
    intro v F' H' e f q
    cases d with
    | lst l =>
      obtain ⟨a, xs, rfl, h0, fa, ha, r⟩ := q
      exact p _ _ _ (e.adopt fa h0) (f.adopt fa ha) ⟨a, xs, rfl, updW_same, RepL.le (le_upd fa) _ _ r⟩
    | _ => exact p v F' H' e f q
  | exc c => exact p
  | bad => exact p
/-- a comprehension stored at a name, whichever way the stores go -/
theorem comp_set (w : Wld C T) (h : XOk C N sc top X) (hk : sc.kind = .function) {tg : List Nat} {rng : Bool} {it ce e : E} {elt etg eit : Expr} {ifs : List Expr} {scope : Scope} {i : Nat} {y : Str} {py spos : Pos}
    (hy : N[i]? = some y) (hl : locB top sc y = true)
    (c1 : blkC N sc scope (ownOf N tg) = true) (c2 : (ownOf N tg).map (·.2) = tg) (c3 : chkTg N false (relS scope sc) tg etg = true) (oit : okx eit = true)
    (hit : PI X etg eit (tI C B Γ W (if rng then (evL C.toMng it Γ).bind fun ds => walkD true (.tup ds) else (evE C.toMng it Γ).bind fun d => walkD false d)))
    (hc : ifs = [] ∧ isNil ce = true ∨ ∃ i, ifs = [i] ∧ isNil ce = false ∧ ∀ Y : Cx, XOk C N (relS scope sc) false Y → Snd C Y ce i)
    (he : ∀ Y : Cx, XOk C N (relS scope sc) false Y → Snd C Y e elt) :
    PS X (.Assign [.Name y py] (.ListComp elt [⟨etg, eit, ifs, 0⟩] scope pos) spos) (tAsg (tN C B Γ W (evE C.toMng (.comp tg rng it ce e) Γ)) (gName i)) := by
  obtain ⟨l1, l2⟩ := loc_of h hl
  have nd : X.N.Nodup := by rw [h.eN]; exact h.nd
  have hy' : X.N[i]? = some y := by rw [h.eN]; exact hy
  have hpe := snd_comp (B := B) (Γ := Γ) (W := W) (pos := pos) w h c1 c2 c3 oit hit hc he
  have hsw : ∃ b : Bool, swapsWith (.ListComp elt [⟨etg, eit, ifs, 0⟩] scope pos) (some (.Name y py)) spos.line X.env = pure b ∧ (b = true → X.env.scope.names.lookup y = some .local) := by
    refine ⟨_, rfl, fun z => ?_⟩
    simp only [Bool.and_eq_true, beq_iff_eq] at z
    exact z.1.1.2
  obtain ⟨b, hb, hbl⟩ := hsw
  cases b with
  | false => exact ps_set nd hy' l1 hpe hb l2
  | true =>
    have ok : BlkOk X.N X.env.scope scope (ownOf N tg) := by rw [h.eN, h.eS]; exact blkOk_by c1
    have hte : ∀ (s : Shared) (H : Hp) (D : Addr) (cl : List (Str × Addr)) (fp : List Addr), PE (X.blk s H scope (compEnvC scope cl D X.env) fp) elt (tAny C fun Γ' => evE C.toMng e Γ') := fun s H D cl fp =>
      pe_any fun B Γ => (he _ (blk_ok h s H scope D cl fp)).pe W0 noWish B Γ
    have htg : ∀ (s : Shared) (H : Hp) (D : Addr) (cl : List (Str × Addr)) (fp : List Addr), PG (X.blk s H scope (compEnvC scope cl D X.env) fp) etg (gX X.K tg) := fun s H D cl fp =>
      pg_tg (blk_ok h s H scope D cl fp) c3
    rcases hc with ⟨rfl, hn⟩ | ⟨j, rfl, hn, hi⟩
    · refine (ps_setLc h.calm nd hy' (hbl rfl) hb hit ok htg (fun _ _ _ _ _ => pts_nil) hte (folded_ok oit)).imp fun D σ H q => ?_
      refine tLc_ok (fc := none) c2 rfl rfl rfl ?_
      have e1 : condF ce (fun Γ' => evE C.toMng ce Γ') = none := by cases ce <;> first | rfl | cases hn
      have q : tN C B Γ W (evE C.toMng (.comp tg rng it ce e) Γ) σ H _ := q
      rw [evE, e1] at q
      exact q
    · have htt : ∀ (s : Shared) (H : Hp) (D : Addr) (cl : List (Str × Addr)) (fp : List Addr), PTs (X.blk s H scope (compEnvC scope cl D X.env) fp) [j] (tAnyT C fun Γ' => (evE C.toMng ce Γ').bind truD) := fun s H D cl fp =>
        pts_one (pt_any fun B Γ => (hi _ (blk_ok h s H scope D cl fp)).pt W0 noWish B Γ)
      refine (ps_setLc h.calm nd hy' (hbl rfl) hb hit ok htg htt hte (folded_ok oit)).imp fun D σ H q => ?_
      refine tLc_ok (fc := some fun Γ' => evE C.toMng ce Γ') c2 rfl rfl rfl ?_
      have e1 : condF ce (fun Γ' => evE C.toMng ce Γ') = some (fun Γ' => evE C.toMng ce Γ') := by cases ce <;> first | rfl | cases hn
      have q : tN C B Γ W (evE C.toMng (.comp tg rng it ce e) Γ) σ H _ := q
      rw [evE, e1] at q
      exact q
/-- any checked expression stored at a name -/
theorem set_any (w : Wld C T) (h : XOk C N sc top X) (hk : sc.kind = .function) {e : E} {i : Nat} {y : Str} {py spos : Pos} (hy : N[i]? = some y) (hl : locB top sc y = true) (ce : chkE T N e sc ex = true) (o : okx ex = true) (tk : Takes X W) :
    PS X (.Assign [.Name y py] ex spos) (tAsg (tD C B Γ W (evE C.toMng e Γ)) (gName i)) ∧ (newE e = true → PS X (.Assign [.Name y py] ex spos) (tAsg (tN C B Γ W (evE C.toMng e Γ)) (gName i))) := by
  obtain ⟨l1, l2⟩ := loc_of h hl
  have nd : X.N.Nodup := by rw [h.eN]; exact h.nd
  have hy' : X.N[i]? = some y := by rw [h.eN]; exact hy
  have snd := sndE w e h ce
  cases hcomp : isComp ex with
  | false => exact ⟨ps_set nd hy' l1 (snd.pe W tk B Γ) (swaps_no hcomp o) l2, fun z => ps_set nd hy' l1 (snd.pn z W tk B Γ) (swaps_no hcomp o) l2⟩
  | true =>
    have key : PS X (.Assign [.Name y py] ex spos) (tAsg (tN C B Γ W (evE C.toMng e Γ)) (gName i)) := by
      cases e with
      | comp tg rng it c0 e0 =>
        unfold chkE at ce
        split at ce
        · rename_i elt etg eit ifs scope pos'
          simp only [Bool.and_eq_true, decide_eq_true_eq] at ce
          obtain ⟨⟨⟨⟨⟨⟨c1, c2⟩, c3⟩, c4⟩, c5⟩, c6⟩, c7⟩ := ce
          refine comp_set w h hk hy hl c1 c2 c3 c4 ?_ ?_ ?_
          · cases rng with
            | true =>
              rw [if_pos rfl] at c5 ⊢
              split at c5
              · simp only [Bool.and_eq_true, decide_eq_true_eq] at c5
                obtain ⟨⟨hx, hg⟩, hl⟩ := c5
                subst hx
                exact nd_range1 w h hg (sndL w it h hl W tk B Γ)
              · simp only [Bool.and_eq_true, decide_eq_true_eq] at c5
                obtain ⟨⟨hx, hg⟩, hl⟩ := c5
                subst hx
                exact nd_range2 w h hg (sndL w it h hl W tk B Γ)
              · cases c5
            | false =>
              rw [if_neg Bool.false_ne_true] at c5 ⊢
              exact nd_iter h ((sndE w it h c5).pe W tk B Γ)
          · unfold condB at c6
            split at c6
            · exact .inl ⟨rfl, c6⟩
            · rename_i i
              rw [Bool.and_eq_true, Bool.not_eq_true'] at c6
              exact .inr ⟨i, rfl, c6.1, fun Y hY => sndE w c0 hY c6.2⟩
            · cases c6
          · exact fun Y hY => sndE w e0 hY c7
        · cases ce
      | call n l =>
        exfalso
        unfold chkE at ce
        split at ce
        · split at ce
          · rw [hcomp] at ce; simp at ce
          · cases ce
        · cases ce
      | calm n l =>
        exfalso
        unfold chkE at ce
        split at ce
        · split at ce
          · rw [hcomp] at ce; simp at ce
          · cases ce
        · cases ce
      | own n l0 l =>
        exfalso
        unfold chkE at ce
        split at ce
        · split at ce
          · rw [hcomp] at ce; simp at ce
          · cases ce
        · cases ce
      | _ =>
        exfalso
        cases ex with
        | ListComp elt gens scope pos' => unfold chkE at ce; first | cases ce | (simp at ce)
        | _ => cases hcomp
    exact ⟨key.imp fun D σ H q => adopt_imp q, fun _ => key⟩

/-! ### the statements -/
variable {e : E} {k : Sm} {i j : Nat} {x y : Str} {Dd : Ends}
theorem SlotOk.mkL {B : Bs} {F : Wd} {H : Hp} {a : Addr} {xs : List V} {l : List D} (fa : F a = none) (ba : B.2 a = none) (ha : H a = some (.lst xs)) (r : RepL C F xs l) : SlotOk C B F H (some (.ref a)) (.ownL l) := ⟨a, xs, rfl, fa, ba, ha, r⟩
theorem SlotOk.mkK {B : Bs} {F : Wd} {H : Hp} {a : Addr} {xs : List (Key × V)} {l : List (Key × D)} (fa : F a = none) (ba : B.2 a = none) (ha : H a = some (.dK xs)) (r : RepKV C F xs l) : SlotOk C B F H (some (.ref a)) (.ownK l) := ⟨a, xs, rfl, fa, ba, ha, r⟩
theorem SlotOk.mkT {B : Bs} {F : Wd} {H : Hp} {a : Addr} {xs : List (List Key × V)} {l : List (List Key × D)} (fa : F a = none) (ba : B.2 a = none) (ha : H a = some (.dT xs)) (r : RepKV C F xs l) : SlotOk C B F H (some (.ref a)) (.ownT l) := ⟨a, xs, rfl, fa, ba, ha, r⟩
theorem st_asg (w : Wld C T) (h : XOk C N sc top X) (hk : sc.kind = .function) {py : Pos} (hy : N[i]? = some y) (hl : locB top sc y = true) (ce : chkE T N e sc ex = true) (o : okx ex = true) (tk : Takes X W) (r : PSs X rest (tK C B W k)) :
    PSs X (.Assign [.Name y py] ex pos :: rest) (tK C B W (.asg i e k)) :=
  ⟨fun pins s0 σ H D I ⟨Γ, q⟩ => ((pss_cons (set_any (Γ := Γ) w h hk hy hl ce o tk).1 r).imp (t' := tS C B Γ W (evS C.toMng (.asg i e k) Γ)) fun D σ H ⟨F, s, p⟩ => ⟨F, s, PoS.of s p fun d v F' H' er e' s' rv p' =>
    tK.mk (s'.put_val rv) p'⟩).run pins s0 σ H D I q⟩
theorem st_asgO (w : Wld C T) (h : XOk C N sc top X) (hk : sc.kind = .function) {py : Pos} (hy : N[i]? = some y) (hl : locB top sc y = true) (ce : chkE T N e sc ex = true) (o : okx ex = true) (hn : newE e = true) (tk : Takes X W) (r : PSs X rest (tK C B W k)) :
    PSs X (.Assign [.Name y py] ex pos :: rest) (tK C B W (.asgO i e k)) :=
  ⟨fun pins s0 σ H D I ⟨Γ, q⟩ => ((pss_cons ((set_any (Γ := Γ) w h hk hy hl ce o tk).2 hn) r).imp (t' := tS C B Γ W (evS C.toMng (.asgO i e k) Γ)) fun D σ H ⟨F, s, p⟩ => ⟨F, s, by
    refine PoS.of (f := fun d => match d with | .lst l => evS C.toMng k (Γ.set i (.ownL l)) | _ => .bad) s p fun d v F' H' er e' s' rv p' => ?_
    cases d with
    | lst l =>
      obtain ⟨a, xs, rfl, h0, fa, ha, rl⟩ := rv
      exact tK.mk (s'.put_new (by have := s.notOwn h0; exact this) (.mkL fa (s.base h0) ha rl)) p'
    | _ => exact False.elim p'⟩).run pins s0 σ H D I q⟩
theorem st_newK (h : XOk C N sc top X) {py p2 : Pos} (hy : N[i]? = some y) (hl : locB top sc y = true) (r : PSs X rest (tK C B W k)) :
    PSs X (.Assign [.Name y py] (.Dict [] [] p2) pos :: rest) (tK C B W (.newK i k)) := by
  obtain ⟨l1, l2⟩ := loc_of h hl
  refine (pss_cons (ps_set (by rw [h.eN]; exact h.nd) (by rw [h.eN]; exact hy) l1 pe_dnewK rfl l2) r).imp fun D σ H ⟨Γ, F, s, p⟩ => fun t ht => ?_
  exact tK.mk ((s.ext_ ((Ext.refl F H).fresh ht) (s.fits.fresh ht)).put_new (s.notOwn ht) (.mkK (l := []) (s.fits.free ht) (s.base ht) upd_same ⟨rfl, rfl⟩)) p
theorem st_newT (h : XOk C N sc top X) {py p2 : Pos} (hy : N[i]? = some y) (hl : locB top sc y = true) (r : PSs X rest (tK C B W k)) :
    PSs X (.Assign [.Name y py] (.Dict [] [] p2) pos :: rest) (tK C B W (.newT i k)) := by
  obtain ⟨l1, l2⟩ := loc_of h hl
  refine (pss_cons (ps_set (by rw [h.eN]; exact h.nd) (by rw [h.eN]; exact hy) l1 pe_dnewT rfl l2) r).imp fun D σ H ⟨Γ, F, s, p⟩ => fun t ht => ?_
  exact tK.mk ((s.ext_ ((Ext.refl F H).fresh ht) (s.fits.fresh ht)).put_new (s.notOwn ht) (.mkT (l := []) (s.fits.free ht) (s.base ht) upd_same ⟨rfl, rfl⟩)) p
/-- a, b = e -/
def unpOk : Expr → Bool
  | .Name .. => true
  | .Call .. => true
  | .Attribute .. => true
  | .Subscript _ (.Slice ..) _ => false
  | .Subscript .. => true
  | _ => false
theorem st_unp (h : XOk C N sc top X) {is : List Nat} {kk : Nat} {tp : Pos} (he : ∀ Γ, PE X ex (tD C B Γ W (evE C.toMng e Γ))) (hu : unpOk ex = true) (ha : areNames N top sc is es = true) (h2 : 2 ≤ is.length) (r : PSs X rest (tK C B W k)) :
    PSs X (.Assign [.Tuple es kk tp] ex pos :: rest) (tK C B W (.unp is e k)) := by
  have hg : PG X (.Tuple es kk tp) (gX X.K is) := pg_tg h (by match is, h2 with | i :: j :: t, _ => exact ha)
  refine ⟨fun pins s0 σ H D I ⟨Γ, q⟩ => ((pss_cons (ps_asg (he Γ) hg (by cases ex <;> first | rfl | cases hu) (by cases ex <;> first | rfl | cases hu)) r).imp (t' := tS C B Γ W (evS C.toMng (.unp is e k) Γ)) fun D σ H ⟨F, s, p⟩ => ⟨F, s, by
    refine PoS.of (f := fun d => match d with | .tup l => Out.of Γ (setAll Γ is l) (evS C.toMng k) | _ => .bad) s p fun d v F' H' er e' s' rv p' => ?_
    cases d with
    | tup l =>
      have p' : PoS C B W F' _ (Out.of Γ (setAll Γ is l) (evS C.toMng k)) := p'
      cases es : setAll Γ is l with
      | ok Γ' =>
        rw [es] at p'
        refine gX_ok (vs := is) s' rv (by match is, h2 with | i :: j :: t, _ => exact es) (fun i hi => hi) fun σ' s2 _ => tK.mk s2 p'
      | exc c =>
        exact absurd es (setAll_noexc is l Γ)
      | bad => rw [es] at p'; exact False.elim p'
    | _ => exact False.elim p'⟩).run pins s0 σ H D I q⟩
/-- name += e, ints -/
def augOk : BOp → Operator → Bool
  | .add, .Add => true
  | .sub, .Sub => true
  | _, _ => false
theorem st_aug (h : XOk C N sc top X) {bo : BOp} {o : Operator} {py : Pos} (ho : augOk bo o = true) (hy : N[i]? = some y) (hl : locB top sc y = true) (he : ∀ Γ, PE X ex (tD C B Γ W (evE C.toMng e Γ))) (r : PSs X rest (tK C B W k)) :
    PSs X (.AugAssign (.Name y py) o ex pos :: rest) (tK C B W (.aug i bo e k)) := by
  obtain ⟨l1, l2⟩ := loc_of h hl
  have hip : ∃ f : Int → Int → Int, PIp X o (ipI f) ∧ ∀ a b, augD bo a b = (match a, b with | .int i, .int j => .ok (.int (f i j)) | _, _ => .bad) := by
    cases bo <;> cases o <;> first
      | (cases ho; done)
      | exact ⟨fun i j => i + j, ip_add, fun a b => by cases a <;> cases b <;> rfl⟩
      | exact ⟨fun i j => i - j, ip_sub, fun a b => by cases a <;> cases b <;> rfl⟩
  obtain ⟨f, hp, hf⟩ := hip
  refine ⟨fun pins s0 σ H D I ⟨Γ, q⟩ => ((pss_cons (ps_aug (by rw [h.eN]; exact h.nd) (by rw [h.eN]; exact hy) l1 (he Γ) hp l2) r).imp (t' := tS C B Γ W (evS C.toMng (.aug i bo e k) Γ)) fun D σ H ⟨F, s, p⟩ => by
    rw [evS] at p
    split at p
    · rename_i dx hx
      obtain ⟨v, hv, rx⟩ := s.val hx
      refine ⟨v, hv, F, s, PoS.of (f := fun y => Out.of Γ (augD bo dx y) fun z => evS C.toMng k (Γ.set i (.val z))) s p fun dy v2 F' H' er e' s' ry p' => ?_⟩
      rw [hf] at p'
      cases dx with
      | int a =>
        cases dy with
        | int b => exact ⟨a, b, rx, ry, tK.mk (s'.put_val (d := .int (f a b)) rfl) p'⟩
        | _ => exact False.elim p'
      | _ => exact False.elim p'
    · exact False.elim p).run pins s0 σ H D I q⟩

/-! methods of the frame's own lists -/
theorem tyL {H : Hp} {a : Addr} {xs : List V} (ha : H a = some (.lst xs)) : tyV X.K "list" (.ref a) H := .inl ⟨rfl, _, SqL.of ha⟩
theorem nd_own (h : XOk C N sc top X) (hN : N[i]? = some x) (hv : visB sc x = true) (hn : nmOk x = true) : PE X (.Name x pos) (tVar i) := pe_var (i := i) (by rw [h.eN]; exact hN) (h.vis hv) (nm_d hn) (nm_c hn)
theorem few_ok {cpos : Pos} {e : Expr} {env : Env} (o : okx e = true) : ((backTo cpos (starEach [e] env)).all (fun x => !x.1) && (backToKw cpos (keywordEach [] env)).all (fun x => x.1.isSome)
      && decide (([e] : List Expr).length + ([] : List Keyword).length + (if ([] : List Keyword).isEmpty then 0 else 1) < 30)) = true := by
  rw [star_cons o]
  rfl
theorem st_app (h : XOk C N sc top X) {px apos cpos : Pos} (hN : N[i]? = some x) (hv : visB sc x = true) (hn : nmOk x = true) (hline : (apos.endLine == cpos.line) = true) (o : okx ex = true) (he : ∀ Γ, PE X ex (tD C B Γ W (evE C.toMng e Γ))) (r : PSs X rest (tK C B W k)) :
    PSs X (.Expr (.Call (.Attribute (.Name x px) "append" apos) [ex] [] cpos) pos :: rest) (tK C B W (.app i e k)) :=
  ⟨fun pins s0 σ H D I ⟨Γ, q⟩ => ((pss_cons (ps_expr (pe_bm PySem.F.plainAttrs_list PySem.F.slot_list_append PySem.F.type_list_append mt_append (nd_own h hN hv hn) (pa_one (he Γ) o) rfl (few_ok o) hline (star_cons o) one_any)) r).imp (t' := tS C B Γ W (evS C.toMng (.app i e k) Γ)) fun D σ H ⟨F, s, p⟩ => by
    rw [evS, onL] at p
    split at p
    · rename_i l hl
      obtain ⟨a, xs, e1, fa, ba, ha, rl⟩ := s.sl i _ hl
      have e1' := join_of e1
      refine ⟨_, e1', tyL ha, F, s, PoS.of (f := fun y => if l.length < LINE then evS C.toMng k (Γ.set i (.ownL (l ++ [y]))) else .bad) s p fun d v F' H' er e' s' rv p' => ?_⟩
      split at p'
      · rename_i hlt
        obtain ⟨ha', fa'⟩ := e'.own ha fa
        refine ⟨a, xs, v, rfl, rfl, ha', by rw [rl.len, line_eq]; exact hlt, ?_⟩
        exact tK.mk (s'.write hl rfl e1' fa' ba (.mkL fa' ba upd_same ((RepL.le e'.le _ _ rl).snoc rv))) p'
      · exact False.elim p'
    · exact False.elim p).run pins s0 σ H D I q⟩
theorem st_ext (h : XOk C N sc top X) {px apos cpos : Pos} (hN : N[i]? = some x) (hv : visB sc x = true) (hn : nmOk x = true) (hline : (apos.endLine == cpos.line) = true) (o : okx ex = true) (he : ∀ Γ, PE X ex (tD C B Γ W (evE C.toMng e Γ))) (r : PSs X rest (tK C B W k)) :
    PSs X (.Expr (.Call (.Attribute (.Name x px) "extend" apos) [ex] [] cpos) pos :: rest) (tK C B W (.ext i e k)) :=
  ⟨fun pins s0 σ H D I ⟨Γ, q⟩ => ((pss_cons (ps_expr (pe_bm PySem.F.plainAttrs_list PySem.F.slot_list_extend PySem.F.type_list_extend mt_extend (nd_own h hN hv hn) (pa_one (he Γ) o) rfl (few_ok o) hline (star_cons o) one_any)) r).imp (t' := tS C B Γ W (evS C.toMng (.ext i e k) Γ)) fun D σ H ⟨F, s, p⟩ => by
    rw [evS, onL] at p
    split at p
    · rename_i l hl
      obtain ⟨a, xs, e1, fa, ba, ha, rl⟩ := s.sl i _ hl
      have e1' := join_of e1
      refine ⟨_, e1', tyL ha, F, s, PoS.of (f := fun y => match y with | .lst m => if l.length + m.length ≤ LINE then evS C.toMng k (Γ.set i (.ownL (l ++ m))) else .bad | _ => .bad) s p fun d v F' H' er e' s' rv p' => ?_⟩
      cases d with
      | lst m =>
        have p' : PoS C B W F' _ (if l.length + m.length ≤ LINE then evS C.toMng k (Γ.set i (.ownL (l ++ m))) else .bad) := p'
        split at p'
        · rename_i hlt
          obtain ⟨b, ys, rfl, hb, rm⟩ := rv
          obtain ⟨ha', fa'⟩ := e'.own ha fa
          refine ⟨a, b, xs, ys, rfl, rfl, ha', s'.fits b _ hb, by rw [rl.len, rm.len, line_eq]; exact hlt, ?_⟩
          exact tK.mk (s'.write hl rfl e1' fa' ba (.mkL fa' ba upd_same ((RepL.le e'.le _ _ rl).app rm))) p'
        · exact False.elim p'
      | _ => exact False.elim p'
    · exact False.elim p).run pins s0 σ H D I q⟩
theorem RepL.dropLast {F : Wd} : ∀ {l : List D} {vs : List V}, RepL C F vs l → RepL C F vs.dropLast l.dropLast
  | [], _, q => by rw [show _ = [] from q]; rfl
  | [d], _, q => by
    obtain ⟨v, r, rfl, _, q2⟩ := q
    rw [show r = [] from q2]; rfl
  | d :: d2 :: ds, _, q => by
    obtain ⟨v, r, rfl, q1, q2⟩ := q
    have q2' := q2
    obtain ⟨v2, r2, rfl, _, _⟩ := q2'
    exact ⟨v, _, rfl, q1, RepL.dropLast q2⟩
theorem RepL.last {F : Wd} {l : List D} {vs : List V} {d : D} (r : RepL C F vs l) (h : l.getLast? = some d) : ∃ v, vs[vs.length - 1]? = some v ∧ Rep C F v d := by
  rw [List.getLast?_eq_getElem?] at h
  rw [r.len]
  exact r.get h
theorem st_pop (h : XOk C N sc top X) {py px apos cpos : Pos} (hy : N[i]? = some y) (hl : locB top sc y = true) (hN : N[j]? = some x) (hv : visB sc x = true) (hn : nmOk x = true) (hij : i ≠ j) (hline : (apos.endLine == cpos.line) = true) (r : PSs X rest (tK C B W k)) :
    PSs X (.Assign [.Name y py] (.Call (.Attribute (.Name x px) "pop" apos) [] [] cpos) pos :: rest) (tK C B W (.pop i j k)) := by
  obtain ⟨l1, l2⟩ := loc_of h hl
  refine (pss_cons (ps_set (by rw [h.eN]; exact h.nd) (by rw [h.eN]; exact hy) l1 (pe_bm0 PySem.F.plainAttrs_list PySem.F.slot_list_pop PySem.F.type_list_pop mt_pop (nd_own h hN hv hn) rfl hline) rfl l2) r).imp fun D σ H ⟨Γ, F, s, p⟩ => ?_
  rw [evS, onL] at p
  split at p
  · rename_i l hl
    obtain ⟨a, xs, e1, fa, ba, ha, rl⟩ := s.sl j _ hl
    have e1' := join_of e1
    split at p
    · rename_i d hd
      obtain ⟨v, hv, rv⟩ := rl.last hd
      refine ⟨_, e1', tyL ha, a, xs, v, rfl, rfl, ha, hv, ?_⟩
      exact tK.mk ((s.write hl rfl e1' fa ba (.mkL fa ba upd_same (RepL.dropLast rl))).put_val rv) p
    · exact False.elim p
  · exact False.elim p
theorem st_seti (h : XOk C N sc top X) {px tp : Pos} {ei : Expr} {ai : E} (hN : N[i]? = some x) (hv : visB sc x = true) (hn : nmOk x = true) (o : okx ei = true) (oc : isComp ex = false) (o2 : okx ex = true) (he : ∀ Γ, PE X ex (tD C B Γ W (evE C.toMng e Γ))) (hi : ∀ Γ, PE X ei (tD C B Γ W (evE C.toMng ai Γ))) (r : PSs X rest (tK C B W k)) :
    PSs X (.Assign [.Subscript (.Name x px) ei tp] ex pos :: rest) (tK C B W (.seti i ai e k)) :=
  ⟨fun pins s0 σ H D I ⟨Γ, q⟩ => ((pss_cons (ps_asg (he Γ) (pg_sub (nd_own h hN hv hn) (hi Γ) set_list (fun v => by cases ei <;> first | rfl | cases o)) (sole_no oc o2) rfl) r).imp (t' := tS C B Γ W (evS C.toMng (.seti i ai e k) Γ)) fun D σ H ⟨F, s, p⟩ => ⟨F, s, by
    refine PoS.of (f := fun y => onL Γ i fun l => Out.of Γ (evE C.toMng ai Γ) fun x => match x with | .int n => (match ixN l.length n with | some j => evS C.toMng k (Γ.set i (.ownL (l.set j y))) | none => .bad) | _ => .bad) s p fun d v F' H' er e' s' rv p' => ?_
    rw [onL] at p'
    split at p'
    · rename_i l hl
      obtain ⟨a, xs, e1, fa, ba, ha, rl⟩ := s'.sl i _ hl
      have e1' := join_of e1
      refine ⟨_, e1', F', s', PoS.of (f := fun x => match x with | .int n => (match ixN l.length n with | some j => evS C.toMng k (Γ.set i (.ownL (l.set j d))) | none => .bad) | _ => .bad) s' p' fun dn vn F2 H2 er2 e2 s2 rn p2 => ?_⟩
      cases dn with
      | int n =>
        have p2 : PoS C B W F2 _ (match ixN l.length n with | some j => evS C.toMng k (Γ.set i (.ownL (l.set j d))) | none => .bad) := p2
        split at p2
        · rename_i jj hj
          obtain ⟨ha', fa'⟩ := e2.own ha fa
          refine ⟨a, xs, n, jj, rfl, rn, ha', by rw [rl.len]; exact hj, ?_⟩
          exact tK.mk (s2.write hl rfl e1' fa' ba (.mkL fa' ba upd_same ((RepL.le e2.le _ _ rl).set jj (Rep.le e2.le _ _ rv)))) p2
        · exact False.elim p2
      | _ => exact False.elim p2
    · exact False.elim p'⟩).run pins s0 σ H D I q⟩
theorem st_frz (r : PSs X rest (tK C B W k)) : PSs X rest (tK C B W (.frz i k)) := r.imp fun D σ H ⟨Γ, F, s, p⟩ => by
  rw [evS, frzG] at p
  split at p
  · rename_i l hl
    obtain ⟨a, xs, e1, fa, ba, ha, rl⟩ := s.sl i _ hl
    obtain ⟨F', s', le⟩ := s.freeze hl
    exact tK.mk s' (PoS.le p le)
  · exact tK.mk s p
  · exact False.elim p

/-! if, for, while, the ends -/
theorem st_if {sa sb : Sm} {la lb : List Stmt} (hc : ∀ Γ, PT X c (tT C B Γ W ((evE C.toMng e Γ).bind truD))) (ha : PSs X la (tK C B W sa)) (hb : PSs X lb (tK C B W sb)) (r : PSs X rest (tK C B W k)) :
    PSs X (.If c la lb pos :: rest) (tK C B W (.ifs e sa sb k)) :=
  ⟨fun pins s0 σ H D I ⟨Γ, q⟩ => ((pss_cons (ps_if (hc Γ) ha hb) r).imp (t' := tS C B Γ W (evS C.toMng (.ifs e sa sb k) Γ)) fun D σ H ⟨F, s, p⟩ => ⟨F, s, by
    have p : PoS C B W F D (Out.of Γ ((evE C.toMng e Γ).bind truD) fun r => if r then (evS C.toMng sa Γ).andThen (evS C.toMng k) else (evS C.toMng sb Γ).andThen (evS C.toMng k)) := by
      rw [evS] at p
      cases he : evE C.toMng e Γ <;> rw [he] at p <;> exact p
    refine PoS.of s p fun b b' F' H' er e' s' rb p' => ?_
    obtain rfl : b' = b := rb
    cases b' with
    | true => exact tK.mk s' (PoS.seq p')
    | false => exact tK.mk s' (PoS.seq p')⟩).run pins s0 σ H D I q⟩
theorem st_for (h : XOk C N sc top X) (hp : PassesOwn (model X.prog X.w) X.A X.env X.xe) {tg kl : List Nat} {rng : Bool} {it : E} {sb : Sm} {etg eit : Expr} {lb : List Stmt}
    (hi : ∀ Γ, PI X etg eit (tI C B Γ W (if rng then (evL C.toMng it Γ).bind fun ds => walkD true (.tup ds) else (evE C.toMng it Γ).bind fun d => walkD false d))) (oit : okx eit = true) (hg : chkTg N top sc tg etg = true) (hb : PSs X lb (tK C B W sb)) (r : PSs X rest (tK C B W k)) :
    PSs X (.For etg eit lb [] pos :: rest) (tK C B W (.loop tg kl rng it sb k)) :=
  ⟨fun pins s0 σ H D I ⟨Γ, q⟩ => ((pss_cons (ps_for hp h.calm (hi Γ) (pg_tg h hg) hb (folded_ok oit)) r).imp (t' := tS C B Γ W (evS C.toMng (.loop tg kl rng it sb k) Γ)) fun D σ H ⟨F, s, p⟩ => ⟨F, s, by
    rw [evS] at p
    refine PoS.of s p fun items J F1 H1 er e1 s1 rJ p1 => ?_
    have p1 := PoS.seq p1
    generalize ({ D with nx := tK C B W k D } : Ends) = D1 at p1 ⊢
    refine ⟨fun i m σ' H' => m = items.length - i ∧ i ≤ items.length ∧ ∃ F' Γ', SR C B F' H' σ' Γ' ∧ Le F1 F' ∧ PoS C B W F' D1 (forD tg kl (evS C.toMng sb) (items.drop i) Γ'),
      ⟨items.length, by simp, Nat.zero_le _, F1, Γ, s1, Le.refl _, by simpa using p1⟩, ?_⟩
    rintro i m σ' H' ⟨rfl, hi, F', Γ', s', le', q'⟩
    obtain ⟨hgo, hstop⟩ := rJ F' H' le' s'.fits
    by_cases hlt : i < items.length
    · have hd : items[i]? = some items[i] := List.getElem?_eq_getElem hlt
      obtain ⟨go, yl⟩ := hgo i _ hd
      rw [take_succ hd] at q'
      unfold forD at q'
      refine .inr ⟨go, fun σ2 H2 => ∃ F2 Γ2, SR C B F2 H2 σ2 Γ2 ∧ Le F1 F2 ∧ PoS C B W F2 D1 (forD tg kl (evS C.toMng sb) (items.drop (i + 1)) Γ2), fun σ2 H2 ⟨F2, Γ2, s2, le2, q2⟩ => ⟨items.length - (i + 1), by omega, rfl, hlt, F2, Γ2, s2, le2, q2⟩, fun x H2 hy => ?_⟩
      obtain ⟨F2, e2, f2, rx⟩ := yl x H2 hy
      have s2 := (s'.kill kl).ext_ e2 f2
      cases et : tgtD (killG Γ' kl) tg items[i] with
      | exc c =>
        exfalso
        unfold tgtD at et
        split at et
        · cases et
        · split at et
          · exact setAll_noexc _ _ _ et
          · cases et
      | bad => rw [et] at q'; exact False.elim q'
      | ok Γ3 =>
        rw [et] at q'
        have q' : PoS C B W F' D1 (match evS C.toMng sb Γ3 with
          | .next Γ2 => forD tg kl (evS C.toMng sb) (items.drop (i + 1)) Γ2
          | .cont Γ2 => forD tg kl (evS C.toMng sb) (items.drop (i + 1)) Γ2
          | .brk Γ2 => .next (killG Γ2 kl)
          | o => o) := q'
        refine gX_ok (vs := tg) s2 rx et (fun i hi => hi) fun σ3 s3 _ => tK.mk s3 ?_
        have le2 : Le F' F2 := e2.le
        cases eb : evS C.toMng sb Γ3 with
        | next Γ4 =>
          rw [eb] at q'
          exact fun σ4 F4 H4 s4 le4 => ⟨F4, Γ4, s4, (le'.trans le2).trans le4, PoS.le q' (le2.trans le4)⟩
        | cont Γ4 =>
          rw [eb] at q'
          exact fun σ4 F4 H4 s4 le4 => ⟨F4, Γ4, s4, (le'.trans le2).trans le4, PoS.le q' (le2.trans le4)⟩
        | brk Γ4 =>
          rw [eb] at q'
          exact fun σ4 F4 H4 s4 le4 => q' σ4 F4 H4 (s4.kill kl) (le2.trans le4)
        | ret d => rw [eb] at q'; exact q'
        | exc c Γ4 => rw [eb] at q'; exact q'
        | bad => rw [eb] at q'; exact q'
    · have hi' : i = items.length := by omega
      subst hi'
      rw [List.drop_length] at q'
      unfold forD at q'
      exact .inl ⟨hstop _ (Nat.le_refl _), q' σ' F' H' (s'.kill kl) (Le.refl _)⟩⟩).run pins s0 σ H D I q⟩
def tAnyW (C : Cfg) (B : Bs) (W : WX) (f : Gam → R Bool) : TT := fun σ H Q => ∃ Γ, tT C B Γ W (f Γ) σ H Q
theorem st_while (hp : PassesOwn (model X.prog X.w) X.A X.env X.xe) {kl : List Nat} {sb : Sm} {lb : List Stmt}
    (hc : ∀ Γ, PT X c (tT C B Γ W ((evE C.toMng e Γ).bind truD))) (hb : PSs X lb (tK C B W sb)) (r : PSs X rest (tK C B W k)) :
    PSs X (.While c lb [] pos :: rest) (tK C B W (.whl kl e sb k)) := by
  have hc' : PT X c (tAnyW C B W fun Γ => (evE C.toMng e Γ).bind truD) := ⟨fun pins s σ H Q I ⟨Γ, q⟩ => (hc Γ).run pins s σ H Q I q⟩
  refine (pss_cons (ps_while hp hc' hb) r).imp fun D σ H ⟨Γ, F, s, p⟩ => ?_
  rw [evS] at p
  have p := PoS.seq p
  show tWhile _ _ { D with nx := tK C B W k D } σ H
  generalize ({ D with nx := tK C B W k D } : Ends) = D1 at p ⊢
  refine ⟨fun m σ' H' => ∃ F' Γ', SR C B F' H' σ' Γ' ∧ PoS C B W F' D1 (whileD kl (fun Γ' => (evE C.toMng e Γ').bind truD) (evS C.toMng sb) m Γ'), ⟨FUEL, F, Γ, s, p⟩, ?_⟩
  rintro m σ' H' ⟨F', Γ', s', q'⟩
  cases m with
  | zero => exact False.elim q'
  | succ n =>
    unfold whileD at q'
    refine ⟨killG Γ' kl, F', s'.kill kl, PoS.of (s'.kill kl) q' fun b b' F2 H2 er e2 s2 rb p2 => ?_⟩
    obtain rfl : b' = b := rb
    cases b' with
    | false => exact p2 σ' F2 H2 s2 (Le.refl _)
    | true =>
      refine ⟨fun σ3 H3 => ∃ F3 Γ3, SR C B F3 H3 σ3 Γ3 ∧ PoS C B W F3 D1 (whileD kl (fun Γ' => (evE C.toMng e Γ').bind truD) (evS C.toMng sb) n Γ3), fun σ3 H3 q3 => ⟨n, Nat.lt_succ_self n, q3⟩, tK.mk s2 ?_⟩
      have p2 : PoS C B W F2 D1 (match evS C.toMng sb (killG Γ' kl) with
        | .next Γ2 => whileD kl (fun Γ' => (evE C.toMng e Γ').bind truD) (evS C.toMng sb) n Γ2
        | .cont Γ2 => whileD kl (fun Γ' => (evE C.toMng e Γ').bind truD) (evS C.toMng sb) n Γ2
        | .brk Γ2 => .next (killG Γ2 kl)
        | o => o) := p2
      cases eb : evS C.toMng sb (killG Γ' kl) with
      | next Γ4 => rw [eb] at p2; exact fun σ4 F4 H4 s4 le4 => ⟨F4, Γ4, s4, PoS.le p2 le4⟩
      | cont Γ4 => rw [eb] at p2; exact fun σ4 F4 H4 s4 le4 => ⟨F4, Γ4, s4, PoS.le p2 le4⟩
      | brk Γ4 => rw [eb] at p2; exact fun σ4 F4 H4 s4 le4 => p2 σ4 F4 H4 (s4.kill kl) le4
      | ret d => rw [eb] at p2; exact p2
      | exc c Γ4 => rw [eb] at p2; exact p2
      | bad => rw [eb] at p2; exact p2
theorem st_ret (he : ∀ Γ, PE X ex (tD C B Γ W (evE C.toMng e Γ))) : PSs X (.Return (some ex) pos :: rest) (tK C B W (.ret e)) :=
  ⟨fun pins s0 σ H D I ⟨Γ, q⟩ => ((pss_cons (ps_ret (he Γ)) pss_never).imp (t' := tS C B Γ W (evS C.toMng (.ret e) Γ)) fun D σ H ⟨F, s, p⟩ => ⟨F, s, PoS.of s p fun d v F' H' er e' s' rv p' => p' v F' H' s'.fits s'.ext rv⟩).run pins s0 σ H D I q⟩
theorem st_retN : PSs X (.Return none pos :: rest) (tK C B W .retN) :=
  (pss_cons ps_retN pss_never).imp fun D σ H ⟨Γ, F, s, p⟩ => p .non F H s.fits s.ext rfl
theorem st_nil : PSs X [] (tK C B W .nil) := pss_nil.imp fun D σ H ⟨Γ, F, s, p⟩ => p σ F H s (Le.refl _)
theorem st_brk : PSs X (.Break pos :: rest) (tK C B W .brk) := (pss_cons ps_break pss_never).imp fun D σ H ⟨Γ, F, s, p⟩ => p σ F H s (Le.refl _)
theorem st_cont : PSs X (.Continue pos :: rest) (tK C B W .cont) := (pss_cons ps_continue pss_never).imp fun D σ H ⟨Γ, F, s, p⟩ => p σ F H s (Le.refl _)
theorem st_pass (r : PSs X rest (tK C B W k)) : PSs X (.Pass pos :: rest) (tK C B W (.pass k)) := (pss_cons ps_pass r).imp fun D σ H ⟨Γ, F, s, p⟩ => tK.mk s p
theorem st_drop (he : ∀ Γ, PE X ex (tD C B Γ W (evE C.toMng e Γ))) (oc : isComp ex = false) (o : okx ex = true) (r : PSs X rest (tK C B W k)) : PSs X (.Expr ex pos :: rest) (tK C B W (.drop e k)) :=
  ⟨fun pins s0 σ H D I ⟨Γ, q⟩ => ((pss_cons (ps_expr (he Γ) (swaps_no oc o)) r).imp (t' := tS C B Γ W (evS C.toMng (.drop e k) Γ)) fun D σ H ⟨F, s, p⟩ => ⟨F, s, PoS.of s p fun d v F' H' er e' s' rv p' => tK.mk s' p'⟩).run pins s0 σ H D I q⟩
/-- self.f = e of an instance in the making -/
theorem putF_new {f : Str} {v : V} : ∀ {fs : List (Str × V)}, fs.lookup f = none → putF f v fs = fs ++ [(f, v)]
  | [], _ => rfl
  | (g, u) :: r, h => by
    rw [List.lookup_cons] at h
    cases e : f == g with
    | true => rw [e] at h; cases h
    | false =>
      rw [e] at h
      have hne : ¬ g = f := fun z => by rw [z] at e; simp at e
      show (if g = f then (g, v) :: r else (g, u) :: putF f v r) = _
      rw [if_neg hne, putF_new h]
      rfl
theorem zip_snoc {α β : Type} : ∀ {l : List α} {m : List β} {a : α} {b : β}, l.length = m.length → (l ++ [a]).zip (m ++ [b]) = l.zip m ++ [(a, b)]
  | [], [], _, _, _ => rfl
  | x :: l, y :: m, a, b, h => by
    rw [List.cons_append, List.cons_append, List.zip_cons_cons, List.zip_cons_cons, zip_snoc (by simpa using h)]
    rfl
  | [], _ :: _, _, _, h => by simp at h
  | _ :: _, [], _, _, h => by simp at h
theorem lookup_none_of {ks : List Str} {vs : List V} {f : Str} (h : f ∉ ks) : (ks.zip vs).lookup f = none := by
  induction ks generalizing vs with
  | nil => rfl
  | cons k r ih =>
    cases vs with
    | nil => rfl
    | cons v t =>
      rw [List.mem_cons, not_or] at h
      rw [List.zip_cons_cons, List.lookup_cons, beq_eq_false_iff_ne.mpr h.1]
      exact ih h.2
theorem st_setf (w : Wld C T) (h : XOk C N sc top X) {nm : Nat} {f : Str} {px pf : Pos} (hf : T.fname nm = f) (hN : N[i]? = some x) (hv : visB sc x = true) (hn : nmOk x = true) (oc : isComp ex = false) (o2 : okx ex = true) (he : ∀ Γ, PE X ex (tD C B Γ W (evE C.toMng e Γ))) (r : PSs X rest (tK C B W k)) :
    PSs X (.Assign [.Attribute (.Name x px) f pf] ex pos :: rest) (tK C B W (.setf i nm e k)) :=
  ⟨fun pins s0 σ H Dd I ⟨Γ, q⟩ => ((pss_cons (ps_fld (nd_own h hN hv hn) (he Γ) (swaps_no oc o2)) r).imp (t' := tS C B Γ W (evS C.toMng (.setf i nm e k) Γ)) fun Dd σ H ⟨F, s, p⟩ => ⟨F, s, by
    refine PoS.of (f := fun d => match Γ[i]? with | some (.ownI c l) => if (C.flds c)[l.length]? = some nm then evS C.toMng k (Γ.set i (.ownI c (l ++ [d]))) else .bad | _ => .bad) s p fun d v F' H' er e' s' rv p' => ?_
    split at p'
    · rename_i c l hl
      split at p'
      · rename_i hm
        obtain ⟨a, xs, e1, me, fa, ba, ⟨dx, ha⟩, rl⟩ := s'.sl i _ hl
        have e1' := join_of e1
        have hne : C.flds c ≠ [] := by intro z; rw [z] at hm; simp at hm
        have q := w.cls c hne
        have hname : C.fnm nm = f := by rw [w.fnm, hf]
        have hlt : l.length < (C.flds c).length := (List.getElem?_eq_some_iff.mp hm).1
        have hlen : (((C.flds c).take l.length).map C.fnm).length = xs.length := by rw [List.length_map, List.length_take, rl.len]; omega
        have htk : (C.flds c).take (l.length + 1) = (C.flds c).take l.length ++ [nm] := by
          rw [List.take_add_one, hm]; rfl
        have hnin : f ∉ ((C.flds c).take l.length).map C.fnm := by
          have nd := q.nd
          rw [← List.take_append_drop l.length (C.flds c), List.map_append] at nd
          intro hin
          have hd : f ∈ ((C.flds c).drop l.length).map C.fnm := by
            rw [← hname]
            refine List.mem_map_of_mem ?_
            rw [List.mem_drop_iff_getElem]
            obtain ⟨h1, h2⟩ := List.getElem?_eq_some_iff.mp hm
            exact ⟨0, by omega, by simpa using h2⟩
          exact (List.nodup_append.mp nd).2.2 f hin f hd rfl
        refine ⟨_, e1', a, C.cls c, dx, _, rfl, ha, by rw [h.eK]; exact q.cl, by rw [h.eK, ← hname]; exact q.na nm (List.mem_of_getElem? hm), ?_, ?_⟩
        · rw [List.length_zip, hlen, Nat.min_self, rl.len]
          have : (C.flds c).length ≤ 100 := w.few c
          omega
        · refine tK.mk (s'.write (c' := .ownI c (l ++ [d])) hl rfl e1' fa ba ⟨a, xs ++ [v], rfl, me, fa, ba, ⟨dx, ?_⟩, rl.snoc rv⟩) p'
          rw [upd_same, putF_new (lookup_none_of hnin), List.length_append, List.length_singleton, htk, List.map_append]
          show some (HO.ins _ _ _) = some (HO.ins _ _ _)
          rw [List.map_singleton, hname, zip_snoc hlen]
      · exact False.elim p'
    · exact False.elim p'⟩).run pins s0 σ H Dd I q⟩
theorem st_raise (h : XOk C N sc top X) {n : Nat} (tk : Takes X W) (he : PMk X ex (fun _ H Q => Q (.ref (C.exa n)) none H)) : PSs X (.Raise (some ex) none pos :: rest) (tK C B W (.raise n)) :=
  (pss_cons (ps_raise h.calm tk he) pss_never).imp fun D σ H ⟨Γ, F, s, p⟩ => p σ F H s
end
end G

set_option Elab.async false
set_option linter.all false
set_option maxRecDepth 100000
set_option maxHeartbeats 8000000
/-! GK: the check of a body, its soundness; defs. -/
namespace G
open PySem L2
def rdB (N : List Str) (sc : Scope) (i : Nat) (x : Str) : Bool := decide (N[i]? = some x) && visB sc x && nmOk x
def wrB (N : List Str) (sc : Scope) (i : Nat) (x : Str) : Bool := decide (N[i]? = some x) && locB true sc x
def chkIt (T : Tb) (N : List Str) (sc : Scope) (rng : Bool) (it : E) (eit : Expr) : Bool :=
  if rng then (match eit with | .Call (.Name x _) [a] [] _ => decide (x = "range") && glB sc x && chkL T N it sc [a] | .Call (.Name x _) [a, b] [] _ => decide (x = "range") && glB sc x && chkL T N it sc [a, b] | _ => false) else chkE T N it sc eit
def chkS (T : Tb) (N : List Str) (sc : Scope) : Sm → List Stmt → Bool
  | .nil, sts => match sts with
    | [] => true
    | _ => false
  | .asg i e k, sts => match sts with
    | .Assign [.Name y _] ex _ :: r => wrB N sc i y && chkE T N e sc ex && okx ex && chkS T N sc k r
    | _ => false
  | .asgO i e k, sts => match sts with
    | .Assign [.Name y _] ex _ :: r => wrB N sc i y && chkE T N e sc ex && okx ex && newE e && chkS T N sc k r
    | _ => false
  | .newK i k, sts => match sts with
    | .Assign [.Name y _] (.Dict [] [] _) _ :: r => wrB N sc i y && chkS T N sc k r
    | _ => false
  | .newT i k, sts => match sts with
    | .Assign [.Name y _] (.Dict [] [] _) _ :: r => wrB N sc i y && chkS T N sc k r
    | _ => false
  | .unp is e k, sts => match sts with
    | .Assign [.Tuple es _ _] ex _ :: r => chkE T N e sc ex && unpOk ex && areNames N true sc is es && decide (2 ≤ is.length) && chkS T N sc k r
    | _ => false
  | .swp i j a b k, sts => match sts with
    | .Assign [.Tuple [.Name x px, .Name y py] _ tp] (.Tuple [.Name a' _, .Name b' _] _ _) _ :: r => decide (px.line = py.line) && decide (N[i]? = some x) && decide (N[j]? = some y) && decide (i ≠ j) && decide (x ≠ y) && decide (sc.names.lookup x = some .local) && decide (sc.names.lookup y = some .local)
      && (match a with | .var n => rdB N sc n a' | _ => false) && (match b with | .var n => rdB N sc n b' | _ => false) && chkS T N sc k r
    | _ => false
  | .aug i op e k, sts => match sts with
    | .AugAssign (.Name y _) o ex _ :: r => wrB N sc i y && augOk op o && chkE T N e sc ex && chkS T N sc k r
    | _ => false
  | .app i e k, sts => match sts with
    | .Expr (.Call (.Attribute (.Name x _) m apos) [ex] [] cpos) _ :: r => decide (m = "append") && rdB N sc i x && (apos.endLine == cpos.line) && chkE T N e sc ex && okx ex && chkS T N sc k r
    | _ => false
  | .ext i e k, sts => match sts with
    | .Expr (.Call (.Attribute (.Name x _) m apos) [ex] [] cpos) _ :: r => decide (m = "extend") && rdB N sc i x && (apos.endLine == cpos.line) && chkE T N e sc ex && okx ex && chkS T N sc k r
    | _ => false
  | .pop i j k, sts => match sts with
    | .Assign [.Name y _] (.Call (.Attribute (.Name x _) m apos) [] [] cpos) _ :: r => decide (m = "pop") && wrB N sc i y && rdB N sc j x && decide (i ≠ j) && (apos.endLine == cpos.line) && chkS T N sc k r
    | _ => false
  | .seti i a e k, sts => match sts with
    | .Assign [.Subscript (.Name x _) ei _] ex _ :: r => rdB N sc i x && okx ei && !isComp ex && okx ex && chkE T N e sc ex && chkE T N a sc ei && chkS T N sc k r
    | _ => false
  | .frz i k, sts => chkS T N sc k sts
  | .ifs c a b k, sts => match sts with
    | .If ec la lb _ :: r => chkE T N c sc ec && chkS T N sc a la && chkS T N sc b lb && chkS T N sc k r
    | _ => false
  | .loop tg kl rng it body k, sts => match sts with
    | .For etg eit lb [] _ :: r => chkIt T N sc rng it eit && okx eit && chkTg N true sc tg etg && chkS T N sc body lb && chkS T N sc k r
    | _ => false
  | .whl kl c body k, sts => match sts with
    | .While ec lb [] _ :: r => chkE T N c sc ec && chkS T N sc body lb && chkS T N sc k r
    | _ => false
  | .ret e, sts => match sts with
    | .Return (some ex) _ :: _ => chkE T N e sc ex
    | _ => false
  | .retN, sts => match sts with
    | .Return none _ :: _ => true
    | _ => false
  | .brk, sts => match sts with
    | .Break _ :: _ => true
    | _ => false
  | .cont, sts => match sts with
    | .Continue _ :: _ => true
    | _ => false
  | .raise n, sts => match sts with
    | .Raise (some (.Call (.Name x _) [.Constant (.str _) _ _] [] _)) none _ :: _ => decide (T.ename n = some x) && glB sc x
    | _ => false
  | .drop e k, sts => match sts with
    | .Expr ex _ :: r => chkE T N e sc ex && !isComp ex && okx ex && chkS T N sc k r
    | _ => false
  | .pass k, sts => match sts with
    | .Pass _ :: r => chkS T N sc k r
    | _ => false
  | .setf i nm e k, sts => match sts with
    | .Assign [.Attribute (.Name x _) f _] ex _ :: r => decide (T.fname nm = f) && rdB N sc i x && !isComp ex && okx ex && chkE T N e sc ex && chkS T N sc k r
    | _ => false
  | .hook n k, sts => match T.hs n with
    | some f => match sts with
      | st :: r => f N sc st && chkS T N sc k r
      | _ => false
    | none => false
  | .any, _ => true
/-- the classes of errors -/
structure ExOk (C : Cfg) (T : Tb) (n : Nat) (x : Str) : Prop where
  mg : C.mg x = some (.ref (C.exa n))
  ex : PySem.W.excIn C.K (C.exa n) [.type "ValueError", .type "Exception", .type "BaseException", .type "object"] "ValueError.__new__" = true
  kp : PySem.W.keepIn C.K (.ref (C.exa n)) = true
  sb : PySem.W.subIn C.K (.ref (C.exa n)) (.type "BaseException") = some true
  ty : PySem.W.typeIn C.K (.ref (C.exa n)) = some (.type "type")
/-- a statement of another form -/
def HsOk (C : Cfg) (f : List Str → Scope → Stmt → Bool) (sem : Gam → Out) : Prop :=
  ∀ (N : List Str) (sc : Scope) (X : Cx), XOk C N sc true X → sc.kind = .function → PassesOwn (model X.prog X.w) X.A X.env X.xe → ∀ (W : WX), Takes X W → ∀ (B : Bs) (st : Stmt), f N sc st = true → ∀ Γ, PS X st (tS C B Γ W (sem Γ))
structure Wl2 (C : Cfg) (T : Tb) : Prop extends Wld C T where
  exs : ∀ n x, T.ename n = some x → ExOk C T n x
  hs : ∀ n f, T.hs n = some f → HsOk C f (C.hs n)
section
variable {C : Cfg} {T : Tb} {N : List Str} {sc : Scope} {X : Cx} {B : Bs} {W : WX}
theorem exc_mk (w : Wl2 C T) {top : Bool} (h : XOk C N sc top X) {n : Nat} {x m : Str} {j : Nat} {p p2 pos : Pos} (hx : T.ename n = some x) (hg : glB sc x = true) : PMk X (.Call (.Name x p) [.Constant (.str m) j p2] [] pos) (fun _ H Q => Q (.ref (C.exa n)) none H) := by
  have q := w.exs n x hx
  exact pmk_own PySem.F.excBase_ValueError (by rw [h.eK]; exact q.ex) (by rw [h.eM]; exact q.mg) (by rw [h.eK]; exact q.kp) (raises_own (by rw [h.eK]; exact q.sb) (by rw [h.eK]; exact q.ty)) (h.gl hg) (nm_d (glB_nm hg))
theorem snd_it (w : Wl2 C T) {top : Bool} (h : XOk C N sc top X) (tk : Takes X W) {rng : Bool} {it : E} {etg eit : Expr} (c5 : chkIt T N sc rng it eit = true) (Γ : Gam) :
    PI X etg eit (tI C B Γ W (if rng then (evL C.toMng it Γ).bind fun ds => walkD true (.tup ds) else (evE C.toMng it Γ).bind fun d => walkD false d)) := by
  unfold chkIt at c5
  cases rng with
  | true =>
    rw [if_pos rfl] at c5 ⊢
    split at c5
    · simp only [Bool.and_eq_true, decide_eq_true_eq] at c5
      obtain ⟨⟨hx, hg⟩, hl⟩ := c5
      subst hx
      exact nd_range1 w.toWld h hg (sndL w.toWld it h hl W tk B Γ)
    · simp only [Bool.and_eq_true, decide_eq_true_eq] at c5
      obtain ⟨⟨hx, hg⟩, hl⟩ := c5
      subst hx
      exact nd_range2 w.toWld h hg (sndL w.toWld it h hl W tk B Γ)
    · cases c5
  | false =>
    rw [if_neg Bool.false_ne_true] at c5 ⊢
    exact nd_iter h ((sndE w.toWld it h c5).pe W tk B Γ)
/-- a, b = x, y -/
theorem st_swp {i j : Nat} {x y a' b' : Str} {px py pa pb tp p2 pos : Pos} {kt k2 : Nat} {a b : E} {k : Sm} {rest : List Stmt} (h : XOk C N sc true X) (hk : sc.kind = .function) (hl : px.line = py.line) (hi : N[i]? = some x) (hj : N[j]? = some y) (hij : i ≠ j) (hxy : x ≠ y)
    (hx : sc.names.lookup x = some .local) (hy : sc.names.lookup y = some .local) (ha : ∀ Γ, PE X (.Name a' pa) (tD C B Γ W (evE C.toMng a Γ))) (hb : ∀ Γ, PE X (.Name b' pb) (tD C B Γ W (evE C.toMng b Γ))) (na : nmOk a' = true) (nb : nmOk b' = true) (r : PSs X rest (tK C B W k)) :
    PSs X (.Assign [.Tuple [.Name x px, .Name y py] kt tp] (.Tuple [.Name a' pa, .Name b' pb] k2 p2) pos :: rest) (tK C B W (.swp i j a b k)) := by
  have hx' : X.env.scope.names.lookup x = some .local := by rw [h.eS]; exact hx
  have hy' : X.env.scope.names.lookup y = some .local := by rw [h.eS]; exact hy
  have bk : X.env.blockKind = .function := by
    unfold Env.blockKind
    rw [h.eS, hk]
    rfl
  have hw : swappedStores [.Tuple [.Name x px, .Name y py] kt tp] (.Tuple [.Name a' pa, .Name b' pb] k2 p2) X.env = pure (some [x, y]) := by
    have e1 : (X.env.kindOf x == some .local) = true := by rw [show X.env.kindOf x = some .local from hx']; rfl
    have e2 : (X.env.kindOf y == some .local) = true := by rw [show X.env.kindOf y = some .local from hy']; rfl
    have e3 : (py.line == px.line) = true := by rw [hl]; exact beq_self_eq_true _
    have ed : ([x, y] : List Str).eraseDups = [x, y] := by
      have : (y == x) = false := beq_eq_false_iff_ne.mpr (Ne.symm hxy)
      rw [List.eraseDups_cons]
      simp [this, List.eraseDups_cons]
    have hf : foldedForSure 8 (.Name a' pa) = false := rfl
    have hcA : constantsAlone 8 (.Name a' pa) = false := nm_d na
    unfold swappedStores
    simp [bk, e1, e2, e3, ed, hf, hcA, hl]
    have p1 : (Expr.Name x px).pos.line = py.line := hl
    have k1 : X.env.kindOf x = some NameKind.local := hx'
    have k2 : X.env.kindOf y = some NameKind.local := hy'
    have fm : ∀ f : Expr → Option Str, f (.Name x px) = some x → f (.Name y py) = some y → List.filterMap f [Expr.Name x px, Expr.Name y py] = [x, y] := fun f h1 h2 => by
      rw [List.filterMap_cons_some h1, List.filterMap_cons_some h2, List.filterMap_nil]
    rw [fm _ (by show (if _ then _ else _) = _; rw [if_pos ⟨k1, rfl⟩]) (by show (if _ then _ else _) = _; rw [if_pos ⟨k2, p1.symm⟩]), ed]
    simp
  refine ⟨fun pins s0 σ H D I ⟨Γ, q⟩ => ((pss_cons (ps_par h.calm (by rw [h.eN]; exact h.nd) (by rw [h.eN]; exact hi) (by rw [h.eN]; exact hj) hij hx' hy' (pa_cons (ha Γ) (pa_cons (hb Γ) pa_nil (star_cons rfl)) (star_cons rfl)) hw) r).imp (t' := tS C B Γ W (evS C.toMng (.swp i j a b k) Γ)) fun D σ H ⟨F, s, p⟩ => ⟨F, s, by
    refine PoS.of s p fun d v F' H' er e' s' rv p' => ⟨F', s', PoS.of s' p' fun d2 v2 F2 H2 er2 e2 s2 rv2 p2 => ?_⟩
    exact ⟨v, v2, rfl, tK.mk ((s2.put_val (Rep.le e2.le _ _ rv)).put_val rv2) p2⟩⟩).run pins s0 σ H D I q⟩
theorem sndS (w : Wl2 C T) (h : XOk C N sc true X) (hk : sc.kind = .function) (hp : PassesOwn (model X.prog X.w) X.A X.env X.xe) (tk : Takes X W) : ∀ (s : Sm) (sts : List Stmt), chkS T N sc s sts = true → PSs X sts (tK C B W s)
  | .nil, sts, c => by
    unfold chkS at c
    split at c
    · exact st_nil
    · cases c
  | .asg i e k, sts, c => by
    unfold chkS at c
    split at c
    · simp only [wrB, Bool.and_eq_true, decide_eq_true_eq] at c
      obtain ⟨⟨⟨⟨c1, c2⟩, c3⟩, c4⟩, c5⟩ := c
      exact st_asg w.toWld h hk c1 c2 c3 c4 tk (sndS w h hk hp tk k _ c5)
    · cases c
  | .asgO i e k, sts, c => by
    unfold chkS at c
    split at c
    · simp only [wrB, Bool.and_eq_true, decide_eq_true_eq] at c
      obtain ⟨⟨⟨⟨⟨c1, c2⟩, c3⟩, c4⟩, c6⟩, c5⟩ := c
      exact st_asgO w.toWld h hk c1 c2 c3 c4 c6 tk (sndS w h hk hp tk k _ c5)
    · cases c
  | .newK i k, sts, c => by
    unfold chkS at c
    split at c
    · simp only [wrB, Bool.and_eq_true, decide_eq_true_eq] at c
      exact st_newK h c.1.1 c.1.2 (sndS w h hk hp tk k _ c.2)
    · cases c
  | .newT i k, sts, c => by
    unfold chkS at c
    split at c
    · simp only [wrB, Bool.and_eq_true, decide_eq_true_eq] at c
      exact st_newT h c.1.1 c.1.2 (sndS w h hk hp tk k _ c.2)
    · cases c
  | .unp is e k, sts, c => by
    unfold chkS at c
    split at c
    · simp only [Bool.and_eq_true, decide_eq_true_eq] at c
      obtain ⟨⟨⟨⟨c1, c2⟩, c3⟩, c4⟩, c5⟩ := c
      exact st_unp h (fun Γ => (sndE w.toWld e h c1).pe W tk B Γ) c2 c3 c4 (sndS w h hk hp tk k _ c5)
    · cases c
  | .swp i j a b k, sts, c => by
    unfold chkS at c
    split at c
    · simp only [Bool.and_eq_true, decide_eq_true_eq] at c
      obtain ⟨⟨⟨⟨⟨⟨⟨⟨⟨c1, c2⟩, c3⟩, c4⟩, c5⟩, c6⟩, c7⟩, c8⟩, c9⟩, c10⟩ := c
      split at c8
      · split at c9
        · simp only [rdB, Bool.and_eq_true, decide_eq_true_eq] at c8 c9
          exact st_swp h hk c1 c2 c3 c4 c5 c6 c7 (fun Γ => nd_var h c8.1.1 c8.1.2 c8.2) (fun Γ => nd_var h c9.1.1 c9.1.2 c9.2) c8.2 c9.2 (sndS w h hk hp tk k _ c10)
        · cases c9
      · cases c8
    · cases c
  | .aug i op e k, sts, c => by
    unfold chkS at c
    split at c
    · simp only [wrB, Bool.and_eq_true, decide_eq_true_eq] at c
      obtain ⟨⟨⟨⟨c1, c2⟩, c3⟩, c4⟩, c5⟩ := c
      exact st_aug h c3 c1 c2 (fun Γ => (sndE w.toWld e h c4).pe W tk B Γ) (sndS w h hk hp tk k _ c5)
    · cases c
  | .app i e k, sts, c => by
    unfold chkS at c
    split at c
    · simp only [rdB, Bool.and_eq_true, decide_eq_true_eq] at c
      obtain ⟨⟨⟨⟨⟨c0, ⟨⟨c1, c2⟩, c3⟩⟩, c4⟩, c5⟩, c6⟩, c7⟩ := c
      subst c0
      exact st_app h c1 c2 c3 c4 c6 (fun Γ => (sndE w.toWld e h c5).pe W tk B Γ) (sndS w h hk hp tk k _ c7)
    · cases c
  | .ext i e k, sts, c => by
    unfold chkS at c
    split at c
    · simp only [rdB, Bool.and_eq_true, decide_eq_true_eq] at c
      obtain ⟨⟨⟨⟨⟨c0, ⟨⟨c1, c2⟩, c3⟩⟩, c4⟩, c5⟩, c6⟩, c7⟩ := c
      subst c0
      exact st_ext h c1 c2 c3 c4 c6 (fun Γ => (sndE w.toWld e h c5).pe W tk B Γ) (sndS w h hk hp tk k _ c7)
    · cases c
  | .pop i j k, sts, c => by
    unfold chkS at c
    split at c
    · simp only [rdB, wrB, Bool.and_eq_true, decide_eq_true_eq] at c
      obtain ⟨⟨⟨⟨⟨c0, c1, c2⟩, ⟨⟨c3, c4⟩, c5⟩⟩, c6⟩, c7⟩, c8⟩ := c
      subst c0
      exact st_pop h c1 c2 c3 c4 c5 c6 c7 (sndS w h hk hp tk k _ c8)
    · cases c
  | .seti i a e k, sts, c => by
    unfold chkS at c
    split at c
    · simp only [rdB, Bool.and_eq_true, decide_eq_true_eq, Bool.not_eq_true'] at c
      obtain ⟨⟨⟨⟨⟨⟨⟨⟨c1, c2⟩, c3⟩, c4⟩, c5⟩, c6⟩, c7⟩, c8⟩, c9⟩ := c
      exact st_seti h c1 c2 c3 c4 c5 c6 (fun Γ => (sndE w.toWld e h c7).pe W tk B Γ) (fun Γ => (sndE w.toWld a h c8).pe W tk B Γ) (sndS w h hk hp tk k _ c9)
    · cases c
  | .frz i k, sts, c => by
    unfold chkS at c
    exact st_frz (sndS w h hk hp tk k _ c)
  | .ifs cc a b k, sts, c => by
    unfold chkS at c
    split at c
    · simp only [Bool.and_eq_true] at c
      obtain ⟨⟨⟨c1, c2⟩, c3⟩, c4⟩ := c
      exact st_if (fun Γ => (sndE w.toWld cc h c1).pt W tk B Γ) (sndS w h hk hp tk a _ c2) (sndS w h hk hp tk b _ c3) (sndS w h hk hp tk k _ c4)
    · cases c
  | .loop tg kl rng it body k, sts, c => by
    unfold chkS at c
    split at c
    · simp only [Bool.and_eq_true] at c
      obtain ⟨⟨⟨⟨c1, c2⟩, c3⟩, c4⟩, c5⟩ := c
      exact st_for h hp (fun Γ => snd_it w h tk c1 Γ) c2 c3 (sndS w h hk hp tk body _ c4) (sndS w h hk hp tk k _ c5)
    · cases c
  | .whl kl cc body k, sts, c => by
    unfold chkS at c
    split at c
    · simp only [Bool.and_eq_true] at c
      obtain ⟨⟨c1, c4⟩, c5⟩ := c
      exact st_while hp (fun Γ => (sndE w.toWld cc h c1).pt W tk B Γ) (sndS w h hk hp tk body _ c4) (sndS w h hk hp tk k _ c5)
    · cases c
  | .ret e, sts, c => by
    unfold chkS at c
    split at c
    · exact st_ret (fun Γ => (sndE w.toWld e h c).pe W tk B Γ)
    · cases c
  | .retN, sts, c => by
    unfold chkS at c
    split at c
    · exact st_retN
    · cases c
  | .brk, sts, c => by
    unfold chkS at c
    split at c
    · exact st_brk
    · cases c
  | .cont, sts, c => by
    unfold chkS at c
    split at c
    · exact st_cont
    · cases c
  | .raise n, sts, c => by
    unfold chkS at c
    split at c
    · simp only [Bool.and_eq_true, decide_eq_true_eq] at c
      exact st_raise h tk (exc_mk w h c.1 c.2)
    · cases c
  | .drop e k, sts, c => by
    unfold chkS at c
    split at c
    · simp only [Bool.and_eq_true, Bool.not_eq_true'] at c
      obtain ⟨⟨⟨c1, c2⟩, c3⟩, c4⟩ := c
      exact st_drop (fun Γ => (sndE w.toWld e h c1).pe W tk B Γ) c2 c3 (sndS w h hk hp tk k _ c4)
    · cases c
  | .pass k, sts, c => by
    unfold chkS at c
    split at c
    · exact st_pass (sndS w h hk hp tk k _ c)
    · cases c
  | .setf i nm e k, sts, c => by
    unfold chkS at c
    split at c
    · simp only [rdB, Bool.and_eq_true, decide_eq_true_eq, Bool.not_eq_true'] at c
      obtain ⟨⟨⟨⟨⟨c0, ⟨⟨c1, c2⟩, c3⟩⟩, c4⟩, c5⟩, c6⟩, c7⟩ := c
      exact st_setf w.toWld h c0 c1 c2 c3 c4 c5 (fun Γ => (sndE w.toWld e h c6).pe W tk B Γ) (sndS w h hk hp tk k _ c7)
    · cases c
  | .hook n k, sts, c => by
    unfold chkS at c
    split at c
    · rename_i f hf
      split at c
      · simp only [Bool.and_eq_true] at c
        exact ⟨fun pins s0 σ H D I ⟨Γ, q⟩ => ((pss_cons (w.hs n f hf N sc X h hk hp W tk B _ c.1 Γ) (sndS w h hk hp tk k _ c.2)).imp (t' := tS C B Γ W (evS C.toMng (.hook n k) Γ)) fun D σ H ⟨F, s, p⟩ => ⟨F, s, PoS.seq p⟩).run pins s0 σ H D I q⟩
      · cases c
    · cases c
  | .any, sts, c => ⟨fun pins s0 σ H D I ⟨Γ, F, s, p⟩ => False.elim p⟩
end
end G

set_option Elab.async false
set_option linter.all false
set_option maxRecDepth 100000
set_option maxHeartbeats 4000000
/-! GL: a def whose text is checked keeps the promise that its evaluation tells; calls. -/
namespace G
open PySem L2

/-- a promise by data -/
def spP (C : Cfg) (n : Nat) (sem : List D → R D) : Sp := fun vs H Q E => ∃ F ds, Fits C F H ∧ RepL C F vs ds ∧ vs.length = n ∧ Po C (RpD C) F H (sem ds) Q (fun c H' => E (.ref (C.exa c)) none H')
def outR : Out → R D
  | .next _ => .ok .non
  | .ret d => .ok d
  | .exc c _ => .exc c
  | _ => .bad
/-- the names at the start: the arguments, then nothing -/
def gam0 (N : List Str) (ds : List D) : Gam := ds.map Cell.val ++ List.replicate (N.length - ds.length) .dead
/-- .. of an __init__: a new instance ahead -/
def gamI (N : List Str) (c : Nat) (ds : List D) : Gam := Cell.ownI c [] :: (ds.map Cell.val ++ List.replicate (N.length - (ds.length + 1)) .dead)
def doneI (M : Mng) (c : Nat) : Gam → R D
  | .ownI e l :: _ => if e = c ∧ l.length = (M.flds c).length then .ok (.obj c l) else .bad
  | _ => .bad
def outI (M : Mng) (c : Nat) : Out → R D
  | .next Γ => doneI M c Γ
  | .exc e _ => .exc e
  | _ => .bad
abbrev Cfg.at (C : Cfg) (j : Nat) : Cfg := { C with J := j }
abbrev FnP (C : Cfg) (k : Nat) (f : Addr) (fd : FuncData) (ps : List Str) (sp : Sp) : Prop := FnOk C.P C.w C.K C.mg C.base (L2.CX C.P C.w) k f fd ps sp

section
variable {C : Cfg} {T : Tb} {N ps : List Str} {F0 : Wd} {H : Hp} {vs : List V} {ds : List D}
theorem gam0_len (hl : ps.length ≤ N.length) (e : ds.length = ps.length) : (gam0 N ds).length = N.length := by
  unfold gam0
  simp
  omega
theorem slots0 {B : Bs} {k : Nat} (r : RepL C F0 vs ds) : ∀ (i : Nat) (c : Cell), (ds.map Cell.val ++ List.replicate k .dead)[i]? = some c → SlotOk C B F0 H ((vs.map some ++ List.replicate k none)[i]?.join) c := by
  intro i c h
  have hl := r.len
  by_cases hi : i < ds.length
  · rw [List.getElem?_append_left (by simpa using hi), List.getElem?_map] at h
    cases e : ds[i]? with
    | none => rw [e] at h; cases h
    | some d =>
      rw [e] at h
      cases h
      obtain ⟨v, hv, rv⟩ := r.get e
      refine ⟨v, ?_, rv⟩
      rw [List.getElem?_append_left (by simp; omega), List.getElem?_map, hv]
      rfl
  · rw [List.getElem?_append_right (by simp; omega), List.getElem?_replicate] at h
    split at h
    · cases h; trivial
    · cases h
theorem cells0 {k : Nat} : ∀ (i : Nat) (c : Cell), (ds.map Cell.val ++ List.replicate k Cell.dead)[i]? = some c → c.own = false := by
  intro i c h
  by_cases hi : i < ds.length
  · rw [List.getElem?_append_left (by simpa using hi), List.getElem?_map] at h
    cases e : ds[i]? with
    | none => rw [e] at h; cases h
    | some d => rw [e] at h; cases h; rfl
  · rw [List.getElem?_append_right (by simp; omega), List.getElem?_replicate] at h
    split at h
    · cases h; rfl
    · cases h
theorem start_SR (f : Fits C F0 H) (r : RepL C F0 vs ds) : SR C ⟨F0, H, 0⟩ F0 H (L2.start N vs) (gam0 N ds) := by
  have hl := r.len
  have e  : L2.start N vs = vs.map some ++ List.replicate (N.length - ds.length) none := by unfold L2.start; rw [hl]
  rw [e]
  refine ⟨f, Ext.refl _ _, by unfold gam0; simp [hl], slots0 r, fun i j c c' a h1 h2 o1 o2 _ _ => ?_⟩
  rw [cells0 i c h1] at o1; cases o1
/-- with a new instance ahead -/
theorem startI_SR {H1 : Hp} {p dx : Addr} {c : Nat} (f : Fits C F0 H1) (r : RepL C F0 vs ds) (hp : H1 p = none) (hd : H1 dx = none) (hne : dx ≠ p) :
    SR C ⟨F0, H1, p⟩ F0 (upd (upd H1 dx (.own p)) p (.ins (C.cls c) dx [])) (L2.start N (.ref p :: vs)) (gamI N c ds) := by
  have hl := r.len
  have e  : L2.start N (.ref p :: vs) = some (.ref p) :: (vs.map some ++ List.replicate (N.length - (ds.length + 1)) none) := by unfold L2.start; simp [hl]
  rw [e]
  have hp2 : upd H1 dx (.own p) p = none := by rw [upd_ne (Ne.symm hne)]; exact hp
  have ef : Ext F0 H1 F0 (upd (upd H1 dx (.own p)) p (.ins (C.cls c) dx [])) := ((Ext.refl F0 H1).fresh hd).fresh hp
  refine ⟨(f.fresh hd).fresh hp2, ef, by unfold gamI; simp [hl], fun i c' h => ?_, fun i j c1 c2 a h1 h2 o1 o2 _ _ => ?_⟩
  · cases i with
    | zero =>
      cases h
      exact ⟨p, [], rfl, rfl, f.free hp, hp, ⟨dx, by rw [upd_same]; simp⟩, rfl⟩
    | succ i => exact slots0 (k := N.length - (ds.length + 1)) r i c' h
  · have key : ∀ (i : Nat) (c' : Cell), (gamI N c ds)[i]? = some c' → c'.own = true → i = 0 := by
      intro i c' h o
      cases i with
      | zero => rfl
      | succ i =>
        have := cells0 (k := N.length - (ds.length + 1)) i c' h
        rw [this] at o; cases o
    rw [key i c1 h1 o1, key j c2 h2 o2]

variable {x qual : Str} {st : Stmt} {f : Addr} {fd : FuncData} {body : Sm} {sem : List D → R D}
theorem xok_def {Pp : Program} {w : World} {K : PySem.W.Frag} {mg : Str → Option Value} {base : Heap} (eP : Pp = C.P) (eW : w = C.w) (eK : K = C.K) (eM : mg = C.mg) (eB : base = C.base) {sc : Scope} (nd : N.Nodup) {cdv : Value} {A : Around} {outer : List Env} {s : Shared} {H : Hp} {E : XK}
    (hr : Room C.J (A.deeper (PyProof.Rows.envOfC qual sc s.heap.objs.size f cdv))) : XOk C N sc true (cxOf (L2.CX Pp w) Pp w K mg base N qual sc f cdv A outer s H E) :=
  ⟨eP, eW, eK, eM, eB, rfl, rfl, nd, rfl, hr, fun _ _ => rfl⟩
theorem def_ok (w2 : Wl2 C T) (F : Fun C.K x qual st f fd) (S : FnScope N ps (defScope st)) (hc : chkS T N (defScope st) body (defBody st) = true)
    (hs : ∀ ds, ds.length = ps.length → sem ds ≠ .bad → outR (evS C.toMng body (gam0 N ds)) = sem ds) : FnP C (C.J + 1) f fd ps (spP C ps.length sem) := by
  refine F.okX S (fun vs H Q E h => ?_) (fun cdv A outer s H vs Q E hr h => ?_)
  · obtain ⟨_, _, _, _, e, _⟩ := h
    exact e
  · obtain ⟨F0, ds, ft, r, e, p⟩ := h
    have hx : XOk C N (defScope st) true _ := xok_def (Pp := C.P) (E := E) (H := H) (s := s) (outer := outer) (cdv := cdv) rfl rfl rfl rfl rfl S.nd hr
    refine ⟨_, sndS (B := ⟨F0, H, 0⟩) (W := fun cls d _ H => E cls d H) w2 hx S.kind (passes_of rfl) (takes_of rfl rfl rfl rfl) body _ hc, ?_⟩
    refine ⟨gam0 N ds, F0, start_SR ft r, ?_⟩
    have hsem := hs ds (by rw [← r.len, e])
    cases eo : sem ds with
    | bad => rw [eo] at p; exact False.elim p
    | ok d =>
      rw [eo] at p hsem
      have hsem := hsem (fun z => by cases z)
      cases ev : evS C.toMng body (gam0 N ds) with
      | next Γ =>
        rw [ev] at hsem
        cases hsem
        exact fun σ F' H' sr _ => p _ F' H' sr.ext sr.fits rfl
      | ret d' =>
        rw [ev] at hsem
        cases hsem
        exact fun v F' H' fi ex rv => p v F' H' ex fi rv
      | brk Γ => rw [ev] at hsem; cases hsem
      | cont Γ => rw [ev] at hsem; cases hsem
      | exc c Γ => rw [ev] at hsem; cases hsem
      | bad => rw [ev] at hsem; cases hsem
    | exc c0 =>
      rw [eo] at p hsem
      have hsem := hsem (fun z => by cases z)
      cases ev : evS C.toMng body (gam0 N ds) with
      | exc c Γ =>
        rw [ev] at hsem
        cases hsem
        exact fun σ F' H' sr => p F' H' sr.ext sr.fits
      | next Γ => rw [ev] at hsem; cases hsem
      | ret d' => rw [ev] at hsem; cases hsem
      | brk Γ => rw [ev] at hsem; cases hsem
      | cont Γ => rw [ev] at hsem; cases hsem
      | bad => rw [ev] at hsem; cases hsem

/-! ### __init__ -/
def spI (C : Cfg) (c n : Nat) (sem : List D → R D) : Sp := fun vs H Q E => ∃ F ds H1 p dx us, vs = .ref p :: us ∧ H1 p = none ∧ H1 dx = none ∧ dx ≠ p ∧ H = upd (upd H1 dx (.own p)) p (.ins (C.cls c) dx []) ∧
  Fits C F H1 ∧ RepL C F us ds ∧ us.length + 1 = n ∧ Po C (RpD C) F H1 (sem ds) (fun v H' => v = .ref p → Q .non H') (fun e H' => E (.ref (C.exa e)) none H')
theorem init_ok {c : Nat} (w2 : Wl2 C T) (F : Fun C.K x qual st f fd) (S : FnScope N ps (defScope st)) (hc : chkS T N (defScope st) body (defBody st) = true)
    (hs : ∀ ds, ds.length + 1 = ps.length → sem ds ≠ .bad → outI C.toMng c (evS C.toMng body (gamI N c ds)) = sem ds) : FnP C (C.J + 1) f fd ps (spI C c ps.length sem) := by
  refine F.okX S (fun vs H Q E h => ?_) (fun cdv A outer s H vs Q E hr h => ?_)
  · obtain ⟨_, _, _, _, _, us, rfl, _, _, _, _, _, _, e, _⟩ := h
    exact e
  · obtain ⟨F0, ds, H1, a, dx, us, rfl, ha, hd, hne, rfl, ft, r, e, p⟩ := h
    have hx : XOk C N (defScope st) true _ := xok_def (Pp := C.P) (E := E) (H := (upd (upd H1 dx (.own a)) a (.ins (C.cls c) dx []))) (s := s) (outer := outer) (cdv := cdv) rfl rfl rfl rfl rfl S.nd hr
    refine ⟨_, sndS (B := ⟨F0, H1, a⟩) (W := fun cls d _ H => E cls d H) w2 hx S.kind (passes_of rfl) (takes_of rfl rfl rfl rfl) body _ hc, ?_⟩
    have s0 := startI_SR (N := N) (c := c) ft r ha hd hne
    refine ⟨gamI N c ds, F0, s0, ?_⟩
    have hsem := hs ds (by rw [← r.len, e])
    cases ev : evS C.toMng body (gamI N c ds) with
    | next Γ =>
      rw [ev] at hsem
      have slot0 : ∀ σ F' H', SR C ⟨F0, H1, a⟩ F' H' σ Γ → True := fun _ _ _ _ => trivial
      cases eo : sem ds with
      | bad => rw [eo] at p; exact False.elim p
      | exc c0 =>
        rw [eo] at hsem
        have hsem : doneI C.toMng c Γ = .exc c0 := hsem (fun z => by cases z)
        unfold doneI at hsem
        split at hsem
        · split at hsem <;> cases hsem
        · cases hsem
      | ok d =>
        rw [eo] at hsem p
        have hsem : doneI C.toMng c Γ = .ok d := hsem (fun z => by cases z)
        unfold doneI at hsem
        split at hsem
        · rename_i c1 l Γr _
          split at hsem
          · rename_i hcl
            obtain ⟨rfl, hl⟩ := hcl
            cases hsem
            intro σ F' H' sr _
            obtain ⟨b, xs, e1, me, fa, ba, ⟨dx', hb⟩, rl⟩ := sr.sl 0 _ rfl
            subst me
            have htk : (C.flds c1).take l.length = C.flds c1 := by rw [hl]; exact List.take_length
            rw [htk] at hb
            refine p (.ref b) _ H' (sr.ext.adopt fa ba) (sr.fits.adopt fa hb) ⟨b, dx', xs, rfl, updW_same, by rw [rl.len, hl], RepL.le (le_upd fa) _ _ rl⟩ rfl
          · cases hsem
        · cases hsem
    | ret d' =>
      exfalso
      rw [ev] at hsem
      cases eo : sem ds with
      | bad => rw [eo] at p; exact False.elim p
      | exc c0 => rw [eo] at hsem; have := hsem (fun z => by cases z); cases this
      | ok d => rw [eo] at hsem; have := hsem (fun z => by cases z); cases this
    | brk Γ =>
      exfalso
      rw [ev] at hsem
      cases eo : sem ds with
      | bad => rw [eo] at p; exact False.elim p
      | exc c0 => rw [eo] at hsem; have := hsem (fun z => by cases z); cases this
      | ok d => rw [eo] at hsem; have := hsem (fun z => by cases z); cases this
    | cont Γ =>
      exfalso
      rw [ev] at hsem
      cases eo : sem ds with
      | bad => rw [eo] at p; exact False.elim p
      | exc c0 => rw [eo] at hsem; have := hsem (fun z => by cases z); cases this
      | ok d => rw [eo] at hsem; have := hsem (fun z => by cases z); cases this
    | exc c0 Γ =>
      rw [ev] at hsem
      cases eo : sem ds with
      | bad => rw [eo] at p; exact False.elim p
      | ok d => rw [eo] at hsem; have := hsem (fun z => by cases z); cases this
      | exc c1 =>
        rw [eo] at hsem p
        have := hsem (fun z => by cases z)
        cases this
        exact fun σ F' H' sr => p F' H' sr.ext sr.fits
    | bad =>
      exfalso
      rw [ev] at hsem
      cases eo : sem ds with
      | bad => rw [eo] at p; exact False.elim p
      | exc c0 => rw [eo] at hsem; have := hsem (fun z => by cases z); cases this
      | ok d => rw [eo] at hsem; have := hsem (fun z => by cases z); cases this
end
end G

set_option Elab.async false
set_option linter.all false
set_option maxRecDepth 100000
set_option maxHeartbeats 4000000
/-! GM: calls of checked defs. -/
namespace G
open PySem L2
mutual
theorem Rep_at (C : Cfg) (j : Nat) (F : Wd) : ∀ (d : D) (v : V), Rep (C.at j) F v d = Rep C F v d
  | .non, _ => rfl
  | .bl _, _ => rfl
  | .int _, _ => rfl
  | .str _, _ => rfl
  | .tup l, v => by rw [Rep, Rep]; simp only [RepL_at C j F l]
  | .lst l, v => by rw [Rep, Rep]; simp only [RepL_at C j F l]
  | .obj c l, v => by rw [Rep, Rep]; simp only [RepL_at C j F l]; rfl
  | .scr l, v => rfl
  | .dt ks l, v => by rw [Rep, Rep]; simp only [RepL_at C j F l]
  | .cache m, v => rfl
theorem RepL_at (C : Cfg) (j : Nat) (F : Wd) : ∀ (l : List D) (vs : List V), RepL (C.at j) F vs l = RepL C F vs l
  | [], _ => rfl
  | d :: ds, vs => by rw [RepL, RepL]; simp only [Rep_at C j F d, RepL_at C j F ds]
end
theorem RpD_at (C : Cfg) (j : Nat) : RpD (C.at j) = RpD C := by funext F H v d; exact Rep_at C j F d v
theorem Po_at {α β : Type} (C : Cfg) (j : Nat) {Rp : Wd → Hp → β → α → Prop} {F : Wd} {H : Hp} {r : R α} {Q : β → Hp → Prop} {Ex : Nat → Hp → Prop} : Po (C.at j) Rp F H r Q Ex = Po C Rp F H r Q Ex := by
  cases r <;> rfl
theorem at_sp (C : Cfg) (j n : Nat) (sem : List D → R D) : spP (C.at j) n sem = spP C n sem := by
  funext vs H Q E
  unfold spP
  simp only [RepL_at, Po_at, RpD_at]
  rfl
theorem at_spI (C : Cfg) (j c n : Nat) (sem : List D → R D) : spI (C.at j) c n sem = spI C c n sem := by
  funext vs H Q E
  unfold spI
  simp only [RepL_at, Po_at, RpD_at]
  rfl
section
variable {C : Cfg} {T : Tb} {X : Cx} {B : Bs} {Γ : Gam} {W : WX} {N ps : List Str} {sc : Scope} {top : Bool} {F0 : Wd} {H : Hp} {vs : List V} {ds : List D} {k n : Nat} {f : Addr} {fd : FuncData} {x m : Str} {sem : List D → R D} {es : List Expr} {rs : R (List D)} {p pos : Pos}
theorem XOk.fn (h : XOk C N sc top X) {k : Nat} {f : Addr} {fd : FuncData} {ps : List Str} {sp : Sp} (F : FnP C k f fd ps sp) : FnOk X.prog X.w X.K X.mg X.base (L2.CX X.prog X.w) k f fd ps sp := by
  rw [h.eP, h.eW, h.eK, h.eM, h.eB]; exact F
/-- the arguments, then the promise -/
theorem PL.call (h : PL C X B Γ W es rs) {σ : L2.St} {H : Hp} {Q : VK} (q : tD C B Γ W (rs.bind sem) σ H Q) (hn : es.length = n) : tL C B Γ W rs σ H fun vs H1 => spP C n sem vs H1 Q (WE W σ) := by
  obtain ⟨F, s, p⟩ := q
  exact ⟨F, s, p.bind.mono fun vs H1 ⟨F1, ds, e1, f1, r1, er, p1⟩ => ⟨F1, ds, f1, r1, by rw [r1.len, h.len er, hn], p1⟩⟩
/-- a def called by its name -/
theorem cb_fn (hk : k ≤ C.J) (F : FnP C k f fd ps (spP C n sem)) (hm : C.mg x = some (.ref f)) (hkp : PySem.W.keepIn C.K (.ref f) = true) (hb : Binds C.K fd ps []) : CbOk C (cbArgs (.fn x) n) sem := by
  intro N sc top X h W tk B Γ ex es rs ha hl
  unfold cbArgs at ha
  dsimp only at ha
  split at ha
  · rename_i y p args pos
    split at ha
    · rename_i hc
      obtain ⟨rfl, hg, hlen⟩ := hc
      cases ha
      have hm' : X.mg y = some (.ref f) := by rw [h.eM]; exact hm
      have hkp' : PySem.W.keepIn X.K (.ref f) = true := by rw [h.eK]; exact hkp
      have hb' : Binds X.K fd ps [] := by rw [h.eK]; exact hb
      have pe : PE X (.Call (.Name y p) es [] pos) (tD C B Γ W (rs.bind sem)) := by
        cases es with
        | nil =>
          refine ⟨fun pins s σ H Q I q => ?_⟩
          refine wpAny_Call_Name_kw (ld_glob I (h.gl hg) hm' ?_ (nm_d (glB_nm hg)))
          obtain ⟨F9, sr, p⟩ := q
          rw [hl.nil_inv] at p
          exact PySem.W.callWith_K0 I.kIn hkp' (run_fnS (us := []) (E := WE W) (h.fn F) (h.room.mono hk) hb' (passAt tk σ) I .nil ⟨F9, [], sr.fits, rfl, hlen, p⟩)
        | cons e es =>
          have o := hl.ok
          simp only [List.all_cons, Bool.and_eq_true] at o
          exact (pe_callS (E := WE W) (h.fn F) (h.room.mono hk) (h.gl hg) hm' hkp' hb' (fun σ => passAt tk σ) hl.pa (nm_d (glB_nm hg)) (star_cons o.1) (star_any o.2)).imp fun σ H Q q => hl.call q hlen
      exact ⟨pe, nd_truth h pe (fun _ => rfl)⟩
    · cases ha
  · cases ha

/-! ### making an instance -/
theorem run_makeS {pins : List (Addr × Obj)} {σ : L2.St} {H : Hp} {s : Shared} {Q : VK} {us : List Value} {vs : List V} {CX : CXT} {Cl : Addr} {sp : Sp} {E : L2.St → XK} (M : Mk X.K Cl f) (F : FnOk X.prog X.w X.K X.mg X.base CX k f fd ps sp) (hr : Room (k + 1) X.A) (hb : Binds X.K fd ps [])
    (hx : PassesAt CX X σ (E σ)) (I : Inv X pins σ H s) (r : Vals vs us)
    (h : ∀ x dx, H x = none → H dx = none → dx ≠ x → sp (.ref x :: vs) (upd (upd H dx (.own x)) x (.ins Cl dx [])) (fun v H2 => v = .non ∧ Q (.ref x) H2) (E σ)) :
    wpAny (model X.prog X.w) X.A (call (.ref Cl) us) (EP X pins σ Q) X.xe s := by
  have hq := h (s.heap.objs.size + 1) s.heap.objs.size (I.hok.fresh (Nat.le_succ _)) (I.hok.fresh (Nat.le_refl _)) (Nat.ne_of_lt (Nat.lt_succ_self _))
  have I2 := Inv.made (C := Cl) I
  have r2 : Vals (V.ref (s.heap.objs.size + 1) :: vs) (Value.ref (s.heap.objs.size + 1) :: us) := .cons rfl r
  have hl : (Value.ref (s.heap.objs.size + 1) :: us).length = ps.length := by
    have e := r2.length
    rw [F.len _ _ _ _ hq] at e
    exact e.symm
  have b := hb _ (Value.ref (s.heap.objs.size + 1) :: us) I2.kIn (by rw [List.append_nil]; exact hl)
  rw [List.append_nil] at b
  refine wpAny_call (make_map (f := f) I.kIn M.makes M.init (beq_iff_eq.mp M.fn) (codeAny_mono (F.run _ X.stack _ _ ⟨Value.ref (s.heap.objs.size + 1) :: us, []⟩ (Value.ref (s.heap.objs.size + 1) :: us) _ _ (E σ) (hr.make Cl us [])
    (I2.env0.make Cl us []) b r2 hq) fun r s' hq' => ?_))
  cases r with
  | error e => exact hx pins _ _ e s' I2 hq'
  | ok fl =>
    cases fl with
    | ret u =>
      obtain ⟨v, H', I3, rv, ev, q3⟩ := I2.after hq'
      subst ev
      exact ⟨rv, ⟨V.ref (s.heap.objs.size + 1), H', I3, rfl, q3⟩⟩
    | next => exact False.elim hq'
    | brk => exact False.elim hq'
    | cont => exact False.elim hq'
theorem cb_make {c : Nat} (hk : k + 1 ≤ C.J) (F : FnP C k f fd ps (spI C c (n + 1) sem)) (M : Mk C.K (C.cls c) f) (hm : C.mg x = some (.ref (C.cls c))) (hb : Binds C.K fd ps []) : CbOk C (cbArgs (.fn x) n) sem := by
  intro N sc top X h W tk B Γ ex es rs ha hl
  unfold cbArgs at ha
  dsimp only at ha
  split at ha
  · rename_i y p args pos
    split at ha
    · rename_i hc
      obtain ⟨rfl, hg, hlen⟩ := hc
      cases ha
      have hm' : X.mg y = some (.ref (C.cls c)) := by rw [h.eM]; exact hm
      have M' : Mk X.K (C.cls c) f := by rw [h.eK]; exact M
      have hb' : Binds X.K fd ps [] := by rw [h.eK]; exact hb
      have pe : PE X (.Call (.Name y p) es [] pos) (tD C B Γ W (rs.bind sem)) := by
        have key : ∀ {σ : L2.St} {H1 : Hp} {Q : VK} {vs : List V} {F1 : Wd} {ds : List D}, Fits C F1 H1 → RepL C F1 vs ds → vs.length = n → Po C (RpD C) F1 H1 (sem ds) Q (Wx C W σ) →
            ∀ x dx, H1 x = none → H1 dx = none → dx ≠ x → spI C c (n + 1) sem (.ref x :: vs) (upd (upd H1 dx (.own x)) x (.ins (C.cls c) dx [])) (fun v H2 => v = .non ∧ Q (.ref x) H2) (WE W σ) := by
          intro σ H1 Q vs F1 ds f1 r1 hl1 p1 x dx hx hdx hne
          exact ⟨F1, ds, H1, x, dx, vs, rfl, hx, hdx, hne, rfl, f1, r1, by rw [hl1], p1.mono fun v H' q e => ⟨rfl, by rw [← e]; exact q⟩⟩
        cases es with
        | nil =>
          refine ⟨fun pins s σ H Q I q => ?_⟩
          refine wpAny_Call_Name_kw (ld_glob I (h.gl hg) hm' ?_ (nm_d (glB_nm hg)))
          obtain ⟨F9, sr, p⟩ := q
          rw [hl.nil_inv] at p
          exact PySem.W.callWith_K0 I.kIn M'.kp (run_makeS (us := []) (E := WE W) M' (h.fn F) (h.room.mono hk) hb' (passAt tk σ) I .nil (key (vs := []) (ds := []) sr.fits rfl hlen p))
        | cons e es =>
          have o := hl.ok
          simp only [List.all_cons, Bool.and_eq_true] at o
          refine ⟨fun pins s σ H Q I q => ?_⟩
          obtain ⟨F2, sr, p⟩ := q
          refine wpAny_Call_Name_kw (ld_glob I (h.gl hg) hm' ?_ (nm_d (glB_nm hg)))
          refine PySem.W.callWith_K (h₀ := X.base) I.ok.mod.kin M'.kp (thn (hl.pa.run pos pins s σ H _ I ⟨F2, sr, p.bind⟩) fun us s1 ⟨vs, H1, I1, r, q⟩ => ⟨I1.kIn, ?_⟩) (star_cons o.1) (star_any o.2)
          obtain ⟨F1, ds, e1, f1, r1, er, p1⟩ := q
          exact run_makeS (E := WE W) M' (h.fn F) (h.room.mono hk) hb' (passAt tk σ) I1 r (key f1 r1 (by rw [r1.len, hl.len er, hlen]) p1)
      exact ⟨pe, nd_truth h pe (fun _ => rfl)⟩
    · cases ha
  · cases ha
end
end G

set_option Elab.async false
set_option linter.all false
set_option maxRecDepth 100000
set_option maxHeartbeats 4000000
/-! GN: other forms: class attributes, f-strings, the own dunders. -/
namespace G
open PySem L2
section
variable {C : Cfg} {T : Tb} {X : Cx} {B : Bs} {Γ : Gam} {W : WX} {N ps : List Str} {sc : Scope} {top : Bool} {F0 : Wd} {H : Hp} {vs : List V} {ds : List D} {k n : Nat} {f g : Addr} {fd : FuncData} {x m : Str} {sem : List D → R D} {es : List Expr} {rs : R (List D)} {p pos : Pos}

/-! ### an attribute of a class -/
def catArgs (x m : Str) (sc : Scope) (ex : Expr) : Option (List Expr) :=
  match ex with
  | .Attribute (.Name y _) m' _ => if y = x ∧ m' = m ∧ glB sc y = true then some [] else none
  | _ => none
theorem cb_cattr {Cl : Addr} {mc : Value} {v : V} {u : Value} {d : D} (hm : C.mg x = some (.ref Cl)) (r : ClX.CRead C.K Cl mc) (kk : ClX.CVal C.K Cl mc m v u) (hv : ∀ F, Rep C F v d) : CbOk C (catArgs x m) (fun _ => .ok d) := by
  intro N sc top X h W tk B Γ ex es rs ha hl
  unfold catArgs at ha
  split at ha
  · rename_i y p m' pos
    split at ha
    · rename_i hc
      obtain ⟨rfl, rfl, hg⟩ := hc
      cases ha
      have pe : PE X (.Attribute (.Name y p) m' pos) (tD C B Γ W (rs.bind fun _ => .ok d)) := by
        rw [hl.nil_inv]
        refine (ClX.pe_cval (pe_glob (v := .ref Cl) (h.gl hg) (by rw [h.eM]; exact hm) rfl (nm_d (glB_nm hg))) (attr_ok rfl)).imp fun σ H Q ⟨F, s, p⟩ => ?_
        exact ⟨Cl, mc, v, u, rfl, by rw [h.eK]; exact r, by rw [h.eK]; exact kk, Po.now p s.fits (hv F)⟩
      exact ⟨pe, nd_truth h pe (fun _ => rfl)⟩
    · cases ha
  · cases ha

/-! ### f-strings -/
def jsArgs (sc : Scope) (ex : Expr) : Option (List Expr) := match ex with
  | .JoinedStr (a :: b :: r) _ => some (a :: b :: r)
  | _ => none
def joinT : List D → Option (List Nat)
  | [] => some []
  | .str s :: ds => if s.length ≤ 100000 then (joinT ds).map (s ++ ·) else none
  | _ :: _ => none
def joinD (ds : List D) : R D := if ds.length ≤ 100 then match joinT ds with | some s => .ok (.str s) | none => .bad else .bad
theorem pj_of (h : PL C X B Γ W es rs) : ∃ ts, L2.PJ X es ts ∧ ∀ (σ : L2.St) (F : Wd) (H : Hp) (acc : List Nat) (ds : List D) (s : List Nat) (Q : Str → Hp → Prop), SR C B F H σ Γ → rs = .ok ds → joinT ds = some s → acc.length + ds.length * 100000 ≤ LINE →
    (∀ F' H', Ext F H F' H' → Fits C F' H' → Q (Sx (acc ++ s)) H') → L2.tJs ts (Sx acc) σ H Q := by
  induction h with
  | nil =>
    refine ⟨[], .nil, fun σ F H acc ds s Q sr e hj hl q => ?_⟩
    cases e
    cases hj
    have := q F H (Ext.refl _ _) sr.fits
    rw [List.append_nil] at this
    exact this
  | @cons e es r rs' o he hl ih =>
    obtain ⟨ts, h1, h2⟩ := ih
    refine ⟨_, .cons he h1, fun σ F H acc ds s Q sr er hj hlen q => ?_⟩
    cases r with
    | exc c => cases er
    | bad => cases er
    | ok d =>
      cases rs' with
      | exc c => cases er
      | bad => cases er
      | ok ds' =>
        have er : R.ok (d :: ds') = .ok ds := er
        cases er
        cases d with
        | str t =>
          have hj : (if t.length ≤ 100000 then (joinT ds').map (t ++ ·) else none) = some s := hj
          split at hj
          · rename_i ht
            cases ej : joinT ds' with
            | none => rw [ej] at hj; cases hj
            | some s' =>
              rw [ej] at hj
              cases hj
              refine ⟨F, sr, fun v F1 H1 e1 f1 r1 => ⟨Sx t, r1, ?_, ?_⟩⟩
              · rw [Sx_app, Sx_len, line_eq, List.length_append]
                rw [List.length_cons] at hlen
                omega
              · rw [Sx_app]
                refine h2 σ F1 H1 (acc ++ t) ds' s' Q (sr.ext_ e1 f1) rfl ej ?_ fun F' H' e' f' => ?_
                · rw [List.length_append]
                  rw [List.length_cons] at hlen
                  omega
                · rw [List.append_assoc]
                  exact q F' H' (e1.trans e') f'
          · cases hj
        | _ => cases hj
theorem cm_js : CmOk C jsArgs joinD := by
  intro N sc top X h W tk B Γ ex es rs ha hl
  unfold jsArgs at ha
  split at ha
  · rename_i a b r pos
    cases ha
    obtain ⟨ts, h1, h2⟩ := pj_of hl
    have pe : PE X (.JoinedStr (a :: b :: r) pos) (tD C B Γ W (rs.noexc.bind joinD)) := by
      refine (pe_joined h1).imp fun σ H Q ⟨F, s, p⟩ => ?_
      cases rs with
      | exc c => exact False.elim p
      | bad => exact False.elim p
      | ok ds =>
        have p : Po C (RpD C) F H (if ds.length ≤ 100 then match joinT ds with | some s => .ok (.str s) | none => .bad else .bad) Q (Wx C W σ) := p
        split at p
        · rename_i hn
          split at p
          · rename_i t hj
            refine h2 σ F H [] ds t _ s rfl hj (by show 0 + ds.length * 100000 ≤ 16777216; omega) fun F' H' e' f' => p _ F' H' e' f' rfl
          · exact False.elim p
        · exact False.elim p
    exact ⟨pe, nd_truth h pe (fun _ => rfl)⟩
  · cases ha

/-! ### a def called from within a built-in -/
theorem call_at {A' : Around} {CX : CXT} {E : XK} {sp : Sp} {pins : List (Addr × Obj)} {σ : L2.St} {s : Shared} {Q : VK} {us : List Value} (hfr : A'.frames = X.A.frames) (hr : Room k A') (F : FnOk X.prog X.w X.K X.mg X.base CX k f fd ps sp) (hb : Binds X.K fd ps []) (hx : PassesAt CX X σ E)
    (I : Inv X pins σ H s) (r : Vals vs us) (h : sp vs H Q E) : wpAny (model X.prog X.w) A' (call (.ref f) us) (EP X pins σ Q) X.xe s := by
  have hl : us.length = ps.length := by rw [← r.length]; exact F.len _ _ _ _ h
  have b := hb s us I.kIn (by rw [List.append_nil]; exact hl)
  rw [List.append_nil] at b
  have e0 : Env0 X.prog X.w X.K X.mg X.base A' X.stack s H := by
    have e := I.env0
    exact ⟨by rw [hfr]; exact e.frames, e.mod, e.bs, e.bsz, e.funs, e.frf, e.hok, e.bare⟩
  refine wpAny_call (codeAny_mono (F.run A' X.stack s H ⟨us, []⟩ us vs Q E hr e0 b r h) fun r s' hq => ?_)
  cases r with
  | error e => exact hx pins H s e s' I hq
  | ok fl =>
    cases fl with
    | ret u => exact I.after hq
    | next => exact False.elim hq
    | brk => exact False.elim hq
    | cont => exact False.elim hq
/-- what an own dunder promises of objects of the class c: no exception -/
def selfS (c : Nat) (sem : List D → R D) (d : D) (ds : List D) : R D := match d with
  | .obj c' l => if c' = c then (sem (.obj c' l :: ds)).noexc else .bad
  | _ => .bad
def strS (r : R D) : R D := match r with
  | .ok (.str s) => .ok (.str s)
  | _ => .bad
theorem passE0 {σ : L2.St} : PassesAt (L2.CX X.prog X.w) X σ (fun _ _ _ => False) := fun _ _ _ _ _ _ h => by
  obtain ⟨_, _, _, _, _, _, _, _, _, _, _, _, z⟩ := h
  exact z.elim
/-- the instance of an object's data -/
theorem obj_at {c : Nat} {l : List D} {F : Wd} {H : Hp} {v : V} (r : Rep C F v (.obj c l)) (f : Fits C F H) : ∃ a dx xs, v = .ref a ∧ H a = some (.ins (C.cls c) dx (fields C c xs)) := by
  obtain ⟨a, dx, xs, rfl, h, _⟩ := r
  exact ⟨a, dx, xs, rfl, f _ _ h⟩
theorem Po.noexc {F : Wd} {H : Hp} {r : R D} {Q : VK} {Ex Ex' : Nat → Hp → Prop} (p : Po C (RpD C) F H r.noexc Q Ex) : Po C (RpD C) F H r Q Ex' := by
  cases r with
  | ok a => exact p
  | exc c => exact False.elim p
  | bad => exact p
def rOwn (C : Cfg) (c : Nat) (sem : List D → R D) : List V → Hp → VK → Prop := fun xs H Q => ∃ F a dx vs l, xs = [.ref a] ∧ Fits C F H ∧ Rep C F (.ref a) (.obj c l) ∧ H a = some (.ins (C.cls c) dx vs) ∧ Po C (RpD C) F H (strS (sem [.obj c l]).noexc) Q fun _ _ => False
structure DunOk (C : Cfg) (c : Nat) (m : Str) (f : Addr) : Prop where
  at_ : PySem.W.findIn C.K (.ref (C.cls c)) m = some (some (.ref f))
  fn : PySem.W.isFn C.K (.ref f) = true
theorem strBack {pins : List (Addr × Obj)} {σ : L2.St} {F : Wd} {Q : VK} {r : R D} (p : Po C (RpD C) F H (strS r) Q fun _ _ => False) (hx : Ext F H F H) : ∀ v F' H', Ext F H F' H' → Fits C F' H' → (∃ d, r = .ok d ∧ Rep C F' v d) → ∃ t, v = .str t ∧ Q v H' := by
  intro v F' H' e f' ⟨d, hr, rv⟩
  subst hr
  cases d with
  | str t => exact ⟨Sx t, rv, p v F' H' e f' rv⟩
  | _ => exact False.elim p
theorem call_strOwn {c : Nat} (h : XOk C N sc top X) (hk : k + 2 ≤ C.J) (F : FnP C k f fd ps (spP C 1 sem)) (hb : Binds C.K fd ps []) (du : DunOk C c "__str__" f) : CallR X (.type "str") (rOwn C c sem) := by
  intro pins s σ H xs us Q I r hq
  obtain ⟨F1, a, dx, fs, l, rfl, f1, ra, ha, p⟩ := hq
  obtain ⟨u, rfl, rfl⟩ := vals1 r
  obtain ⟨mA, J, _⟩ := ins_get I.hok ha
  obtain ⟨od, J, _⟩ := J.look
  have hr : Room k X.A.in1.in1 := (Room.in1 (Room.in1 (h.room.mono hk)))
  refine PySem.W.kso_call (K := X.K) hr.units0 I.kIn J (by rw [h.eK]; exact du.at_) (by rw [h.eK]; exact du.fn) ?_
  refine wpAny_mono (call_at (vs := [V.ref a]) (A' := X.A.in1.in1) (E := fun _ _ _ => False) (Q := fun v H' => ∃ t, v = .str t ∧ Q v H') rfl hr (h.fn F) (by rw [h.eK]; exact hb) passE0 I (.cons rfl .nil) ⟨F1, [.obj c l], f1, ⟨_, _, rfl, ra, rfl⟩, rfl, ?_⟩) (fun v s' hv => ?_) fun _ _ e => e
  · cases e : sem [.obj c l] with
    | ok d =>
      rw [e] at p
      exact fun v F' H' ex f' rv => strBack (pins := pins) (σ := σ) p (Ext.refl _ _) v F' H' ex f' ⟨d, rfl, rv⟩
    | exc c => rw [e] at p; exact False.elim p
    | bad => rw [e] at p; exact False.elim p
  · obtain ⟨z, H', I', rz, t, rfl, q⟩ := hv
    obtain ⟨tk, rfl⟩ := rz
    exact ⟨.str t, H', I', ⟨tk, rfl⟩, q⟩
theorem call_reprOwn {c : Nat} (h : XOk C N sc top X) (hk : k + 1 ≤ C.J) (F : FnP C k f fd ps (spP C 1 sem)) (hb : Binds C.K fd ps []) (du : DunOk C c "__repr__" f) : CallR X (.builtin "repr") (rOwn C c sem) := by
  intro pins s σ H xs us Q I r hq
  obtain ⟨F1, a, dx, fs, l, rfl, f1, ra, ha, p⟩ := hq
  obtain ⟨u, rfl, rfl⟩ := vals1 r
  obtain ⟨mA, J, _⟩ := ins_get I.hok ha
  obtain ⟨od, J, _⟩ := J.look
  obtain ⟨m, hF⟩ := I.fr
  have hr : Room k X.A.in1 := (Room.in1 (h.room.mono hk))
  refine PySem.W.repr_K (K := X.K) hr.units0 hF I.ok.mod.kin J (by rw [h.eK]; exact du.at_) (by rw [h.eK]; exact du.fn) ?_
  refine wpAny_mono (call_at (vs := [V.ref a]) (A' := X.A.in1) (E := fun _ _ _ => False) (Q := fun v H' => ∃ t, v = .str t ∧ Q v H') rfl hr (h.fn F) (by rw [h.eK]; exact hb) passE0 I (.cons rfl .nil) ⟨F1, [.obj c l], f1, ⟨_, _, rfl, ra, rfl⟩, rfl, ?_⟩) (fun v s' hv => ?_) fun _ _ e => e
  · cases e : sem [.obj c l] with
    | ok d =>
      rw [e] at p
      exact fun v F' H' ex f' rv => strBack (pins := pins) (σ := σ) p (Ext.refl _ _) v F' H' ex f' ⟨d, rfl, rv⟩
    | exc c => rw [e] at p; exact False.elim p
    | bad => rw [e] at p; exact False.elim p
  · obtain ⟨z, H', I', rz, t, rfl, q⟩ := hv
    obtain ⟨tk, rfl⟩ := rz
    exact ⟨.str t, H', I', ⟨tk, rfl⟩, q⟩
/-- str(x), repr(x) of an object -/
def semO (c : Nat) (sem : List D → R D) : List D → R D
  | [.obj c' l] => if c' = c then strS (sem [.obj c l]).noexc else .bad
  | _ => .bad
theorem own1 {c : Nat} {F : Wd} {d : D} {v : V} {Q : VK} {Ex : Nat → Hp → Prop} (f : Fits C F H) (r : Rep C F v d) (p : Po C (RpD C) F H (semO c sem [d]) Q Ex) : rOwn C c sem [v] H Q := by
  unfold semO at p
  split at p
  · rename_i c' l e
    cases e
    split at p
    · rename_i hc
      subst hc
      obtain ⟨a, dx, xs, rfl, ha⟩ := obj_at r f
      refine ⟨F, a, dx, _, l, rfl, f, r, ha, ?_⟩
      cases e : strS (sem [.obj c' l]).noexc with
      | ok d => rw [e] at p; exact p
      | exc c =>
        exfalso
        unfold strS at e
        split at e <;> cases e
      | bad => rw [e] at p; exact p
    · exact False.elim p
  · exact False.elim p
theorem cb_strOwn {c : Nat} (w : Wld C T) (hk : k + 2 ≤ C.J) (F : FnP C k f fd ps (spP C 1 sem)) (hb : Binds C.K fd ps []) (du : DunOk C c "__str__" f) : CbOk C (cbArgs (.fn "str") 1) (semO c sem) := by
  intro N sc top X h W tk B Γ ex es rs ha hl
  unfold cbArgs at ha
  dsimp only at ha
  split at ha
  · rename_i y p args pos
    split at ha
    · rename_i hc
      obtain ⟨rfl, hg, hlen⟩ := hc
      cases ha
      match es, hlen, hl with
      | [e], _, hl =>
        have o := hl.ok
        simp only [List.all_cons, List.all_nil, Bool.and_true] at o
        have pe : PE X (.Call (.Name "str" p) [e] [] pos) (tD C B Γ W (rs.bind (semO c sem))) :=
          (pe_callTy (call_strOwn h hk F hb du) (h.gl hg) (by rw [h.eM]; exact w.blt _ (by simp [BLT])) (by decide +kernel) hl.pa (nm_n (glB_nm hg)) (nm_d (glB_nm hg)) (star_cons o) (star_any rfl)).imp fun σ H Q ⟨F9, s, q⟩ => ⟨F9, s, q.bind.mono fun vs H1 ⟨F1, ds, e1, f1, r1, er, p1⟩ => by
            have hl1 := hl.len er
            match ds, hl1, r1 with
            | [d], _, r1 =>
              obtain ⟨v, r, rfl, rv, rn⟩ := r1
              rw [show r = [] from rn]
              exact own1 f1 rv p1⟩
        exact ⟨pe, nd_truth h pe (fun _ => rfl)⟩
    · cases ha
  · cases ha
theorem cb_reprOwn {c : Nat} (w : Wld C T) (hk : k + 1 ≤ C.J) (F : FnP C k f fd ps (spP C 1 sem)) (hb : Binds C.K fd ps []) (du : DunOk C c "__repr__" f) : CbOk C (cbArgs (.fn "repr") 1) (semO c sem) := by
  intro N sc top X h W tk B Γ ex es rs ha hl
  unfold cbArgs at ha
  dsimp only at ha
  split at ha
  · rename_i y p args pos
    split at ha
    · rename_i hc
      obtain ⟨rfl, hg, hlen⟩ := hc
      cases ha
      match es, hlen, hl with
      | [e], _, hl =>
        have o := hl.ok
        simp only [List.all_cons, List.all_nil, Bool.and_true] at o
        have pe : PE X (.Call (.Name "repr" p) [e] [] pos) (tD C B Γ W (rs.bind (semO c sem))) :=
          (pe_callB (call_reprOwn h hk F hb du) (h.gl hg) (by rw [h.eM]; exact w.blt _ (by simp [BLT])) (by decide +kernel) hl.pa (nm_n (glB_nm hg)) (nm_d (glB_nm hg)) (star_cons o) (star_any rfl)).imp fun σ H Q ⟨F9, s, q⟩ => ⟨F9, s, q.bind.mono fun vs H1 ⟨F1, ds, e1, f1, r1, er, p1⟩ => by
            have hl1 := hl.len er
            match ds, hl1, r1 with
            | [d], _, r1 =>
              obtain ⟨v, r, rfl, rv, rn⟩ := r1
              rw [show r = [] from rn]
              exact own1 f1 rv p1⟩
        exact ⟨pe, nd_truth h pe (fun _ => rfl)⟩
    · cases ha
  · cases ha
end
end G

set_option Elab.async false
set_option linter.all false
set_option maxRecDepth 100000
set_option maxHeartbeats 4000000
/-! GO: the world of a law, its defs level by level, its end. -/
namespace G
open PySem L2
def Tb.only (T : Tb) (l : List Nat) : Tb := { T with cb := fun n => if n ∈ l then T.cb n else none }
structure Base (C : Cfg) (T : Tb) : Prop where
  blt : ∀ x ∈ BLT, C.mg x = none
  gl : ∀ n x, T.gname n = some x → ∃ u v, C.mg x = some u ∧ RelV v u ∧ ∀ F, Rep C F v (C.gl n)
  fnm : ∀ n, C.fnm n = T.fname n
  cls : ∀ n, C.flds n ≠ [] → ClsOk C n
  few : ∀ n, (C.flds n).length ≤ 100
  cnm : ∀ n x, T.cname n = some x → C.mg x = some (.ref (C.cls n))
  sub : ∀ t u b, C.sub t u = some b → PySem.W.kitOne C.K (tyv C t) (tyv C u) = some b ∧ ∀ c, t = .c c → C.flds c ≠ []
  cm : ∀ n k, T.cm n = some k → ∀ j, CmOk (C.at j) k (C.fn n)
  ow : ∀ n k, T.ow n = some k → ∀ j, OwOk (C.at j) k (C.ow n)
  exs : ∀ n x, T.ename n = some x → ExOk C T n x
  hs : ∀ n f, T.hs n = some f → ∀ j, HsOk (C.at j) f (C.hs n)
section
variable {C : Cfg} {T : Tb} {k n j : Nat} {f : Addr} {fd : FuncData} {x m qual : Str} {st : Stmt} {N ps : List Str} {body : Sm} {sem : List D → R D}
theorem Base.wl (b : Base C T) (j : Nat) (l : List Nat) (h : ∀ n ∈ l, ∀ k, T.cb n = some k → CbOk (C.at j) k (C.fn n)) : Wl2 (C.at j) (T.only l) where
  blt := b.blt
  gl := fun n x e => by
    obtain ⟨u, v, h1, h2, h3⟩ := b.gl n x e
    exact ⟨u, v, h1, h2, fun F => by rw [Rep_at]; exact h3 F⟩
  fnm := b.fnm
  cls := fun n e => by
    have q := b.cls n e
    exact ⟨q.cl, q.ha, q.hn, q.htk, q.hm, q.na, q.nd⟩
  few := b.few
  cnm := b.cnm
  sub := fun t u v e => by
    have q := b.sub t u v e
    refine ⟨?_, q.2⟩
    have e1 : ∀ t, tyv (C.at j) t = tyv C t := fun t => by cases t <;> rfl
    rw [e1, e1]
    exact q.1
  cb := fun n k e => by
    have e : (if n ∈ l then T.cb n else none) = some k := e
    split at e
    · rename_i hn
      exact h n hn k e
    · cases e
  cm := fun n k e => b.cm n k e j
  ow := fun n k e => b.ow n k e j
  exs := fun n x e => by
    have q := b.exs n x e
    exact ⟨q.mg, q.ex, q.kp, q.sb, q.ty⟩
  hs := fun n f e => b.hs n f e j
/-- the table's entry n is this form -/
theorem cb1 {P : Prop} {o : Option (Scope → Expr → Option (List Expr))} {k0 k : Scope → Expr → Option (List Expr)} (e : o = some k) (h : o = some k0) (p : k0 = k → P) : P := p (Option.some.inj (h.symm.trans e))
theorem def_at (w2 : Wl2 (C.at j) T) (F : Fun C.K x qual st f fd) (S : FnScope N ps (defScope st)) (hc : chkS T N (defScope st) body (defBody st) = true)
    (hs : ∀ ds, ds.length = ps.length → sem ds ≠ .bad → outR (evS C.toMng body (gam0 N ds)) = sem ds) : FnP C (j + 1) f fd ps (spP C ps.length sem) := by
  have q := def_ok (C := C.at j) w2 F S hc hs
  rw [at_sp] at q
  exact q
theorem init_at {c : Nat} (w2 : Wl2 (C.at j) T) (F : Fun C.K x qual st f fd) (S : FnScope N ps (defScope st)) (hc : chkS T N (defScope st) body (defBody st) = true)
    (hs : ∀ ds, ds.length + 1 = ps.length → sem ds ≠ .bad → outI C.toMng c (evS C.toMng body (gamI N c ds)) = sem ds) : FnP C (j + 1) f fd ps (spI C c ps.length sem) := by
  have q := init_ok (C := C.at j) w2 F S hc hs
  rw [at_spI] at q
  exact q
theorem fn_at (hk : k ≤ j) (F : FnP C k f fd ps (spP C n sem)) (hm : C.mg x = some (.ref f)) (hkp : PySem.W.keepIn C.K (.ref f) = true) (hb : Binds C.K fd ps []) : CbOk (C.at j) (cbArgs (.fn x) n) sem :=
  cb_fn (C := C.at j) hk (by rw [at_sp]; exact F) hm hkp hb
theorem make_at {c : Nat} (hk : k + 1 ≤ j) (F : FnP C k f fd ps (spI C c (n + 1) sem)) (M : Mk C.K (C.cls c) f) (hm : C.mg x = some (.ref (C.cls c))) (hb : Binds C.K fd ps []) : CbOk (C.at j) (cbArgs (.fn x) n) sem :=
  cb_make (C := C.at j) hk (by rw [at_spI]; exact F) M hm hb
theorem str_at {c : Nat} {T : Tb} (w : Wld (C.at j) T) (hk : k + 2 ≤ j) (F : FnP C k f fd ps (spP C 1 sem)) (hb : Binds C.K fd ps []) (du : DunOk C c "__str__" f) : CbOk (C.at j) (cbArgs (.fn "str") 1) (semO c sem) :=
  cb_strOwn (C := C.at j) w hk (by rw [at_sp]; exact F) hb ⟨du.at_, du.fn⟩
theorem repr_at {c : Nat} {T : Tb} (w : Wld (C.at j) T) (hk : k + 1 ≤ j) (F : FnP C k f fd ps (spP C 1 sem)) (hb : Binds C.K fd ps []) (du : DunOk C c "__repr__" f) : CbOk (C.at j) (cbArgs (.fn "repr") 1) (semO c sem) :=
  cb_reprOwn (C := C.at j) w hk (by rw [at_sp]; exact F) hb ⟨du.at_, du.fn⟩
theorem cattr_at {Cl : Addr} {mc : Value} {v : V} {u : Value} {d : D} (hm : C.mg x = some (.ref Cl)) (r : ClX.CRead C.K Cl mc) (kk : ClX.CVal C.K Cl mc m v u) (hv : ∀ F, Rep C F v d) : CbOk (C.at j) (catArgs x m) (fun _ => .ok d) :=
  cb_cattr (C := C.at j) hm r kk (fun F => by rw [Rep_at]; exact hv F)

/-! ### the end -/
def spLaw (K : PySem.W.Frag) : Sp := fun vs H Q _ => ∃ (a : Addr) (ns : List Int), vs = [.ref a] ∧ SqL K H a (ns.map V.int) ∧ ns.length ≤ 63 ∧ ∀ H', Q (.bl true) H'
theorem law_of (F : FnP C k f fd ps (spP C 1 sem)) (h : ∀ ns : List Int, ns.length ≤ 63 → sem [.scr ns] = .ok (.bl true)) : FnP C k f fd ps (spLaw C.K) := F.imp fun vs H Q E ⟨a, ns, e, hS, hl, q⟩ => by
  subst e
  have hf : ∀ b u, H b = some u → fo (fun b => (H b).map Fz.o) b = some u := fun b u e => by
    show (match (H b).map Fz.o with | some (.o u) => some u | _ => none) = some u
    rw [e]
    rfl
  refine ⟨fun b => (H b).map Fz.o, [.scr ns], fun b y e => ?_, ⟨_, _, rfl, ⟨a, rfl, SqL.le hf hS⟩, rfl⟩, rfl, ?_⟩
  · have e : (H b).map Fz.o = some y := e
    cases eb : H b with
    | none => rw [eb] at e; cases e
    | some u =>
      rw [eb] at e
      cases e
      rfl
  · rw [h ns hl]
    intro v F' H' _ _ rv
    rw [show v = _ from rv]
    exact q H'
theorem noCX {P : Program} {w : World} {H : Hp} {s : Shared} {e : Value} {s' : Shared} (h : L2.CX P w [] H s (fun _ _ _ => False) e s') : False := by
  obtain ⟨_, _, _, _, _, _, _, _, _, _, _, _, z⟩ := h
  exact z
theorem walk_end {l : PySem.W.OpenLaw} {q : Program} {loose : List Str} {XP : (Str → Option Value) → Heap → Prop} {YP : World → Heap → Prop} {d : DefRec} {K : Params → PySem.W.Frag} {k : Nat} {x : Str} (hn : l.most = some 63) (hdf : d.params.defaults = []) (hr : Room k callerA)
    (hY : ∀ (w : World) (h : Heap), YP w h → (K w.params).In h)
    (F : ∀ (w : World) (mg : Str → Option Value) (fa : Addr) (h : Heap), (K w.params).In h → h.Ns mainGlobals mg → mg d.name = some (.ref fa) →
      ∃ fd : FuncData, (∀ (s : Shared) (u : Value), BindsTo s fd ⟨[u], []⟩ [(x, u)]) ∧ ∀ base : Heap, (K w.params).In base → base.Ns mainGlobals mg → FnOk l.prog w (K w.params) mg base (L2.CX l.prog w) k fa fd [x] (spLaw (K w.params))) :
    PySem.W.WalkO q loose XP YP l.row.toRowW d [] (fun f vs => PySem.call f vs) :=
  L2.walk_of (n := 63) (k := k) (x := x) (CX := fun w => L2.CX l.prog w) (sp := fun w => spLaw (K w.params)) hn (by decide) hdf hr hY F (fun _ _ a ns hl _ hS => ⟨a, ns, rfl, hS, hl, fun _ => rfl⟩) fun _ _ _ _ _ z => noCX z
end
end G

set_option Elab.async false
set_option linter.all false
set_option maxRecDepth 100000
set_option maxHeartbeats 4000000
/-! GP: comparisons and «in» by own dunders. -/
namespace G
open PySem L2
def cmpArgs (p : COp) (sc : Scope) (ex : Expr) : Option (List Expr) := match ex with
  | .Compare a [o] [b] _ => if copIs p o = true then some [a, b] else none
  | _ => none
def sem2 (g : D → D → R Bool) : List D → R D
  | [x, y] => (g x y).bind fun k => .ok (.bl k)
  | _ => .bad
def boolS (r : R D) : R Bool := match r with
  | .ok (.bl k) => .ok k
  | _ => .bad
section
variable {C : Cfg} {T : Tb} {X : Cx} {B : Bs} {Γ : Gam} {W : WX} {N ps : List Str} {sc : Scope} {top : Bool} {F0 : Wd} {H : Hp} {vs : List V} {ds : List D} {k n : Nat} {f g : Addr} {fd : FuncData} {x m : Str} {sem : List D → R D} {es : List Expr} {rs : R (List D)} {p pos : Pos}
theorem PL.two {a b : Expr} (hl : PL C X B Γ W [a, b] rs) : ∃ ra rb, rs = (ra.bind fun x => rb.bind fun y => .ok [x, y]) ∧ okx a = true ∧ okx b = true ∧ PE X a (tD C B Γ W ra) ∧ PE X b (tD C B Γ W rb) := by
  obtain ⟨ra, r1, e1, o1, p1, h1⟩ := hl.cons_inv
  obtain ⟨rb, r2, e2, o2, p2, h2⟩ := h1.cons_inv
  refine ⟨ra, rb, ?_, o1, o2, p1, p2⟩
  rw [e1, e2, h2.nil_inv]
  cases ra <;> cases rb <;> rfl
theorem nd_cmpD {op : CmpOp} {r : R2} {g : D → D → R Bool} {a b : Expr} {ra rb : R D} (ho : OpR X (compareOp op) r) (ha : PE X a (tD C B Γ W ra)) (hb : PE X b (tD C B Γ W rb)) (hm : okx b = true)
    (hg : ∀ F H x y dx dy (Q : VK) Ex, Fits C F H → Rep C F x dx → Rep C F y dy → Po C RpT F H (g dx dy) (fun k H' => Q (.bl k) H') Ex → r x y H Q) :
    PE X (.Compare a [op] [b] pos) (tD C B Γ W (ra.bind fun x => rb.bind fun y => (g x y).bind fun k => .ok (.bl k))) ∧
    PT X (.Compare a [op] [b] pos) (tT C B Γ W (ra.bind fun x => rb.bind fun y => g x y)) := by
  refine ⟨?_, ?_⟩
  · refine (pe_cmpR ho ha hb (nomark_ok hm op)).imp fun σ H Q ⟨F, s, p⟩ => ⟨F, s, p.bind.mono fun x H1 ⟨F1, dx, e1, f1, r1, _, p1⟩ => ⟨F1, s.ext_ e1 f1, p1.bind.mono fun y H2 ⟨F2, dy, e2, f2, r2, _, p2⟩ => ?_⟩⟩
    exact hg F2 H2 x y dx dy Q (Wx C W σ) f2 (Rep.le e2.le _ _ r1) r2 (p2.bind.mono fun k H3 ⟨F3, k', e3, f3, ek, _, p3⟩ => by cases ek; exact p3.now f3 rfl)
  · refine (pt_cmpR ho ha hb (nomark_ok hm op)).imp fun σ H Q ⟨F, s, p⟩ => ⟨F, s, p.bind.mono fun x H1 ⟨F1, dx, e1, f1, r1, _, p1⟩ => ⟨F1, s.ext_ e1 f1, p1.bind.mono fun y H2 ⟨F2, dy, e2, f2, r2, _, p2⟩ => ?_⟩⟩
    exact hg F2 H2 x y dx dy (fun z H' => ∃ k, z = .bl k ∧ Q k H') _ f2 (Rep.le e2.le _ _ r1) r2 (p2.mono fun k H3 q => ⟨k, rfl, q⟩)
/-- what is known of an operator over values, by data -/
def CmpHas (C : Cfg) (X : Cx) (op : CmpOp) (gg : D → D → R Bool) : Prop := ∃ r : R2, OpR X (compareOp op) r ∧
  ∀ F H x y dx dy (Q : VK) Ex, Fits C F H → Rep C F x dx → Rep C F y dy → Po C RpT F H (gg dx dy) (fun k H' => Q (.bl k) H') Ex → r x y H Q
theorem cb_cmp {pp : COp} {gg : D → D → R Bool} (hop : ∀ (N : List Str) (sc : Scope) (top : Bool) (X : Cx), XOk C N sc top X → ∀ op, copIs pp op = true → CmpHas C X op gg) : CbOk C (cmpArgs pp) (sem2 gg) := by
  intro N sc top X h W tk B Γ ex es rs ha hl
  unfold cmpArgs at ha
  split at ha
  · rename_i a o b pos
    split at ha
    · rename_i hc
      cases ha
      obtain ⟨ra, rb, e, oa, ob, pa, pb⟩ := hl.two
      obtain ⟨r, ho, hr⟩ := hop N sc top X h o hc
      obtain ⟨k1, k2⟩ := nd_cmpD (pos := pos) ho pa pb ob hr
      have e1 : rs.bind (sem2 gg) = (ra.bind fun x => rb.bind fun y => (gg x y).bind fun k => R.ok (D.bl k)) := by
        rw [e]
        cases ra <;> cases rb <;> rfl
      have e2 : ((ra.bind fun x => rb.bind fun y => (gg x y).bind fun k => R.ok (D.bl k)).bind truD) = (ra.bind fun x => rb.bind fun y => gg x y) := by
        cases ra with
        | ok x =>
          cases rb with
          | ok y =>
            show ((gg x y).bind fun k => R.ok (D.bl k)).bind truD = gg x y
            cases gg x y <;> rfl
          | _ => rfl
        | _ => rfl
      rw [e1, e2]
      exact ⟨k1, k2⟩
    · cases ha
  · cases ha
/-! ### in -/
/-- x in y by the own __contains__ of y's class c -/
def inS (c : Nat) (sem : List D → R D) (neg : Bool) (x y : D) : R Bool := match y with
  | .obj c' l => if c' = c then (boolS (sem [.obj c' l, x])).bind fun k => .ok (if neg then !k else k) else .bad
  | _ => .bad
def rIn (C : Cfg) (c : Nat) (sem : List D → R D) (neg : Bool) : R2 := fun x y H Q => ∃ F a dx fs l d k, y = .ref a ∧ Fits C F H ∧ Rep C F (.ref a) (.obj c l) ∧ Rep C F x d ∧ H a = some (.ins (C.cls c) dx fs) ∧ sem [.obj c l, d] = .ok (.bl k) ∧
  ∀ F' H', G.Ext F H F' H' → Fits C F' H' → Q (.bl (if neg then !k else k)) H'
theorem bindOk_inv {α β : Type} {r : R α} {f : α → R β} {b : β} (h : r.bind f = .ok b) : ∃ a, r = .ok a ∧ f a = .ok b := by
  cases r with
  | ok a => exact ⟨a, rfl, h⟩
  | exc c => cases h
  | bad => cases h
theorem boolS_inv {r : R D} {k : Bool} (h : boolS r = .ok k) : r = .ok (.bl k) := by
  unfold boolS at h
  split at h
  · cases h; rfl
  · cases h
theorem boolS_noexc {r : R D} {c : Nat} : boolS r ≠ .exc c := by
  unfold boolS
  split <;> (intro z; cases z)
theorem op_inOwn {c : Nat} (h : XOk C N sc top X) (hk : k ≤ C.J) (F : FnP C k f fd ps (spP C 2 sem)) (hb : Binds C.K fd ps []) (du : DunOk C c "__contains__" f) : OpR X (compareOp .In) (rIn C c sem false) ∧ OpR X (compareOp .NotIn) (rIn C c sem true) := by
  have key : ∀ (pins : List (Addr × Obj)) (s : Shared) (σ : L2.St) (H : Hp) (x : V) (v : Value) (a : Addr) (dx : Addr) (fs : List (Str × V)) (F1 : Wd) (l : List D) (d : D) (kk : Bool) (Q : V → Hp → Prop), Inv X pins σ H s → RelV x v → Fits C F1 H → Rep C F1 (.ref a) (.obj c l) → Rep C F1 x d → H a = some (.ins (C.cls c) dx fs) →
      sem [.obj c l, d] = .ok (.bl kk) → (∀ F' H', G.Ext F1 H F' H' → Fits C F' H' → Q (.bl kk) H') → wpAny (model X.prog X.w) X.A (call (.ref f) [.ref a, v]) (EP X pins σ fun z H' => z = .bl kk ∧ Q (.bl kk) H') X.xe s := by
    intro pins s σ H x v a dx fs F1 l d kk Q I rx f1 ra rd ha hs q
    refine call_at (vs := [V.ref a, x]) (A' := X.A) (E := fun _ _ _ => False) rfl (h.room.mono hk) (h.fn F) (by rw [h.eK]; exact hb) passE0 I (.cons rfl (.cons rx .nil)) ⟨F1, [.obj c l, d], f1, ⟨_, _, rfl, ra, ⟨_, _, rfl, rd, rfl⟩⟩, rfl, ?_⟩
    rw [hs]
    intro v' F' H' e' f' rv
    exact ⟨rv, q F' H' e' f'⟩
  refine ⟨?_, ?_⟩
  · intro pins s σ H x y v u Q I rx ry hq
    obtain ⟨F1, a, dx, fs, l, d, kk, rfl, f1, ra, rd, ha, hs, q⟩ := hq
    cases ry
    obtain ⟨mA, J, _⟩ := ins_get I.hok ha
    obtain ⟨od, J, _⟩ := J.look
    obtain ⟨m, hF⟩ := I.fr
    refine PySem.W.in_K (K := X.K) hF I.ok.mod.kin J (by rw [h.eK]; exact du.at_) (by rw [h.eK]; exact du.fn) ?_
    refine wpAny_mono (key pins s σ H x v a dx fs F1 l d kk Q I rx f1 ra rd ha hs q) (fun r s' hv => ?_) fun _ _ e => e
    obtain ⟨z, H', I', rz, rfl, q'⟩ := hv
    cases rz
    exact wpAny_truthy_bool ⟨.bl kk, H', I', rfl, q'⟩
  · intro pins s σ H x y v u Q I rx ry hq
    obtain ⟨F1, a, dx, fs, l, d, kk, rfl, f1, ra, rd, ha, hs, q⟩ := hq
    cases ry
    obtain ⟨mA, J, _⟩ := ins_get I.hok ha
    obtain ⟨od, J, _⟩ := J.look
    obtain ⟨m, hF⟩ := I.fr
    refine PySem.W.notIn_K (K := X.K) hF I.ok.mod.kin J (by rw [h.eK]; exact du.at_) (by rw [h.eK]; exact du.fn) ?_
    refine wpAny_mono (key pins s σ H x v a dx fs F1 l d kk (fun _ H' => Q (.bl (!kk)) H') I rx f1 ra rd ha hs q) (fun r s' hv => ?_) fun _ _ e => e
    obtain ⟨z, H', I', rz, rfl, q'⟩ := hv
    cases rz
    exact wpAny_truthy_bool ⟨.bl (!kk), H', I', rfl, q'⟩
theorem in_has {c : Nat} {neg : Bool} {op : CmpOp} {r : R2} (ho : OpR X (compareOp op) r) (er : r = rIn C c sem neg) : ∀ F H x y dx dy (Q : VK) Ex, Fits C F H → Rep C F x dx → Rep C F y dy → Po C RpT F H (inS c sem neg dx dy) (fun k H' => Q (.bl k) H') Ex → r x y H Q := by
  intro F H x y dx dy Q Ex f rx ry p
  subst er
  unfold inS at p
  split at p
  · rename_i c' l
    split at p
    · rename_i hc
      subst hc
      obtain ⟨a, dxx, xs, rfl, ha⟩ := obj_at ry f
      cases e : boolS (sem [.obj c' l, dx]) with
      | ok kk =>
        rw [e] at p
        exact ⟨F, a, dxx, _, l, dx, kk, rfl, f, ry, rx, ha, boolS_inv e, fun F' H' e' f' => p _ F' H' e' f' rfl⟩
      | exc c => exact absurd e boolS_noexc
      | bad => rw [e] at p; exact False.elim p
    · exact False.elim p
  · exact False.elim p
theorem in_at {c j : Nat} (neg : Bool) (hk : k ≤ j) (F : FnP C k f fd ps (spP C 2 sem)) (hb : Binds C.K fd ps []) (du : DunOk C c "__contains__" f) : CbOk (C.at j) (cmpArgs (if neg then .notin else .isin)) (sem2 (inS c sem neg)) := by
  refine cb_cmp (C := C.at j) fun N sc top X h op ho => ?_
  have F' : FnP (C.at j) k f fd ps (spP (C.at j) 2 sem) := by rw [at_sp]; exact F
  obtain ⟨h1, h2⟩ := op_inOwn (C := C.at j) h hk F' hb ⟨du.at_, du.fn⟩
  cases neg with
  | false =>
    have : op = .In := by cases op <;> first | rfl | cases ho
    subst this
    exact ⟨_, h1, in_has h1 rfl⟩
  | true =>
    have : op = .NotIn := by cases op <;> first | rfl | cases ho
    subst this
    exact ⟨_, h2, in_has h2 rfl⟩

/-! ### x < y, x == y .. of two objects of one class -/
def cmpS (c : Nat) (sem : List D → R D) (x y : D) : R Bool := match x, y with
  | .obj c1 l, .obj c2 m => if c1 = c ∧ c2 = c then boolS (sem [.obj c1 l, .obj c2 m]) else .bad
  | _, _ => .bad
def rCmp (C : Cfg) (c : Nat) (sem : List D → R D) : R2 := fun x y H Q => ∃ F a dx fs b dy gs l m k, x = .ref a ∧ y = .ref b ∧ Fits C F H ∧ Rep C F (.ref a) (.obj c l) ∧ Rep C F (.ref b) (.obj c m) ∧ H a = some (.ins (C.cls c) dx fs) ∧ H b = some (.ins (C.cls c) dy gs) ∧ sem [.obj c l, .obj c m] = .ok (.bl k) ∧
  ∀ F' H', G.Ext F H F' H' → Fits C F' H' → Q (.bl k) H'
def copRich : CmpOp → Bool
  | .Eq => true | .NotEq => true | .Lt => true | .LtE => true | .Gt => true | .GtE => true
  | _ => false
theorem op_cmpOwn {c : Nat} {op : CmpOp} {nm : Str} (h : XOk C N sc top X) (hk : k ≤ C.J) (hr : copRich op = true) (hn : (cmpInfo op).2.1 = nm) (F : FnP C k f fd ps (spP C 2 sem)) (hb : Binds C.K fd ps []) (du : DunOk C c nm f) : OpR X (compareOp op) (rCmp C c sem) := by
  intro pins s σ H x y v u Q I rx ry hq
  obtain ⟨F1, a, dx, fs, b, dy, gs, l, m, kk, rfl, rfl, f1, ra, rb, ha, hb', hs, q⟩ := hq
  cases rx
  cases ry
  obtain ⟨mA, J, _⟩ := ins_get I.hok ha
  obtain ⟨mB, J', _⟩ := ins_get I.hok hb'
  obtain ⟨od, J, _⟩ := J.look
  obtain ⟨od', J', _⟩ := J'.look
  obtain ⟨mm, hF⟩ := I.fr
  have hr1 : Room k X.A := h.room.mono hk
  have e : compareOp op (Value.ref a) (Value.ref b) = richCompare op (Value.ref a) (Value.ref b) := by cases op <;> first | rfl | cases hr
  rw [e]
  refine PySem.W.cmp_K (K := X.K) (tb := .ref (C.cls c)) hr1.units0 hF I.ok.mod.kin J J'.type (by simp [PySem.W.notFirst]) (by rw [h.eK, hn]; exact du.at_) (by rw [h.eK]; exact du.fn) ?_
  refine wpAny_mono (call_at (vs := [V.ref a, V.ref b]) (A' := X.A) (E := fun _ _ _ => False) (Q := fun z H' => z = .bl kk ∧ Q (.bl kk) H') rfl hr1 (h.fn F) (by rw [h.eK]; exact hb) passE0 I (.cons rfl (.cons rfl .nil)) ⟨F1, [.obj c l, .obj c m], f1, ⟨_, _, rfl, ra, ⟨_, _, rfl, rb, rfl⟩⟩, rfl, ?_⟩) (fun r s' hv => ?_) fun _ _ e => e
  · rw [hs]
    intro v' F' H' e' f' rv
    exact ⟨rv, q F' H' e' f'⟩
  · obtain ⟨z, H', I', rz, rfl, q'⟩ := hv
    cases rz
    exact ⟨.bl kk, H', I', rfl, q'⟩
theorem cmp_has {c : Nat} {op : CmpOp} (ho : OpR X (compareOp op) (rCmp C c sem)) : CmpHas C X op (cmpS c sem) := by
  refine ⟨_, ho, fun F H x y dx dy Q Ex f rx ry p => ?_⟩
  unfold cmpS at p
  split at p
  · rename_i c1 l c2 m
    split at p
    · rename_i hc
      obtain ⟨rfl, rfl⟩ := hc
      obtain ⟨a, d1, xs, rfl, ha⟩ := obj_at rx f
      obtain ⟨b, d2, ys, rfl, hb⟩ := obj_at ry f
      cases e : boolS (sem [.obj c2 l, .obj c2 m]) with
      | ok kk =>
        rw [e] at p
        exact ⟨F, a, d1, _, b, d2, _, l, m, kk, rfl, rfl, f, rx, ry, ha, hb, boolS_inv e, fun F' H' e' f' => p _ F' H' e' f' rfl⟩
      | exc c => exact absurd e boolS_noexc
      | bad => rw [e] at p; exact False.elim p
    · exact False.elim p
  · exact False.elim p
theorem cmp_at {c j : Nat} {pp : COp} {nm : Str} (hk : k ≤ j) (hp : ∀ op, copIs pp op = true → copRich op = true ∧ (cmpInfo op).2.1 = nm) (F : FnP C k f fd ps (spP C 2 sem)) (hb : Binds C.K fd ps []) (du : DunOk C c nm f) : CbOk (C.at j) (cmpArgs pp) (sem2 (cmpS c sem)) := by
  refine cb_cmp (C := C.at j) fun N sc top X h op ho => ?_
  have F' : FnP (C.at j) k f fd ps (spP (C.at j) 2 sem) := by rw [at_sp]; exact F
  exact cmp_has (op_cmpOwn (C := C.at j) h hk (hp op ho).1 (hp op ho).2 F' hb ⟨du.at_, du.fn⟩)
end
end G

set_option Elab.async false
set_option linter.all false
set_option maxRecDepth 100000
set_option maxHeartbeats 4000000
/-! GR: pairs of ints compared. -/
namespace G
open PySem L2
/-- a pair of ints against a pair of ints: how the first unequal pair is compared -/
def pairS (rop : Int → Int → Bool) (z : Bool) (x y : D) : R Bool := match x, y with
  | .tup [.int a, .int b], .tup [.int c, .int d] => .ok (if a = c then (if b = d then z else rop b d) else rop a c)
  | _, _ => .bad
def rPair (K : PySem.W.Frag) (rop : Int → Int → Bool) (z : Bool) : R2 := fun x y H Q => ∃ (p q : Addr) (a b c d : Int), x = .ref p ∧ y = .ref q ∧ SqT K H p [.int a, .int b] ∧ SqT K H q [.int c, .int d] ∧ Q (.bl (if a = c then (if b = d then z else rop b d) else rop a c)) H
theorem op_pair {X : Cx} {op : CmpOp} {rop : Int → Int → Bool} {zop : Nat → Nat → Bool} {z : Bool} (hz : zop 2 2 = z) (hc : ∀ v u, compareOp op v u = richCompare op v u) (hu : X.A.units < cLine)
    (htup : ∀ {A : Around} {s : Shared} {l b : Addr} {items items2 : Array Value} {e r : Nat → Bool}, s.heap.IsTuple l items → s.heap.IsTuple b items2 → A.units < cLine →
      (∀ j (h1 : j < items.size) (h2 : j < items2.size), SeqAt.EqAt A.in1 s items[j] items2[j] (e j)) → (∀ j (h1 : j < items.size) (h2 : j < items2.size), e j = false → Ob.RcOp op A.in1 s items[j] items2[j] (r j)) →
      Ob.RcOp op A s (.ref l) (.ref b) (Ob.lexAt e r (zop items.size items2.size) 0 (min items.size items2.size)))
    (hint : ∀ {A : Around} {s : Shared} (a b : Int) (t u : Tok), Ob.RcOp op A s (.int a t) (.int b u) (rop a b)) : OpR X (compareOp op) (rPair X.K rop z) := by
  intro pins s σ H x y v u Q I rx ry h
  obtain ⟨p, q, a, b, c, d, rfl, rfl, ha, hb, k⟩ := h
  cases rx
  cases ry
  obtain ⟨its, r1, p1, _⟩ := I.tuple ha
  obtain ⟨its2, r2, p2, _⟩ := I.tuple hb
  cases r1 with
  | cons x1 r1 => cases r1 with
    | cons x2 r1 =>
      cases r1
      cases r2 with
      | cons y1 r2 => cases r2 with
        | cons y2 r2 =>
          cases r2
          obtain ⟨t1, rfl⟩ := x1
          obtain ⟨t2, rfl⟩ := x2
          obtain ⟨u1, rfl⟩ := y1
          obtain ⟨u2, rfl⟩ := y2
          have R := htup (A := X.A) (s := s) (e := fun j => match j with | 0 => a == c | _ => b == d) (r := fun j => match j with | 0 => rop a c | _ => rop b d) p1 p2 hu (fun j h1 h2 => by
            match j, h1 with
            | 0, _ => exact SeqAt.EqAt.int_int _ _ _ _
            | 1, _ => exact SeqAt.EqAt.int_int _ _ _ _
            | j + 2, h1 => exact absurd h1 (by simp)) (fun j h1 h2 _ => by
            match j, h1 with
            | 0, _ => exact hint _ _ _ _
            | 1, _ => exact hint _ _ _ _
            | j + 2, h1 => exact absurd h1 (by simp))
          rw [hc]
          refine R X.prog X.w X.xe (EP X pins σ Q) ⟨.bl _, H, I, rfl, ?_⟩
          have e : Ob.lexAt (fun j => match j with | 0 => a == c | _ => b == d) (fun j => match j with | 0 => rop a c | _ => rop b d) (zop 2 2) 0 2 = (if a = c then (if b = d then z else rop b d) else rop a c) := by
            rw [Ob.lexAt_succ, Ob.lexAt_succ, Ob.lexAt_zero, hz]
            simp
          show Q (.bl (Ob.lexAt _ _ (zop 2 2) 0 2)) H
          rw [e]
          exact k
section
variable {C : Cfg} {N : List Str} {sc : Scope} {top : Bool} {X : Cx}
theorem pair_has {op : CmpOp} {rop : Int → Int → Bool} {z : Bool} (h : XOk C N sc top X) (ho : OpR X (compareOp op) (rPair X.K rop z)) : CmpHas C X op (pairS rop z) := by
  refine ⟨_, ho, fun F H x y dx dy Q Ex f rx ry p => ?_⟩
  unfold pairS at p
  split at p
  · rename_i a b c d
    obtain ⟨u, xs, rfl, hu, rl⟩ := rx
    obtain ⟨v, ys, rfl, hv, rl2⟩ := ry
    have e1 : xs = [.int a, .int b] := RepL.ints (l := [a, b]) rl
    have e2 : ys = [.int c, .int d] := RepL.ints (l := [c, d]) rl2
    subst e1 e2
    exact ⟨u, v, a, b, c, d, rfl, rfl, SqT.of (f u _ hu), SqT.of (f v _ hv), p.now f rfl⟩
  · exact False.elim p
theorem plt_at : CbOk C (cmpArgs .lt) (sem2 (pairS (fun a b => decide (a < b)) false)) := cb_cmp fun N sc top X h op ho => by
  have : op = .Lt := by cases op <;> first | rfl | cases ho
  subst this
  exact pair_has h (op_pair (zop := fun n m => decide (n < m)) rfl (fun _ _ => rfl) h.room.units0 Ob.RcOp.tuples_lt Ob.RcOp.lt_int)
theorem ple_at : CbOk C (cmpArgs .le) (sem2 (pairS (fun a b => decide (a ≤ b)) true)) := cb_cmp fun N sc top X h op ho => by
  have : op = .LtE := by cases op <;> first | rfl | cases ho
  subst this
  exact pair_has h (op_pair (zop := fun n m => decide (n ≤ m)) rfl (fun _ _ => rfl) h.room.units0 Ob.RcOp.tuples_le Ob.RcOp.le_int)
theorem pgt_at : CbOk C (cmpArgs .gt) (sem2 (pairS (fun a b => decide (b < a)) false)) := cb_cmp fun N sc top X h op ho => by
  have : op = .Gt := by cases op <;> first | rfl | cases ho
  subst this
  exact pair_has h (op_pair (zop := fun n m => decide (n > m)) rfl (fun _ _ => rfl) h.room.units0 Ob.RcOp.tuples_gt Ob.RcOp.gt_int)
theorem pge_at : CbOk C (cmpArgs .ge) (sem2 (pairS (fun a b => decide (b ≤ a)) true)) := cb_cmp fun N sc top X h op ho => by
  have : op = .GtE := by cases op <;> first | rfl | cases ho
  subst this
  exact pair_has h (op_pair (zop := fun n m => decide (n ≥ m)) rfl (fun _ _ => rfl) h.room.units0 Ob.RcOp.tuples_ge Ob.RcOp.ge_int)
end
end G

set_option Elab.async false
set_option linter.all false
set_option maxRecDepth 100000
set_option maxHeartbeats 4000000
/-! DR: the law's own draws, over data. -/
namespace G
open PySem L2
theorem mulK (a b : Int) (h : (-18446744073709551616 < a ∧ a < 18446744073709551616) ∨ (-18446744073709551616 < b ∧ b < 18446744073709551616)) : mulD (.int a) (.int b) = .ok (.int (a * b)) := if_pos h
theorem addK (a b : Int) : addD (.int a) (.int b) = .ok (.int (a + b)) := rfl
theorem subK (a b : Int) : subD (.int a) (.int b) = .ok (.int (a - b)) := rfl
theorem modK (a b : Int) (h : 0 < b) : modD (.int a) (.int b) = .ok (.int (a % b)) := if_pos h
theorem fdivK (a b : Int) (h : 0 < b ∧ b < 1073741824) : fdivD (.int a) (.int b) = .ok (.int (a / b)) := if_pos h
theorem powK (a b : Int) (h : 0 ≤ b ∧ b ≤ 1000000 ∧ a.natAbs < 18446744073709551616) : powD (.int a) (.int b) = .ok (.int (a ^ b.toNat)) := if_pos h
theorem addSK (a b : List Nat) (h : a.length + b.length ≤ 16777216) : addD (.str a) (.str b) = .ok (.str (a ++ b)) := if_pos h
theorem addLK (a b : List D) (h : a.length + b.length ≤ 16777216) : addD (.lst a) (.lst b) = .ok (.lst (a ++ b)) := if_pos h
theorem ltK (a b : Int) : ltD (.int a) (.int b) = .ok (decide (a < b)) := rfl
theorem leK (a b : Int) : leD (.int a) (.int b) = .ok (decide (a ≤ b)) := rfl
theorem eqK (a b : Int) : eqD (.int a) (.int b) = .ok (a == b) := rfl
theorem ofOk {α : Type} (Γ : Gam) (a : α) (f : α → Out) : Out.of Γ (.ok a) f = f a := rfl
theorem bindOk {α β : Type} (a : α) (f : α → R β) : (R.ok a).bind f = f a := rfl
theorem atNext (Γ : Gam) (f : Gam → Out) : (Out.next Γ).andThen f = f Γ := rfl
theorem atRet (d : D) (f : Gam → Out) : (Out.ret d).andThen f = .ret d := rfl
theorem atExc (c : Nat) (Γ : Gam) (f : Gam → Out) : (Out.exc c Γ).andThen f = .exc c Γ := rfl
theorem truB (b : Bool) : truD (.bl b) = .ok b := rfl
theorem truI (i : Int) : truD (.int i) = .ok (i != 0) := rfl
theorem intK (i : Int) : f1D .int (.int i) = .ok (.int i) := rfl
theorem lenL (l : List D) : f1D .len (.lst l) = .ok (.int l.length) := rfl
theorem lenS (l : List Int) : f1D .len (.scr l) = .ok (.int l.length) := rfl
theorem lenT (l : List D) : f1D .len (.tup l) = .ok (.int l.length) := rfl
theorem andK (b : Bool) (r : R D) : andD (.bl b) r = if b then r else .ok (.bl false) := rfl
theorem orK (b : Bool) (r : R D) : orD (.bl b) r = if b then .ok (.bl true) else r := rfl
theorem notK (b : Bool) : notD (.bl b) = .ok (.bl (!b)) := rfl
def drawOne (cell place k left : Int) : Int × Int :=
  if 0 < left then (left % 5040, left / 5040)
  else ((((cell * 48271 + (k + 1) * 69621 + place * 1000003) % 2147483647 * ((cell * 48271 + (k + 1) * 69621 + place * 1000003) % 2147483647) + (k + 3) * 40692) % 2147483399 / 7) % 5040, left)
def drawsGo (cell place : Int) : Nat → Nat → Int → List Int
  | 0, _, _ => []
  | n + 1, k, left => (drawOne cell place k left).1 :: drawsGo cell place n (k + 1) (drawOne cell place k left).2
def drawCell (l : List Int) (p : Nat) : Int := match l[p]? with | some c => c | none => 0
def drawsL (l : List Int) (p n : Nat) : List Int := drawsGo (drawCell l p) p n 0 (if 1000000000000000000 ≤ drawCell l p then drawCell l p else 0)
def semDraws : List D → R D
  | [.scr l, .int p, .int n] => if 0 ≤ p ∧ 0 ≤ n ∧ n ≤ 1000 then .ok (.lst ((drawsL l p.toNat n.toNat).map D.int)) else .bad
  | _ => .bad
theorem drawsGo_len (cell place : Int) : ∀ (n k : Nat) (left : Int), (drawsGo cell place n k left).length = n
  | 0, _, _ => rfl
  | n + 1, k, left => by rw [drawsGo, List.length_cons, drawsGo_len]
theorem drawOne_bd (cell place k left : Int) : 0 ≤ (drawOne cell place k left).1 ∧ (drawOne cell place k left).1 < 5040 := by
  unfold drawOne
  split <;> (dsimp only; omega)
theorem drawsGo_bd (cell place : Int) : ∀ (n k : Nat) (left : Int), ∀ d ∈ drawsGo cell place n k left, 0 ≤ d ∧ d < 5040
  | 0, _, _ => fun d h => by cases h
  | n + 1, k, left => fun d h => by
    rw [drawsGo] at h
    rcases List.mem_cons.mp h with e | h
    · rw [e]; exact drawOne_bd _ _ _ _
    · exact drawsGo_bd cell place n _ _ d h
theorem drawsL_len (l : List Int) (p n : Nat) : (drawsL l p n).length = n := drawsGo_len _ _ _ _ _
theorem drawsL_bd (l : List Int) (p n : Nat) : ∀ d ∈ drawsL l p n, 0 ≤ d ∧ d < 5040 := drawsGo_bd _ _ _ _ _

def bodyDraws : Sm :=
  (.ifs (.cmp .gt (.var 4) (.int 0))
  (.app 5 (.bin .mod (.f1 .int (.var 4)) (.int 5040))
  (.asg 4 (.bin .fdiv (.var 4) (.int 5040))
  .nil))
  (.asg 7 (.bin .mod (.f1 .int (.bin .add (.bin .add (.bin .mul (.var 3) (.int 48271)) (.bin .mul (.bin .add (.var 6) (.int 1)) (.int 69621))) (.bin .mul (.var 1) (.int 1000003)))) (.int 2147483647))
  (.asg 7 (.bin .mod (.f1 .int (.bin .add (.bin .mul (.var 7) (.var 7)) (.bin .mul (.bin .add (.var 6) (.int 3)) (.int 40692)))) (.int 2147483399))
  (.app 5 (.bin .mod (.f1 .int (.bin .fdiv (.var 7) (.int 7))) (.int 5040))
  .nil)))
  .nil)
def bDraws : Sm :=
  (.asg 3 (.int 0)
  (.ifs (.cmp .lt (.var 1) (.f1 .len (.var 0)))
  (.asg 3 (.f1 .int (.item (.var 0) (.var 1)))
  .nil)
  .nil
  (.asg 4 (.int 0)
  (.ifs (.cmp .ge (.var 3) (.bin .pow (.int 10) (.int 18)))
  (.asg 4 (.var 3)
  .nil)
  .nil
  (.asgO 5 (.lst .nil)
  (.loop [6] [6, 7] true (.cons (.var 2) .nil)
  bodyDraws
  (.frz 5 (.ret (.var 5)))))))))
theorem draws_body (M : Mng) (c0 c2 c6 c7 : Cell) (p cell left : Int) (k : Nat) (acc : List D) (h : acc.length < 16777216) :
    ∃ x y, evS M bodyDraws [c0, .val (.int p), c2, .val (.int cell), .val (.int left), .ownL acc, .val (.int k), .dead] = .next [c0, .val (.int p), c2, .val (.int cell), .val (.int (drawOne cell p k left).2), .ownL (acc ++ [.int (drawOne cell p k left).1]), x, y] := by
  by_cases hl : 0 < left
  · refine ⟨.val (.int k), .dead, ?_⟩
    simp (config := { implicitDefEqProofs := false }) [evS, evE, evL, borrow, binD, cmpD, onL, killG, ofOk, bindOk, atNext, atRet, atExc, truB, truI, intK, lenL, lenS, lenT, andK, orK, notK, addK, subK, modK, mulK, fdivK, powK, ltK, leK, eqK, bodyDraws, drawOne, hl, h]
  · have m1 : ∀ a : Int, -18446744073709551616 < a % 2147483647 ∧ a % 2147483647 < 18446744073709551616 := fun a => by omega
    refine ⟨.val (.int k), .val (.int (((cell * 48271 + ((k : Int) + 1) * 69621 + p * 1000003) % 2147483647 * ((cell * 48271 + ((k : Int) + 1) * 69621 + p * 1000003) % 2147483647) + ((k : Int) + 3) * 40692) % 2147483399)), ?_⟩
    simp (config := { implicitDefEqProofs := false }) [evS, evE, evL, borrow, binD, cmpD, onL, killG, ofOk, bindOk, atNext, atRet, atExc, truB, truI, intK, lenL, lenS, lenT, andK, orK, notK, addK, subK, modK, mulK, fdivK, powK, ltK, leK, eqK, bodyDraws, drawOne, hl, h, m1]
theorem draws_loop (M : Mng) (c0 c2 : Cell) (p cell : Int) : ∀ (n k : Nat) (left : Int) (acc : List D) (x y : Cell), acc.length + n ≤ 16777216 →
    ∃ left' x' y', forD [6] [6, 7] (evS M bodyDraws) ((List.range' k n).map fun j => .int (j : Nat)) [c0, .val (.int p), c2, .val (.int cell), .val (.int left), .ownL acc, x, y] =
      .next [c0, .val (.int p), c2, .val (.int cell), .val (.int left'), .ownL (acc ++ (drawsGo cell p n k left).map D.int), x', y']
  | 0, k, left, acc, x, y, h => ⟨left, .dead, .dead, by simp [forD, killG, drawsGo]⟩
  | n + 1, k, left, acc, x, y, h => by
    obtain ⟨x1, y1, e1⟩ := draws_body M c0 c2 .dead .dead p cell left k acc (by omega)
    obtain ⟨l2, x2, y2, e2⟩ := draws_loop M c0 c2 p cell n (k + 1) (drawOne cell p k left).2 (acc ++ [.int (drawOne cell p k left).1]) x1 y1 (by simp; omega)
    refine ⟨l2, x2, y2, ?_⟩
    rw [List.range'_succ, List.map_cons, forD]
    have e0 : tgtD (killG [c0, .val (.int p), c2, .val (.int cell), .val (.int left), .ownL acc, x, y] [6, 7]) [6] (.int (k : Nat)) = .ok [c0, .val (.int p), c2, .val (.int cell), .val (.int left), .ownL acc, .val (.int k), .dead] := rfl
    rw [e0]
    show (match evS M bodyDraws _ with | .next Γ2 => _ | .cont Γ2 => _ | .brk Γ2 => _ | o => o) = _
    rw [e1]
    show forD _ _ _ _ _ = _
    rw [e2, drawsGo]
    simp
theorem int_range (n : Nat) : ((List.range n).map fun k => D.int (k : Nat)) = (List.range' 0 n).map fun j => D.int (j : Nat) := by rw [List.range_eq_range']

theorem atI_nat {α : Type} (l : List α) (p : Nat) : atI l (p : Int) = l[p]? := by
  unfold atI ixN
  by_cases h : p < l.length
  · rw [if_pos (by omega), if_pos (by omega)]
    rfl
  · rw [if_pos (by omega), if_neg (by omega), List.getElem?_eq_none (by omega)]
    rfl
def N_draws : List Str := ["_law_script", "_law_place", "_law_count", "_law_cell", "_law_left", "_law_draws_here", "_law_k", "_law_mixed"]
theorem ev_draws (M : Mng) (ds : List D) (h : semDraws ds ≠ .bad) : outR (evS M bDraws (gam0 N_draws ds)) = semDraws ds := by
  unfold semDraws at h ⊢
  split at h
  · rename_i l p n
    split at h
    · rename_i hc
      obtain ⟨hp, hn, hn2⟩ := hc
      obtain ⟨p, rfl⟩ : ∃ q : Nat, p = (q : Int) := ⟨p.toNat, by omega⟩
      obtain ⟨n, rfl⟩ : ∃ q : Nat, n = (q : Int) := ⟨n.toNat, by omega⟩
      have g0 : gam0 N_draws [.scr l, .int p, .int n] = [.val (.scr l), .val (.int p), .val (.int n), .dead, .dead, .dead, .dead, .dead] := rfl
      rw [g0, if_pos ⟨hp, hn, hn2⟩]
      have hcell : ∀ k : Sm, evS M (.asg 3 (.int 0) (.ifs (.cmp .lt (.var 1) (.f1 .len (.var 0))) (.asg 3 (.f1 .int (.item (.var 0) (.var 1))) .nil) .nil k)) [.val (.scr l), .val (.int p), .val (.int n), .dead, .dead, .dead, .dead, .dead] =
          evS M k [.val (.scr l), .val (.int p), .val (.int n), .val (.int (drawCell l p)), .dead, .dead, .dead, .dead] := by
        intro k
        unfold drawCell
        by_cases hl : p < l.length
        · have e1 : l[p]? = some l[p] := List.getElem?_eq_getElem hl
          simp (config := { implicitDefEqProofs := false }) [evS, evE, evL, borrow, binD, cmpD, onL, killG, ofOk, bindOk, atNext, atRet, atExc, truB, truI, intK, lenL, lenS, lenT, andK, orK, notK, addK, subK, modK, mulK, fdivK, powK, ltK, leK, eqK, itemD, atI_nat, hl, e1]
        · have e1 : l[p]? = none := List.getElem?_eq_none (by omega)
          simp (config := { implicitDefEqProofs := false }) [evS, evE, evL, borrow, binD, cmpD, onL, killG, ofOk, bindOk, atNext, atRet, atExc, truB, truI, intK, lenL, lenS, lenT, andK, orK, notK, addK, subK, modK, mulK, fdivK, powK, ltK, leK, eqK, hl, e1]
      have hleft : ∀ k : Sm, evS M (.asg 4 (.int 0) (.ifs (.cmp .ge (.var 3) (.bin .pow (.int 10) (.int 18))) (.asg 4 (.var 3) .nil) .nil k)) [.val (.scr l), .val (.int p), .val (.int n), .val (.int (drawCell l p)), .dead, .dead, .dead, .dead] =
          evS M k [.val (.scr l), .val (.int p), .val (.int n), .val (.int (drawCell l p)), .val (.int (if 1000000000000000000 ≤ drawCell l p then drawCell l p else 0)), .dead, .dead, .dead] := by
        intro k
        by_cases hl : 1000000000000000000 ≤ drawCell l p
        · simp (config := { implicitDefEqProofs := false }) [evS, evE, evL, borrow, binD, cmpD, onL, killG, ofOk, bindOk, atNext, atRet, atExc, truB, truI, intK, lenL, lenS, lenT, andK, orK, notK, addK, subK, modK, mulK, fdivK, powK, ltK, leK, eqK, hl]
        · simp (config := { implicitDefEqProofs := false }) [evS, evE, evL, borrow, binD, cmpD, onL, killG, ofOk, bindOk, atNext, atRet, atExc, truB, truI, intK, lenL, lenS, lenT, andK, orK, notK, addK, subK, modK, mulK, fdivK, powK, ltK, leK, eqK, hl]
      unfold bDraws drawsL
      rw [hcell, hleft, Int.toNat_natCast, Int.toNat_natCast]
      generalize (if 1000000000000000000 ≤ drawCell l p then drawCell l p else 0) = left
      obtain ⟨l2, x2, y2, e2⟩ := draws_loop M (.val (.scr l)) (.val (.int n)) p (drawCell l p) n 0 left [] .dead .dead (by simp; omega)
      have ha : ∀ (k : Sm) (Γ : Gam), evS M (.asgO 5 (.lst .nil) k) Γ = evS M k (Γ.set 5 (.ownL [])) := fun k Γ => by simp (config := { implicitDefEqProofs := false }) [evS, evE, evL, borrow, binD, cmpD, onL, killG, ofOk, bindOk, atNext, atRet, atExc, truB, truI, intK, lenL, lenS, lenT, andK, orK, notK, addK, subK, modK, mulK, fdivK, powK, ltK, leK, eqK]
      have hl : ∀ (it : E) (b k : Sm) (Γ : Gam), evS M (.loop [6] [6, 7] true it b k) Γ = Out.of Γ (if true then (evL M it Γ).bind fun ds => walkD true (.tup ds) else (evE M it Γ).bind fun d => walkD false d) fun items => (forD [6] [6, 7] (evS M b) items Γ).andThen (evS M k) := fun _ _ _ _ => rfl
      rw [ha, hl]
      have es : ([Cell.val (D.scr l), Cell.val (D.int ↑p), Cell.val (D.int ↑n), Cell.val (D.int (drawCell l p)), Cell.val (D.int left), Cell.dead, Cell.dead, Cell.dead] : Gam).set 5 (Cell.ownL []) = [.val (.scr l), .val (.int p), .val (.int n), .val (.int (drawCell l p)), .val (.int left), .ownL [], .dead, .dead] := rfl
      have hw' : (if true = true then (evL M (.cons (.var 2) .nil) [.val (.scr l), .val (.int p), .val (.int n), .val (.int (drawCell l p)), .val (.int left), .ownL [], .dead, .dead]).bind fun ds => walkD true (.tup ds) else (evE M (.cons (.var 2) .nil) [.val (.scr l), .val (.int p), .val (.int n), .val (.int (drawCell l p)), .val (.int left), .ownL [], .dead, .dead]).bind fun d => walkD false d) = .ok ((List.range' 0 n).map fun j => D.int (j : Nat)) := by
        have hb : -4611686018427387904 ≤ (n : Int) ∧ (n : Int) < 4611686018427387904 := by omega
        simp (config := { implicitDefEqProofs := false }) [evS, evE, evL, borrow, binD, cmpD, onL, killG, ofOk, bindOk, atNext, atRet, atExc, truB, truI, intK, lenL, lenS, lenT, andK, orK, notK, addK, subK, modK, mulK, fdivK, powK, ltK, leK, eqK, walkD, hb, List.range_eq_range']
      rw [es, hw', ofOk, e2, atNext]
      simp (config := { implicitDefEqProofs := false }) [evS, evE, evL, borrow, binD, cmpD, onL, killG, ofOk, bindOk, atNext, atRet, atExc, truB, truI, intK, lenL, lenS, lenT, andK, orK, notK, addK, subK, modK, mulK, fdivK, powK, ltK, leK, eqK, frzG, outR]
    · exact absurd rfl h
  · exact absurd rfl h
end G

set_option Elab.async false
set_option linter.all false
set_option maxRecDepth 100000
set_option maxHeartbeats 4000000
namespace G
open PySem L2
/-! ### the text -/
def top (i : Nat) : Stmt := PySem.Challenge.pw_piecefinds_k02_span_order.main.body.getD i (.Pass ⟨0, 0, 0, 0⟩)
abbrev s_law_draws : Stmt := top 7
abbrev s_law_number : Stmt := top 8
def N_law_number : List Str := ["_law_draws_here", "_law_at", "_law_bound"]
def b_law_number : Sm :=
  (.ret (.bin .mod (.f1 .int (.bin .add (.bin .mul (.item (.var 0) (.var 1)) (.int 5040)) (.item (.var 0) (.bin .add (.var 1) (.int 1))))) (.var 2)))
abbrev s_is_number : Stmt := top 4
def N_is_number : List Str := ["value"]
def b_is_number : Sm :=
  (.ret (.and (.isi [.b "int"] (.var 0)) (.last (.not (.isi [.b "bool"] (.var 0))))))
abbrev s_Span_DinitD : Stmt := inClass (top 5) 1
def N_Span_DinitD : List Str := ["self", "start", "end"]
def b_Span_DinitD : Sm :=
  (.ifs (.or (.not (.call 4 (.cons (.var 1) .nil))) (.last (.not (.call 4 (.cons (.var 2) .nil)))))
  (.raise 0)
  .nil
  (.ifs (.or (.cmp .lt (.var 1) (.int 0)) (.or (.cmp .lt (.var 2) (.var 1)) (.last (.cmp .gt (.var 2) (.call 0 .nil)))))
  (.raise 0)
  .nil
  (.setf 0 0 (.var 1)
  (.setf 0 1 (.var 2)
  .nil))))
abbrev s_Span_DltD : Stmt := inClass (top 5) 4
def N_Span_DltD : List Str := ["self", "other"]
def b_Span_DltD : Sm :=
  (.ifs (.not (.isi [.c 0] (.var 1)))
  .any
  .nil
  (.ret (.call 13 (.cons (.tup (.cons (.fld 0 (.var 0)) (.cons (.fld 1 (.var 0)) .nil))) (.cons (.tup (.cons (.fld 0 (.var 1)) (.cons (.fld 1 (.var 1)) .nil))) .nil)))))
abbrev s_Span_DleD : Stmt := inClass (top 5) 5
def N_Span_DleD : List Str := ["self", "other"]
def b_Span_DleD : Sm :=
  (.ifs (.not (.isi [.c 0] (.var 1)))
  .any
  .nil
  (.ret (.call 14 (.cons (.tup (.cons (.fld 0 (.var 0)) (.cons (.fld 1 (.var 0)) .nil))) (.cons (.tup (.cons (.fld 0 (.var 1)) (.cons (.fld 1 (.var 1)) .nil))) .nil)))))
abbrev s_Span_DgtD : Stmt := inClass (top 5) 6
def N_Span_DgtD : List Str := ["self", "other"]
def b_Span_DgtD : Sm :=
  (.ifs (.not (.isi [.c 0] (.var 1)))
  .any
  .nil
  (.ret (.call 15 (.cons (.tup (.cons (.fld 0 (.var 0)) (.cons (.fld 1 (.var 0)) .nil))) (.cons (.tup (.cons (.fld 0 (.var 1)) (.cons (.fld 1 (.var 1)) .nil))) .nil)))))
abbrev s_Span_DgeD : Stmt := inClass (top 5) 7
def N_Span_DgeD : List Str := ["self", "other"]
def b_Span_DgeD : Sm :=
  (.ifs (.not (.isi [.c 0] (.var 1)))
  .any
  .nil
  (.ret (.call 16 (.cons (.tup (.cons (.fld 0 (.var 0)) (.cons (.fld 1 (.var 0)) .nil))) (.cons (.tup (.cons (.fld 0 (.var 1)) (.cons (.fld 1 (.var 1)) .nil))) .nil)))))
abbrev s_Span_DeqD : Stmt := inClass (top 5) 2
def N_Span_DeqD : List Str := ["self", "other"]
def b_Span_DeqD : Sm :=
  (.ret (.and (.isi [.c 0] (.var 1)) (.and (.cmp .eq (.fld 0 (.var 0)) (.fld 0 (.var 1))) (.last (.cmp .eq (.fld 1 (.var 0)) (.fld 1 (.var 1)))))))
abbrev s_Span_DneD : Stmt := inClass (top 5) 3
def N_Span_DneD : List Str := ["self", "other"]
def b_Span_DneD : Sm :=
  (.ret (.or (.not (.isi [.c 0] (.var 1))) (.or (.cmp .ne (.fld 0 (.var 0)) (.fld 0 (.var 1))) (.last (.cmp .ne (.fld 1 (.var 0)) (.fld 1 (.var 1)))))))
abbrev s_law_pair : Stmt := top 9
def N_law_pair : List Str := ["_law_draws_here", "_law_at", "_law_small", "_law_start", "_law_end"]
def b_law_pair : Sm :=
  (.asg 3 (.call 3 (.cons (.var 0) (.cons (.var 1) (.cons (.int 1000001) .nil))))
  (.asg 4 (.call 3 (.cons (.var 0) (.cons (.bin .add (.var 1) (.int 2)) (.cons (.int 1000001) .nil))))
  (.ifs (.var 2)
  (.asg 3 (.bin .mod (.f1 .int (.var 3)) (.int 9))
  (.asg 4 (.bin .mod (.f1 .int (.var 4)) (.int 9))
  .nil))
  .nil
  (.ifs (.cmp .lt (.var 4) (.var 3))
  (.ret (.tup (.cons (.var 4) (.cons (.var 3) .nil))))
  .nil
  (.ret (.tup (.cons (.var 3) (.cons (.var 4) .nil))))))))
abbrev s_law : Stmt := top 10
def N_law : List Str := ["_law_script", "_law_draws_here", "_law_small", "_law_first", "_law_second", "_law_choice", "_law_one", "_law_two", "_law_actual", "_law_less", "_law_same", "_law_expected", "_law_k"]
def b_law : Sm :=
  (.asg 1 (.call 2 (.cons (.var 0) (.cons (.int 0) (.cons (.int 10) .nil))))
  (.asg 2 (.cmp .eq (.bin .mod (.f1 .int (.item (.var 1) (.int 8))) (.int 3)) (.int 0))
  (.asg 3 (.call 12 (.cons (.var 1) (.cons (.int 0) (.cons (.var 2) .nil))))
  (.asg 4 (.call 12 (.cons (.var 1) (.cons (.int 4) (.cons (.var 2) .nil))))
  (.asg 5 (.bin .mod (.f1 .int (.item (.var 1) (.int 9))) (.int 4))
  (.ifs (.cmp .eq (.var 5) (.int 1))
  (.asg 4 (.var 3)
  .nil)
  .nil
  (.ifs (.and (.cmp .eq (.var 5) (.int 2)) (.last (.cmp .ge (.item (.var 4) (.int 1)) (.item (.var 3) (.int 0)))))
  (.asg 4 (.tup (.cons (.item (.var 3) (.int 0)) (.cons (.item (.var 4) (.int 1)) .nil)))
  .nil)
  .nil
  (.ifs (.and (.cmp .eq (.var 5) (.int 3)) (.last (.cmp .le (.item (.var 4) (.int 0)) (.item (.var 3) (.int 1)))))
  (.asg 4 (.tup (.cons (.item (.var 4) (.int 0)) (.cons (.item (.var 3) (.int 1)) .nil)))
  .nil)
  .nil
  (.asg 6 (.call 5 (.cons (.item (.var 3) (.int 0)) (.cons (.item (.var 3) (.int 1)) .nil)))
  (.asg 7 (.call 5 (.cons (.item (.var 4) (.int 0)) (.cons (.item (.var 4) (.int 1)) .nil)))
  (.asg 8 (.lst (.cons (.call 6 (.cons (.var 6) (.cons (.var 7) .nil))) (.cons (.call 7 (.cons (.var 6) (.cons (.var 7) .nil))) (.cons (.call 8 (.cons (.var 6) (.cons (.var 7) .nil))) (.cons (.call 9 (.cons (.var 6) (.cons (.var 7) .nil))) (.cons (.call 10 (.cons (.var 6) (.cons (.var 7) .nil))) (.cons (.call 11 (.cons (.var 6) (.cons (.var 7) .nil))) .nil)))))))
  (.asg 9 (.call 13 (.cons (.var 3) (.cons (.var 4) .nil)))
  (.asg 10 (.cmp .eq (.var 3) (.var 4))
  (.asg 11 (.lst (.cons (.var 9) (.cons (.or (.var 9) (.last (.var 10))) (.cons (.and (.not (.var 9)) (.last (.not (.var 10)))) (.cons (.not (.var 9)) (.cons (.var 10) (.cons (.not (.var 10)) .nil)))))))
  (.loop [12] [12] true (.cons (.int 6) .nil)
  (.ifs (.or (.not (.isi [.b "bool"] (.item (.var 8) (.var 12)))) (.last (.cmp .ne (.item (.var 8) (.var 12)) (.item (.var 11) (.var 12)))))
  (.ret (.bl false))
  .nil
  .nil)
  (.ret (.bl true)))))))))))))))))
def tb : Tb where
  fname := fun n => if n = 0 then "start" else "end"
  gname := fun _ => none
  cname := fun n => if n = 0 then some "Span" else none
  ename := fun n => if n = 0 then some "BadSpan" else none
  cb := fun n => match n with
    | 0 => some (catArgs "Span" "LIMIT")
    | 2 => some (cbArgs (.fn "_law_draws") 3)
    | 3 => some (cbArgs (.fn "_law_number") 3)
    | 4 => some (cbArgs (.fn "is_number") 1)
    | 5 => some (cbArgs (.fn "Span") 2)
    | 6 => some (cmpArgs .lt)
    | 7 => some (cmpArgs .le)
    | 8 => some (cmpArgs .gt)
    | 9 => some (cmpArgs .ge)
    | 10 => some (cmpArgs .eq)
    | 11 => some (cmpArgs .ne)
    | 12 => some (cbArgs (.fn "_law_pair") 3)
    | 13 => some (cmpArgs .lt)
    | 14 => some (cmpArgs .le)
    | 15 => some (cmpArgs .gt)
    | 16 => some (cmpArgs .ge)
    | _ => none
  cm := fun _ => none
  ow := fun _ => none
  hs := fun _ => none
/-! ### the meaning -/
def semNumber : List D → R D
  | [.lst l, .int a, .int b] => match atI l a, atI l (a + 1) with
    | some (.int x), some (.int y) => if 0 < b then .ok (.int ((x * 5040 + y) % b)) else .bad
    | _, _ => .bad
  | _ => .bad
def semIsNum : List D → R D
  | [.int _] => .ok (.bl true)
  | _ => .bad
def semSpan : List D → R D
  | [.int a, .int b] => if 0 ≤ a ∧ a ≤ b ∧ b ≤ 1000000 then .ok (.obj 0 [.int a, .int b]) else .exc 0
  | _ => .bad
def pLt (a b c d : Int) : Bool := if a = c then (if b = d then false else decide (b < d)) else decide (a < c)
def pLe (a b c d : Int) : Bool := if a = c then (if b = d then true else decide (b ≤ d)) else decide (a ≤ c)
def pGt (a b c d : Int) : Bool := if a = c then (if b = d then false else decide (d < b)) else decide (c < a)
def pGe (a b c d : Int) : Bool := if a = c then (if b = d then true else decide (d ≤ b)) else decide (c ≤ a)
def sem4 (f : Int → Int → Int → Int → Bool) : List D → R D
  | [.obj 0 [.int a, .int b], .obj 0 [.int c, .int d]] => .ok (.bl (f a b c d))
  | _ => .bad
def pEq (a b c d : Int) : Bool := a == c && b == d
def pNe (a b c d : Int) : Bool := !(a == c) || !(b == d)
def semPair : List D → R D
  | [.lst l, .int p, .bl sm] => match semNumber [.lst l, .int p, .int 1000001], semNumber [.lst l, .int (p + 2), .int 1000001] with
    | .ok (.int s), .ok (.int t) =>
      let s' := if sm then s % 9 else s
      let t' := if sm then t % 9 else t
      .ok (.tup (if t' < s' then [.int t', .int s'] else [.int s', .int t']))
    | _, _ => .bad
  | _ => .bad
def subT : Ty → Ty → Option Bool
  | .b "int", .b "int" => some true
  | .b "int", .b "bool" => some false
  | .b "bool", .b "bool" => some true
  | .c 0, .c 0 => some true
  | _, _ => none
def M2 : Mng where
  flds := fun c => if c = 0 then [0, 1] else []
  fn := fun n => match n with
    | 0 => fun _ => .ok (.int 1000000)
    | 2 => semDraws
    | 3 => semNumber
    | 4 => semIsNum
    | 5 => semSpan
    | 6 => sem2 (cmpS 0 (sem4 pLt))
    | 7 => sem2 (cmpS 0 (sem4 pLe))
    | 8 => sem2 (cmpS 0 (sem4 pGt))
    | 9 => sem2 (cmpS 0 (sem4 pGe))
    | 10 => sem2 (cmpS 0 (sem4 pEq))
    | 11 => sem2 (cmpS 0 (sem4 pNe))
    | 12 => semPair
    | 13 => sem2 (pairS (fun a b => decide (a < b)) false)
    | 14 => sem2 (pairS (fun a b => decide (a ≤ b)) true)
    | 15 => sem2 (pairS (fun a b => decide (b < a)) false)
    | 16 => sem2 (pairS (fun a b => decide (b ≤ a)) true)
    | _ => fun _ => .bad
  gl := fun _ => .non
  sub := subT
  ow := fun _ _ _ => .bad
  hs := fun _ _ => .bad
theorem ev_number (ds : List D) (h : semNumber ds ≠ .bad) : outR (evS M2 b_law_number (gam0 N_law_number ds)) = semNumber ds := by
  unfold semNumber at h ⊢
  split at h
  · rename_i l a b
    split at h
    · rename_i x y e1 e2
      split at h
      · rename_i hb
        have g0 : gam0 N_law_number [.lst l, .int a, .int b] = [.val (.lst l), .val (.int a), .val (.int b)] := rfl
        rw [g0]
        simp (config := { implicitDefEqProofs := false }) [evS, evE, evL, borrow, binD, cmpD, onL, killG, ofOk, bindOk, atNext, atRet, atExc, truB, truI, intK, lenL, lenS, lenT, andK, orK, notK, addK, subK, modK, mulK, fdivK, powK, ltK, leK, eqK, b_law_number, itemD, e1, e2, hb, outR]
      · exact absurd rfl h
    · exact absurd rfl h
  · exact absurd rfl h
theorem ev_isnum (ds : List D) (h : semIsNum ds ≠ .bad) : outR (evS M2 b_is_number (gam0 N_is_number ds)) = semIsNum ds := by
  unfold semIsNum at h ⊢
  split at h <;> first | rfl | exact absurd rfl h
theorem fnLim (ds : List D) : M2.fn 0 ds = .ok (.int 1000000) := rfl
theorem fnDraws (ds : List D) : M2.fn 2 ds = semDraws ds := rfl
theorem fnNumber (ds : List D) : M2.fn 3 ds = semNumber ds := rfl
theorem fnIsNum (ds : List D) : M2.fn 4 ds = semIsNum ds := rfl
theorem fnSpan (ds : List D) : M2.fn 5 ds = semSpan ds := rfl
theorem isNumI (i : Int) : semIsNum [.int i] = .ok (.bl true) := rfl
theorem fld0 (l : D) (r : List D) : fldD M2 0 (.obj 0 (l :: r)) = .ok l := rfl
theorem fld1 (k l : D) (r : List D) : fldD M2 1 (.obj 0 (k :: l :: r)) = .ok l := rfl
theorem andB (a b : Bool) : andD (.bl a) (.ok (.bl b)) = .ok (.bl (a && b)) := by cases a <;> rfl
theorem orB (a b : Bool) : orD (.bl a) (.ok (.bl b)) = .ok (.bl (a || b)) := by cases a <;> rfl
theorem eqB (a b : Bool) : eqD (.bl a) (.bl b) = .ok (a == b) := rfl
theorem ev_init (ds : List D) (h : semSpan ds ≠ .bad) : outI M2 0 (evS M2 b_Span_DinitD (gamI N_Span_DinitD 0 ds)) = semSpan ds := by
  unfold semSpan at h ⊢
  split at h
  · rename_i a b
    have g0 : gamI N_Span_DinitD 0 [.int a, .int b] = [.ownI 0 [], .val (.int a), .val (.int b)] := rfl
    have f0 : M2.flds 0 = [0, 1] := rfl
    rw [g0]
    by_cases h0 : a < 0
    · rw [if_neg (by omega)]
      simp (config := { implicitDefEqProofs := false }) [evS, evE, evL, borrow, binD, cmpD, onL, killG, ofOk, bindOk, atNext, atRet, atExc, truB, truI, intK, lenL, lenS, lenT, andK, orK, notK, addK, subK, modK, mulK, fdivK, powK, ltK, leK, eqK, b_Span_DinitD, fnIsNum, isNumI, fnLim, h0, outI]
    · by_cases h1 : b < a
      · rw [if_neg (by omega)]
        simp (config := { implicitDefEqProofs := false }) [evS, evE, evL, borrow, binD, cmpD, onL, killG, ofOk, bindOk, atNext, atRet, atExc, truB, truI, intK, lenL, lenS, lenT, andK, orK, notK, addK, subK, modK, mulK, fdivK, powK, ltK, leK, eqK, b_Span_DinitD, fnIsNum, isNumI, fnLim, h0, h1, outI]
      · by_cases h2 : 1000000 < b
        · rw [if_neg (by omega)]
          simp (config := { implicitDefEqProofs := false }) [evS, evE, evL, borrow, binD, cmpD, onL, killG, ofOk, bindOk, atNext, atRet, atExc, truB, truI, intK, lenL, lenS, lenT, andK, orK, notK, addK, subK, modK, mulK, fdivK, powK, ltK, leK, eqK, b_Span_DinitD, fnIsNum, isNumI, fnLim, h0, h1, h2, outI]
        · rw [if_pos (by omega)]
          simp (config := { implicitDefEqProofs := false }) [evS, evE, evL, borrow, binD, cmpD, onL, killG, ofOk, bindOk, atNext, atRet, atExc, truB, truI, intK, lenL, lenS, lenT, andK, orK, notK, addK, subK, modK, mulK, fdivK, powK, ltK, leK, eqK, b_Span_DinitD, fnIsNum, isNumI, fnLim, h0, h1, h2, outI, doneI, f0]
  · exact absurd rfl h
theorem isiO (l : List D) : isiR M2 [.c 0] (.obj 0 l) = .ok (.bl true) := rfl
theorem fn13 (a b c d : Int) : M2.fn 13 [.tup [.int a, .int b], .tup [.int c, .int d]] = .ok (.bl (pLt a b c d)) := rfl
theorem fn14 (a b c d : Int) : M2.fn 14 [.tup [.int a, .int b], .tup [.int c, .int d]] = .ok (.bl (pLe a b c d)) := rfl
theorem fn15 (a b c d : Int) : M2.fn 15 [.tup [.int a, .int b], .tup [.int c, .int d]] = .ok (.bl (pGt a b c d)) := rfl
theorem fn16 (a b c d : Int) : M2.fn 16 [.tup [.int a, .int b], .tup [.int c, .int d]] = .ok (.bl (pGe a b c d)) := rfl
theorem ev_lt (ds : List D) (h : sem4 pLt ds ≠ .bad) : outR (evS M2 b_Span_DltD (gam0 N_Span_DltD ds)) = sem4 pLt ds := by
  unfold sem4 at h ⊢
  split at h
  · rename_i a b c d
    have g0 : gam0 N_Span_DltD [.obj 0 [.int a, .int b], .obj 0 [.int c, .int d]] = [.val (.obj 0 [.int a, .int b]), .val (.obj 0 [.int c, .int d])] := rfl
    have l2 : 2 ≤ LINE := by decide
    rw [g0]
    simp (config := { implicitDefEqProofs := false }) [evS, evE, evL, borrow, binD, cmpD, onL, killG, ofOk, bindOk, atNext, atRet, atExc, truB, truI, intK, lenL, lenS, lenT, andB, orB, eqB, notK, addK, subK, modK, mulK, fdivK, powK, ltK, leK, eqK, b_Span_DltD, isiO, fld0, fld1, fn13, l2, outR]
  · exact absurd rfl h
theorem ev_le (ds : List D) (h : sem4 pLe ds ≠ .bad) : outR (evS M2 b_Span_DleD (gam0 N_Span_DleD ds)) = sem4 pLe ds := by
  unfold sem4 at h ⊢
  split at h
  · rename_i a b c d
    have g0 : gam0 N_Span_DleD [.obj 0 [.int a, .int b], .obj 0 [.int c, .int d]] = [.val (.obj 0 [.int a, .int b]), .val (.obj 0 [.int c, .int d])] := rfl
    have l2 : 2 ≤ LINE := by decide
    rw [g0]
    simp (config := { implicitDefEqProofs := false }) [evS, evE, evL, borrow, binD, cmpD, onL, killG, ofOk, bindOk, atNext, atRet, atExc, truB, truI, intK, lenL, lenS, lenT, andB, orB, eqB, notK, addK, subK, modK, mulK, fdivK, powK, ltK, leK, eqK, b_Span_DleD, isiO, fld0, fld1, fn14, l2, outR]
  · exact absurd rfl h
theorem ev_gt (ds : List D) (h : sem4 pGt ds ≠ .bad) : outR (evS M2 b_Span_DgtD (gam0 N_Span_DgtD ds)) = sem4 pGt ds := by
  unfold sem4 at h ⊢
  split at h
  · rename_i a b c d
    have g0 : gam0 N_Span_DgtD [.obj 0 [.int a, .int b], .obj 0 [.int c, .int d]] = [.val (.obj 0 [.int a, .int b]), .val (.obj 0 [.int c, .int d])] := rfl
    have l2 : 2 ≤ LINE := by decide
    rw [g0]
    simp (config := { implicitDefEqProofs := false }) [evS, evE, evL, borrow, binD, cmpD, onL, killG, ofOk, bindOk, atNext, atRet, atExc, truB, truI, intK, lenL, lenS, lenT, andB, orB, eqB, notK, addK, subK, modK, mulK, fdivK, powK, ltK, leK, eqK, b_Span_DgtD, isiO, fld0, fld1, fn15, l2, outR]
  · exact absurd rfl h
theorem ev_ge (ds : List D) (h : sem4 pGe ds ≠ .bad) : outR (evS M2 b_Span_DgeD (gam0 N_Span_DgeD ds)) = sem4 pGe ds := by
  unfold sem4 at h ⊢
  split at h
  · rename_i a b c d
    have g0 : gam0 N_Span_DgeD [.obj 0 [.int a, .int b], .obj 0 [.int c, .int d]] = [.val (.obj 0 [.int a, .int b]), .val (.obj 0 [.int c, .int d])] := rfl
    have l2 : 2 ≤ LINE := by decide
    rw [g0]
    simp (config := { implicitDefEqProofs := false }) [evS, evE, evL, borrow, binD, cmpD, onL, killG, ofOk, bindOk, atNext, atRet, atExc, truB, truI, intK, lenL, lenS, lenT, andB, orB, eqB, notK, addK, subK, modK, mulK, fdivK, powK, ltK, leK, eqK, b_Span_DgeD, isiO, fld0, fld1, fn16, l2, outR]
  · exact absurd rfl h
theorem ev_eq (ds : List D) (h : sem4 pEq ds ≠ .bad) : outR (evS M2 b_Span_DeqD (gam0 N_Span_DeqD ds)) = sem4 pEq ds := by
  unfold sem4 at h ⊢
  split at h
  · rename_i a b c d
    have g0 : gam0 N_Span_DeqD [.obj 0 [.int a, .int b], .obj 0 [.int c, .int d]] = [.val (.obj 0 [.int a, .int b]), .val (.obj 0 [.int c, .int d])] := rfl
    rw [g0]
    simp (config := { implicitDefEqProofs := false }) [evS, evE, evL, borrow, binD, cmpD, onL, killG, ofOk, bindOk, atNext, atRet, atExc, truB, truI, intK, lenL, lenS, lenT, andB, orB, eqB, notK, addK, subK, modK, mulK, fdivK, powK, ltK, leK, eqK, b_Span_DeqD, isiO, fld0, fld1, outR, pEq]
  · exact absurd rfl h
theorem ev_ne (ds : List D) (h : sem4 pNe ds ≠ .bad) : outR (evS M2 b_Span_DneD (gam0 N_Span_DneD ds)) = sem4 pNe ds := by
  unfold sem4 at h ⊢
  split at h
  · rename_i a b c d
    have g0 : gam0 N_Span_DneD [.obj 0 [.int a, .int b], .obj 0 [.int c, .int d]] = [.val (.obj 0 [.int a, .int b]), .val (.obj 0 [.int c, .int d])] := rfl
    rw [g0]
    simp (config := { implicitDefEqProofs := false }) [evS, evE, evL, borrow, binD, cmpD, onL, killG, ofOk, bindOk, atNext, atRet, atExc, truB, truI, intK, lenL, lenS, lenT, andB, orB, eqB, notK, addK, subK, modK, mulK, fdivK, powK, ltK, leK, eqK, b_Span_DneD, isiO, fld0, fld1, outR, pNe]
  · exact absurd rfl h
theorem ev_pair (ds : List D) (h : semPair ds ≠ .bad) : outR (evS M2 b_law_pair (gam0 N_law_pair ds)) = semPair ds := by
  unfold semPair at h ⊢
  split at h
  · rename_i l p sm
    split at h
    · rename_i s t e1 e2
      have g0 : gam0 N_law_pair [.lst l, .int p, .bl sm] = [.val (.lst l), .val (.int p), .val (.bl sm), .dead, .dead] := rfl
      have l2 : 2 ≤ LINE := by decide
      rw [g0]
      cases sm with
      | true =>
        by_cases hlt : t % 9 < s % 9
        · simp (config := { implicitDefEqProofs := false }) [evS, evE, evL, borrow, binD, cmpD, onL, killG, ofOk, bindOk, atNext, atRet, atExc, truB, truI, intK, lenL, lenS, lenT, andB, orB, eqB, notK, addK, subK, modK, mulK, fdivK, powK, ltK, leK, eqK, b_law_pair, fnNumber, e1, e2, hlt, l2, outR]
        · simp (config := { implicitDefEqProofs := false }) [evS, evE, evL, borrow, binD, cmpD, onL, killG, ofOk, bindOk, atNext, atRet, atExc, truB, truI, intK, lenL, lenS, lenT, andB, orB, eqB, notK, addK, subK, modK, mulK, fdivK, powK, ltK, leK, eqK, b_law_pair, fnNumber, e1, e2, hlt, l2, outR]
      | false =>
        by_cases hlt : t < s
        · simp (config := { implicitDefEqProofs := false }) [evS, evE, evL, borrow, binD, cmpD, onL, killG, ofOk, bindOk, atNext, atRet, atExc, truB, truI, intK, lenL, lenS, lenT, andB, orB, eqB, notK, addK, subK, modK, mulK, fdivK, powK, ltK, leK, eqK, b_law_pair, fnNumber, e1, e2, hlt, l2, outR]
        · simp (config := { implicitDefEqProofs := false }) [evS, evE, evL, borrow, binD, cmpD, onL, killG, ofOk, bindOk, atNext, atRet, atExc, truB, truI, intK, lenL, lenS, lenT, andB, orB, eqB, notK, addK, subK, modK, mulK, fdivK, powK, ltK, leK, eqK, b_law_pair, fnNumber, e1, e2, hlt, l2, outR]
    · exact absurd rfl h
  · exact absurd rfl h

/-! ### the law -/
def semLaw : List D → R D
  | [.scr ns] => if ns.length ≤ 63 then .ok (.bl true) else .bad
  | _ => .bad
theorem law_true (ns : List Int) (h : ns.length ≤ 63) : semLaw [.scr ns] = .ok (.bl true) := if_pos h
theorem draws_eq (ns : List Int) (n : Nat) (h : n ≤ 1000) : semDraws [.scr ns, .int 0, .int n] = .ok (.lst ((drawsL ns 0 n).map D.int)) :=
  if_pos (c := (0 : Int) ≤ 0 ∧ (0 : Int) ≤ (n : Int) ∧ (n : Int) ≤ 1000) ⟨by decide, by omega, by omega⟩
theorem ten {α : Type} : ∀ (l : List α), l.length = 10 → ∃ a b c d e f g h i j, l = [a, b, c, d, e, f, g, h, i, j]
  | [a, b, c, d, e, f, g, h, i, j], _ => ⟨a, b, c, d, e, f, g, h, i, j, rfl⟩
theorem span_ok (a b : Int) (h : 0 ≤ a ∧ a ≤ b ∧ b ≤ 1000000) : M2.fn 5 [.int a, .int b] = .ok (.obj 0 [.int a, .int b]) := if_pos h
theorem fnPair (ds : List D) : M2.fn 12 ds = semPair ds := rfl
theorem c6 (a b c d : Int) : M2.fn 6 [.obj 0 [.int a, .int b], .obj 0 [.int c, .int d]] = .ok (.bl (pLt a b c d)) := rfl
theorem c7 (a b c d : Int) : M2.fn 7 [.obj 0 [.int a, .int b], .obj 0 [.int c, .int d]] = .ok (.bl (pLe a b c d)) := rfl
theorem c8 (a b c d : Int) : M2.fn 8 [.obj 0 [.int a, .int b], .obj 0 [.int c, .int d]] = .ok (.bl (pGt a b c d)) := rfl
theorem c9 (a b c d : Int) : M2.fn 9 [.obj 0 [.int a, .int b], .obj 0 [.int c, .int d]] = .ok (.bl (pGe a b c d)) := rfl
theorem c10 (a b c d : Int) : M2.fn 10 [.obj 0 [.int a, .int b], .obj 0 [.int c, .int d]] = .ok (.bl (pEq a b c d)) := rfl
theorem c11 (a b c d : Int) : M2.fn 11 [.obj 0 [.int a, .int b], .obj 0 [.int c, .int d]] = .ok (.bl (pNe a b c d)) := rfl
theorem eqT (a b c d : Int) : eqD (.tup [.int a, .int b]) (.tup [.int c, .int d]) = .ok (pEq a b c d) := by
  show R.ok (a == c && (b == d && true)) = _
  rw [Bool.and_true]
  rfl
theorem dle {b d : Int} (h : ¬ b = d) : decide (b ≤ d) = decide (b < d) := decide_eq_decide.mpr (by omega)
theorem dgt {b d : Int} (h : ¬ b = d) : decide (d < b) = !decide (b < d) := by
  by_cases q : b < d
  · rw [decide_eq_true q, decide_eq_false (by omega)]; rfl
  · rw [decide_eq_false q, decide_eq_true (by omega)]; rfl
theorem dge {b d : Int} (h : ¬ b = d) : decide (d ≤ b) = !decide (b < d) := by
  by_cases q : b < d
  · rw [decide_eq_true q, decide_eq_false (by omega)]; rfl
  · rw [decide_eq_false q, decide_eq_true (by omega)]; rfl
theorem i_le (a b c d : Int) : pLe a b c d = (pLt a b c d || pEq a b c d) := by
  unfold pLe pLt pEq
  by_cases h1 : a = c
  · subst h1
    by_cases h2 : b = d
    · subst h2; simp
    · rw [if_pos rfl, if_neg h2, if_pos rfl, if_neg h2, dle h2, beq_eq_false_iff_ne.mpr h2, Bool.and_false, Bool.or_false]
  · rw [if_neg h1, if_neg h1, dle h1, beq_eq_false_iff_ne.mpr h1, Bool.false_and, Bool.or_false]
theorem i_gt (a b c d : Int) : pGt a b c d = (!pLt a b c d && !pEq a b c d) := by
  unfold pGt pLt pEq
  by_cases h1 : a = c
  · subst h1
    by_cases h2 : b = d
    · subst h2; simp
    · rw [if_pos rfl, if_neg h2, if_pos rfl, if_neg h2, dgt h2, beq_eq_false_iff_ne.mpr h2, Bool.and_false, Bool.not_false, Bool.and_true]
  · rw [if_neg h1, if_neg h1, dgt h1, beq_eq_false_iff_ne.mpr h1, Bool.false_and, Bool.not_false, Bool.and_true]
theorem i_ge (a b c d : Int) : pGe a b c d = !pLt a b c d := by
  unfold pGe pLt
  by_cases h1 : a = c
  · subst h1
    by_cases h2 : b = d
    · subst h2; simp
    · rw [if_pos rfl, if_neg h2, if_pos rfl, if_neg h2, dge h2]
  · rw [if_neg h1, if_neg h1, dge h1]
theorem i_ne (a b c d : Int) : pNe a b c d = !pEq a b c d := by
  unfold pNe pEq
  rw [Bool.not_and]
def kBody : Sm := (.ifs (.or (.not (.isi [.b "bool"] (.item (.var 8) (.var 12)))) (.last (.cmp .ne (.item (.var 8) (.var 12)) (.item (.var 11) (.var 12)))))
  (.ret (.bl false))
  .nil
  .nil)
theorem body_ok (c0 c1 c2 c3 c4 c5 c6 c7 c9 c10 c12 : Cell) (l m : List D) (i : Nat) (b : Bool) (h1 : atI l (i : Int) = some (.bl b)) (h2 : atI m (i : Int) = some (.bl b)) :
    evS M2 kBody [c0, c1, c2, c3, c4, c5, c6, c7, .val (.lst l), c9, c10, .val (.lst m), .val (.int i)] = .next [c0, c1, c2, c3, c4, c5, c6, c7, .val (.lst l), c9, c10, .val (.lst m), .val (.int i)] := by
  have hi : isiR M2 [.b "bool"] (.bl b) = .ok (.bl true) := rfl
  simp (config := { implicitDefEqProofs := false }) [evS, evE, evL, borrow, binD, cmpD, onL, killG, ofOk, bindOk, atNext, atRet, atExc, truB, truI, intK, lenL, lenS, lenT, andB, orB, eqB, notK, addK, subK, modK, mulK, fdivK, powK, ltK, leK, eqK, kBody, itemD, h1, h2, hi]
theorem loop_ok (c0 c1 c2 c3 c4 c5 c6 c7 c9 c10 : Cell) (l : List D) (hl : ∀ i : Nat, i < 6 → ∃ b, atI l (i : Int) = some (.bl b)) : ∀ (n k : Nat) (c12 : Cell), k + n = 6 →
    forD [12] [12] (evS M2 kBody) ((List.range' k n).map fun j => .int (j : Nat)) [c0, c1, c2, c3, c4, c5, c6, c7, .val (.lst l), c9, c10, .val (.lst l), c12] = .next [c0, c1, c2, c3, c4, c5, c6, c7, .val (.lst l), c9, c10, .val (.lst l), .dead]
  | 0, k, c12, h => rfl
  | n + 1, k, c12, h => by
    obtain ⟨b, hb⟩ := hl k (by omega)
    have e1 := body_ok c0 c1 c2 c3 c4 c5 c6 c7 c9 c10 .dead l l k b hb hb
    rw [List.range'_succ, List.map_cons, forD]
    have e0 : tgtD (killG [c0, c1, c2, c3, c4, c5, c6, c7, .val (.lst l), c9, c10, .val (.lst l), c12] [12]) [12] (.int (k : Nat)) = .ok [c0, c1, c2, c3, c4, c5, c6, c7, .val (.lst l), c9, c10, .val (.lst l), .val (.int k)] := rfl
    rw [e0]
    show (match evS M2 kBody _ with | .next Γ2 => _ | .cont Γ2 => _ | .brk Γ2 => _ | o => o) = _
    rw [e1]
    exact loop_ok c0 c1 c2 c3 c4 c5 c6 c7 c9 c10 l hl n (k + 1) _ (by omega)
def kTail : Sm :=
  (.asg 6 (.call 5 (.cons (.item (.var 3) (.int 0)) (.cons (.item (.var 3) (.int 1)) .nil)))
  (.asg 7 (.call 5 (.cons (.item (.var 4) (.int 0)) (.cons (.item (.var 4) (.int 1)) .nil)))
  (.asg 8 (.lst (.cons (.call 6 (.cons (.var 6) (.cons (.var 7) .nil))) (.cons (.call 7 (.cons (.var 6) (.cons (.var 7) .nil))) (.cons (.call 8 (.cons (.var 6) (.cons (.var 7) .nil))) (.cons (.call 9 (.cons (.var 6) (.cons (.var 7) .nil))) (.cons (.call 10 (.cons (.var 6) (.cons (.var 7) .nil))) (.cons (.call 11 (.cons (.var 6) (.cons (.var 7) .nil))) .nil)))))))
  (.asg 9 (.call 13 (.cons (.var 3) (.cons (.var 4) .nil)))
  (.asg 10 (.cmp .eq (.var 3) (.var 4))
  (.asg 11 (.lst (.cons (.var 9) (.cons (.or (.var 9) (.last (.var 10))) (.cons (.and (.not (.var 9)) (.last (.not (.var 10)))) (.cons (.not (.var 9)) (.cons (.var 10) (.cons (.not (.var 10)) .nil)))))))
  (.loop [12] [12] true (.cons (.int 6) .nil)
  kBody
  (.ret (.bl true)))))))))
theorem ev_tail (c0 c1 c2 c5 : Cell) (a b c d : Int) (h : 0 ≤ a ∧ a ≤ b ∧ b ≤ 1000000) (h' : 0 ≤ c ∧ c ≤ d ∧ d ≤ 1000000) :
    evS M2 kTail [c0, c1, c2, .val (.tup [.int a, .int b]), .val (.tup [.int c, .int d]), c5, .dead, .dead, .dead, .dead, .dead, .dead, .dead] = .ret (.bl true) := by
  have p1 := span_ok a b h
  have p2 := span_ok c d h'
  have a0 : ∀ x y : D, atI [x, y] 0 = some x := fun _ _ => rfl
  have a1 : ∀ x y : D, atI [x, y] 1 = some y := fun _ _ => rfl
  have l6 : 6 ≤ LINE := by decide
  have lp := loop_ok c0 c1 c2 (.val (.tup [.int a, .int b])) (.val (.tup [.int c, .int d])) c5 (.val (.obj 0 [.int a, .int b])) (.val (.obj 0 [.int c, .int d])) (.val (.bl (pLt a b c d))) (.val (.bl (pEq a b c d)))
    [.bl (pLt a b c d), .bl (pLt a b c d || pEq a b c d), .bl (!pLt a b c d && !pEq a b c d), .bl (!pLt a b c d), .bl (pEq a b c d), .bl (!pEq a b c d)] (fun i hi => by
      match i, hi with
      | 0, _ => exact ⟨_, rfl⟩
      | 1, _ => exact ⟨_, rfl⟩
      | 2, _ => exact ⟨_, rfl⟩
      | 3, _ => exact ⟨_, rfl⟩
      | 4, _ => exact ⟨_, rfl⟩
      | 5, _ => exact ⟨_, rfl⟩) 6 0 .dead rfl
  have hl : ∀ (it : E) (b k : Sm) (Γ : Gam), evS M2 (.loop [12] [12] true it b k) Γ = Out.of Γ (if true then (evL M2 it Γ).bind fun ds => walkD true (.tup ds) else (evE M2 it Γ).bind fun d => walkD false d) fun items => (forD [12] [12] (evS M2 b) items Γ).andThen (evS M2 k) := fun _ _ _ _ => rfl
  have hw : ∀ Γ : Gam, (if true then (evL M2 (.cons (.int 6) .nil) Γ).bind fun ds => walkD true (.tup ds) else (evE M2 (.cons (.int 6) .nil) Γ).bind fun d => walkD false d) = .ok ((List.range' 0 6).map fun j => D.int (j : Nat)) := fun Γ => rfl
  have st : ∀ K : Sm, evS M2 (.asg 6 (.call 5 (.cons (.item (.var 3) (.int 0)) (.cons (.item (.var 3) (.int 1)) .nil)))
  (.asg 7 (.call 5 (.cons (.item (.var 4) (.int 0)) (.cons (.item (.var 4) (.int 1)) .nil)))
  (.asg 8 (.lst (.cons (.call 6 (.cons (.var 6) (.cons (.var 7) .nil))) (.cons (.call 7 (.cons (.var 6) (.cons (.var 7) .nil))) (.cons (.call 8 (.cons (.var 6) (.cons (.var 7) .nil))) (.cons (.call 9 (.cons (.var 6) (.cons (.var 7) .nil))) (.cons (.call 10 (.cons (.var 6) (.cons (.var 7) .nil))) (.cons (.call 11 (.cons (.var 6) (.cons (.var 7) .nil))) .nil)))))))
  (.asg 9 (.call 13 (.cons (.var 3) (.cons (.var 4) .nil)))
  (.asg 10 (.cmp .eq (.var 3) (.var 4))
  (.asg 11 (.lst (.cons (.var 9) (.cons (.or (.var 9) (.last (.var 10))) (.cons (.and (.not (.var 9)) (.last (.not (.var 10)))) (.cons (.not (.var 9)) (.cons (.var 10) (.cons (.not (.var 10)) .nil)))))))
  K)))))) [c0, c1, c2, .val (.tup [.int a, .int b]), .val (.tup [.int c, .int d]), c5, .dead, .dead, .dead, .dead, .dead, .dead, .dead] =
    evS M2 K [c0, c1, c2, .val (.tup [.int a, .int b]), .val (.tup [.int c, .int d]), c5, .val (.obj 0 [.int a, .int b]), .val (.obj 0 [.int c, .int d]), .val (.lst [.bl (pLt a b c d), .bl (pLt a b c d || pEq a b c d), .bl (!pLt a b c d && !pEq a b c d), .bl (!pLt a b c d), .bl (pEq a b c d), .bl (!pEq a b c d)]),
      .val (.bl (pLt a b c d)), .val (.bl (pEq a b c d)), .val (.lst [.bl (pLt a b c d), .bl (pLt a b c d || pEq a b c d), .bl (!pLt a b c d && !pEq a b c d), .bl (!pLt a b c d), .bl (pEq a b c d), .bl (!pEq a b c d)]), .dead] := by
    intro K
    simp (config := { implicitDefEqProofs := false }) [evS, evE, evL, borrow, binD, cmpD, onL, killG, ofOk, bindOk, atNext, atRet, atExc, truB, truI, intK, lenL, lenS, lenT, andB, orB, eqB, notK, addK, subK, modK, mulK, fdivK, powK, ltK, leK, eqK, itemD, a0, a1, p1, p2, c6, c7, c8, c9, c10, c11, fn13, eqT, l6, i_le, i_gt, i_ge, i_ne]
  unfold kTail
  rw [st, hl, hw, ofOk, lp, atNext]
  rfl

theorem pair_ok (l : List D) (p : Nat) (w x y z : Int) (sm : Bool) (e0 : atI l (p : Int) = some (.int w)) (e1 : atI l ((p : Int) + 1) = some (.int x)) (e2 : atI l ((p : Int) + 2) = some (.int y)) (e3 : atI l ((p : Int) + 2 + 1) = some (.int z)) :
    ∃ a b, semPair [.lst l, .int p, .bl sm] = .ok (.tup [.int a, .int b]) ∧ 0 ≤ a ∧ a ≤ b ∧ b ≤ 1000000 := by
  have h1 : semNumber [.lst l, .int p, .int 1000001] = .ok (.int ((w * 5040 + x) % 1000001)) := by
    unfold semNumber
    simp only [e0, e1]
    rw [if_pos (by decide)]
  have h2 : semNumber [.lst l, .int ((p : Int) + 2), .int 1000001] = .ok (.int ((y * 5040 + z) % 1000001)) := by
    unfold semNumber
    simp only [e2, e3]
    rw [if_pos (by decide)]
  have m1 : 0 ≤ (w * 5040 + x) % 1000001 ∧ (w * 5040 + x) % 1000001 ≤ 1000000 := by omega
  have m2 : 0 ≤ (y * 5040 + z) % 1000001 ∧ (y * 5040 + z) % 1000001 ≤ 1000000 := by omega
  unfold semPair
  simp only [h1, h2]
  generalize (w * 5040 + x) % 1000001 = s at m1
  generalize (y * 5040 + z) % 1000001 = t at m2
  cases sm with
  | true =>
    by_cases hlt : t % 9 < s % 9
    · exact ⟨t % 9, s % 9, by simp [hlt], by omega, by omega, by omega⟩
    · exact ⟨s % 9, t % 9, by simp [hlt], by omega, by omega, by omega⟩
  | false =>
    by_cases hlt : t < s
    · exact ⟨t, s, by simp [hlt], by omega, by omega, by omega⟩
    · exact ⟨s, t, by simp [hlt], by omega, by omega, by omega⟩
def kIfs : Sm :=
  (.ifs (.cmp .eq (.var 5) (.int 1))
  (.asg 4 (.var 3)
  .nil)
  .nil
  (.ifs (.and (.cmp .eq (.var 5) (.int 2)) (.last (.cmp .ge (.item (.var 4) (.int 1)) (.item (.var 3) (.int 0)))))
  (.asg 4 (.tup (.cons (.item (.var 3) (.int 0)) (.cons (.item (.var 4) (.int 1)) .nil)))
  .nil)
  .nil
  (.ifs (.and (.cmp .eq (.var 5) (.int 3)) (.last (.cmp .le (.item (.var 4) (.int 0)) (.item (.var 3) (.int 1)))))
  (.asg 4 (.tup (.cons (.item (.var 4) (.int 0)) (.cons (.item (.var 3) (.int 1)) .nil)))
  .nil)
  .nil
  kTail)))
theorem ev_ifs (c0 c1 c2 : Cell) (a b c d ch : Int) (h : 0 ≤ a ∧ a ≤ b ∧ b ≤ 1000000) (h' : 0 ≤ c ∧ c ≤ d ∧ d ≤ 1000000) :
    evS M2 kIfs [c0, c1, c2, .val (.tup [.int a, .int b]), .val (.tup [.int c, .int d]), .val (.int ch), .dead, .dead, .dead, .dead, .dead, .dead, .dead] = .ret (.bl true) := by
  have a0 : ∀ x y : D, atI [x, y] 0 = some x := fun _ _ => rfl
  have a1 : ∀ x y : D, atI [x, y] 1 = some y := fun _ _ => rfl
  have l2 : 2 ≤ LINE := by decide
  have fi := fun c d h' => ev_tail c0 c1 c2 (.val (.int ch)) a b c d h h'
  unfold kIfs
  obtain ⟨K, hK⟩ : ∃ K, K = kTail := ⟨_, rfl⟩
  rw [← hK] at fi ⊢
  by_cases h1 : ch = 1
  · subst h1
    have q := fi a b h
    simp (config := { implicitDefEqProofs := false }) [evS, evE, evL, borrow, binD, cmpD, onL, killG, ofOk, bindOk, atNext, atRet, atExc, truB, truI, intK, lenL, lenS, lenT, andB, orB, eqB, notK, addK, subK, modK, mulK, fdivK, powK, ltK, leK, eqK, itemD, a0, a1, q]
  · by_cases h2 : ch = 2
    · subst h2
      by_cases h3 : a ≤ d
      · have q := fi a d ⟨by omega, by omega, by omega⟩
        simp (config := { implicitDefEqProofs := false }) [evS, evE, evL, borrow, binD, cmpD, onL, killG, ofOk, bindOk, atNext, atRet, atExc, truB, truI, intK, lenL, lenS, lenT, andB, orB, eqB, notK, addK, subK, modK, mulK, fdivK, powK, ltK, leK, eqK, itemD, a0, a1, h3, l2, q]
      · have q := fi c d h'
        simp (config := { implicitDefEqProofs := false }) [evS, evE, evL, borrow, binD, cmpD, onL, killG, ofOk, bindOk, atNext, atRet, atExc, truB, truI, intK, lenL, lenS, lenT, andB, orB, eqB, notK, addK, subK, modK, mulK, fdivK, powK, ltK, leK, eqK, itemD, a0, a1, h3, l2, q]
    · by_cases h3 : ch = 3
      · subst h3
        by_cases h4 : c ≤ b
        · have q := fi c b ⟨by omega, by omega, by omega⟩
          simp (config := { implicitDefEqProofs := false }) [evS, evE, evL, borrow, binD, cmpD, onL, killG, ofOk, bindOk, atNext, atRet, atExc, truB, truI, intK, lenL, lenS, lenT, andB, orB, eqB, notK, addK, subK, modK, mulK, fdivK, powK, ltK, leK, eqK, itemD, a0, a1, h4, l2, q]
        · have q := fi c d h'
          simp (config := { implicitDefEqProofs := false }) [evS, evE, evL, borrow, binD, cmpD, onL, killG, ofOk, bindOk, atNext, atRet, atExc, truB, truI, intK, lenL, lenS, lenT, andB, orB, eqB, notK, addK, subK, modK, mulK, fdivK, powK, ltK, leK, eqK, itemD, a0, a1, h4, l2, q]
      · have q := fi c d h'
        simp (config := { implicitDefEqProofs := false }) [evS, evE, evL, borrow, binD, cmpD, onL, killG, ofOk, bindOk, atNext, atRet, atExc, truB, truI, intK, lenL, lenS, lenT, andB, orB, eqB, notK, addK, subK, modK, mulK, fdivK, powK, ltK, leK, eqK, itemD, a0, a1, h1, h2, h3, q]
theorem ev_law (ds : List D) (h : semLaw ds ≠ .bad) : outR (evS M2 b_law (gam0 N_law ds)) = semLaw ds := by
  unfold semLaw at h ⊢
  split at h
  · rename_i ns
    split at h
    · rename_i hc
      rw [if_pos hc]
      have g0 : gam0 N_law [.scr ns] = [.val (.scr ns), .dead, .dead, .dead, .dead, .dead, .dead, .dead, .dead, .dead, .dead, .dead, .dead] := rfl
      obtain ⟨a, b, c, d, e, f, g, hh, i, j, hl⟩ := ten (drawsL ns 0 10) (drawsL_len ns 0 10)
      have hdr := draws_eq ns 10 (by decide)
      rw [hl] at hdr
      have hdr' : M2.fn 2 [.scr ns, .int 0, .int 10] = .ok (.lst [.int a, .int b, .int c, .int d, .int e, .int f, .int g, .int hh, .int i, .int j]) := hdr
      have n8 : atI [D.int a, .int b, .int c, .int d, .int e, .int f, .int g, .int hh, .int i, .int j] 8 = some (.int i) := rfl
      have n9 : atI [D.int a, .int b, .int c, .int d, .int e, .int f, .int g, .int hh, .int i, .int j] 9 = some (.int j) := rfl
      obtain ⟨p, q, e1, k1⟩ := pair_ok [.int a, .int b, .int c, .int d, .int e, .int f, .int g, .int hh, .int i, .int j] 0 a b c d (i % 3 == 0) rfl rfl rfl rfl
      obtain ⟨r, t, e2, k2⟩ := pair_ok [.int a, .int b, .int c, .int d, .int e, .int f, .int g, .int hh, .int i, .int j] 4 e f g hh (i % 3 == 0) rfl rfl rfl rfl
      have e1' : M2.fn 12 [.lst [.int a, .int b, .int c, .int d, .int e, .int f, .int g, .int hh, .int i, .int j], .int 0, .bl (i % 3 == 0)] = .ok (.tup [.int p, .int q]) := e1
      have e2' : M2.fn 12 [.lst [.int a, .int b, .int c, .int d, .int e, .int f, .int g, .int hh, .int i, .int j], .int 4, .bl (i % 3 == 0)] = .ok (.tup [.int r, .int t]) := e2
      have fin := ev_ifs (.val (.scr ns)) (.val (.lst [.int a, .int b, .int c, .int d, .int e, .int f, .int g, .int hh, .int i, .int j])) (.val (.bl (i % 3 == 0))) p q r t (j % 4) k1 k2
      have hb2 : ∀ K, K = kIfs → b_law = (.asg 1 (.call 2 (.cons (.var 0) (.cons (.int 0) (.cons (.int 10) .nil))))
        (.asg 2 (.cmp .eq (.bin .mod (.f1 .int (.item (.var 1) (.int 8))) (.int 3)) (.int 0))
        (.asg 3 (.call 12 (.cons (.var 1) (.cons (.int 0) (.cons (.var 2) .nil))))
        (.asg 4 (.call 12 (.cons (.var 1) (.cons (.int 4) (.cons (.var 2) .nil))))
        (.asg 5 (.bin .mod (.f1 .int (.item (.var 1) (.int 9))) (.int 4))
        K))))) := fun K e => by rw [e]; rfl
      obtain ⟨K, hK⟩ : ∃ K, K = kIfs := ⟨_, rfl⟩
      rw [g0, hb2 K hK]
      rw [← hK] at fin
      generalize hB : (i % 3 == 0) = bb at e1' e2' fin
      simp (config := { implicitDefEqProofs := false }) [evS, evE, evL, borrow, binD, cmpD, onL, killG, ofOk, bindOk, atNext, atRet, atExc, truB, truI, intK, lenL, lenS, lenT, andB, orB, eqB, notK, addK, subK, modK, mulK, fdivK, powK, ltK, leK, eqK, hdr', itemD, n8, n9, hB, e1', e2', fin, outR]
    · exact absurd rfl h
  · exact absurd rfl h
theorem M2_flds (n : Nat) (h : ¬ n = 0) : M2.flds n = [] := if_neg h
theorem M2_few (n : Nat) : (M2.flds n).length ≤ 100 := by
  by_cases h : n = 0
  · subst h; decide
  · rw [M2_flds n h]; decide
theorem tb_ename (n : Nat) (x : Str) (h : ¬ n = 0) : tb.ename n ≠ some x := by
  show (if n = 0 then _ else _) ≠ _
  rw [if_neg h]
  intro z; cases z
theorem tb_cname (n : Nat) (x : Str) (h : ¬ n = 0) : tb.cname n ≠ some x := by
  show (if n = 0 then _ else _) ≠ _
  rw [if_neg h]
  intro z; cases z
section
theorem M2_ne : ∀ c, c < 1 → M2.flds c ≠ [] := by decide
theorem M2_sub {C : Cfg} (hf : ∀ c, c < 1 → C.flds c ≠ []) (s0 : PySem.W.kitOne C.K (tyv C (.b "int")) (tyv C (.b "int")) = some true) (s1 : PySem.W.kitOne C.K (tyv C (.b "int")) (tyv C (.b "bool")) = some false) (s2 : PySem.W.kitOne C.K (tyv C (.b "bool")) (tyv C (.b "bool")) = some true) (s3 : PySem.W.kitOne C.K (tyv C (.c 0)) (tyv C (.c 0)) = some true) {t u : Ty} {b : Bool} (e : subT t u = some b) :
    PySem.W.kitOne C.K (tyv C t) (tyv C u) = some b ∧ ∀ c, t = .c c → C.flds c ≠ [] := by
  unfold subT at e
  split at e
  · cases e; exact ⟨s0, fun c z => by cases z⟩
  · cases e; exact ⟨s1, fun c z => by cases z⟩
  · cases e; exact ⟨s2, fun c z => by cases z⟩
  · cases e; exact ⟨s3, fun c z => by cases z; exact hf _ (by decide)⟩
  · cases e
theorem sc_2 : FnScope N_draws ["_law_script", "_law_place", "_law_count"] (defScope s_law_draws) := ⟨rfl, rfl, rfl, by decide +kernel, rfl, by decide +kernel, by decide +kernel⟩
theorem ck_2 : chkS (tb.only []) N_draws (defScope s_law_draws) bDraws (defBody s_law_draws) = true := by decide +kernel
theorem sc_3 : FnScope N_law_number ["_law_draws_here", "_law_at", "_law_bound"] (defScope s_law_number) := ⟨rfl, rfl, rfl, by decide +kernel, rfl, by decide +kernel, by decide +kernel⟩
theorem ck_3 : chkS (tb.only []) N_law_number (defScope s_law_number) b_law_number (defBody s_law_number) = true := by decide +kernel
theorem sc_4 : FnScope N_is_number ["value"] (defScope s_is_number) := ⟨rfl, rfl, rfl, by decide +kernel, rfl, by decide +kernel, by decide +kernel⟩
theorem ck_4 : chkS (tb.only []) N_is_number (defScope s_is_number) b_is_number (defBody s_is_number) = true := by decide +kernel
theorem sc_5 : FnScope N_Span_DinitD ["self", "start", "end"] (defScope s_Span_DinitD) := ⟨rfl, rfl, rfl, by decide +kernel, rfl, by decide +kernel, by decide +kernel⟩
theorem ck_5 : chkS (tb.only [0, 4]) N_Span_DinitD (defScope s_Span_DinitD) b_Span_DinitD (defBody s_Span_DinitD) = true := by decide +kernel
theorem sc_6 : FnScope N_Span_DltD ["self", "other"] (defScope s_Span_DltD) := ⟨rfl, rfl, rfl, by decide +kernel, rfl, by decide +kernel, by decide +kernel⟩
theorem ck_6 : chkS (tb.only [13]) N_Span_DltD (defScope s_Span_DltD) b_Span_DltD (defBody s_Span_DltD) = true := by decide +kernel
theorem sc_7 : FnScope N_Span_DleD ["self", "other"] (defScope s_Span_DleD) := ⟨rfl, rfl, rfl, by decide +kernel, rfl, by decide +kernel, by decide +kernel⟩
theorem ck_7 : chkS (tb.only [14]) N_Span_DleD (defScope s_Span_DleD) b_Span_DleD (defBody s_Span_DleD) = true := by decide +kernel
theorem sc_8 : FnScope N_Span_DgtD ["self", "other"] (defScope s_Span_DgtD) := ⟨rfl, rfl, rfl, by decide +kernel, rfl, by decide +kernel, by decide +kernel⟩
theorem ck_8 : chkS (tb.only [15]) N_Span_DgtD (defScope s_Span_DgtD) b_Span_DgtD (defBody s_Span_DgtD) = true := by decide +kernel
theorem sc_9 : FnScope N_Span_DgeD ["self", "other"] (defScope s_Span_DgeD) := ⟨rfl, rfl, rfl, by decide +kernel, rfl, by decide +kernel, by decide +kernel⟩
theorem ck_9 : chkS (tb.only [16]) N_Span_DgeD (defScope s_Span_DgeD) b_Span_DgeD (defBody s_Span_DgeD) = true := by decide +kernel
theorem sc_10 : FnScope N_Span_DeqD ["self", "other"] (defScope s_Span_DeqD) := ⟨rfl, rfl, rfl, by decide +kernel, rfl, by decide +kernel, by decide +kernel⟩
theorem ck_10 : chkS (tb.only []) N_Span_DeqD (defScope s_Span_DeqD) b_Span_DeqD (defBody s_Span_DeqD) = true := by decide +kernel
theorem sc_11 : FnScope N_Span_DneD ["self", "other"] (defScope s_Span_DneD) := ⟨rfl, rfl, rfl, by decide +kernel, rfl, by decide +kernel, by decide +kernel⟩
theorem ck_11 : chkS (tb.only []) N_Span_DneD (defScope s_Span_DneD) b_Span_DneD (defBody s_Span_DneD) = true := by decide +kernel
theorem sc_12 : FnScope N_law_pair ["_law_draws_here", "_law_at", "_law_small"] (defScope s_law_pair) := ⟨rfl, rfl, rfl, by decide +kernel, rfl, by decide +kernel, by decide +kernel⟩
theorem ck_12 : chkS (tb.only [3]) N_law_pair (defScope s_law_pair) b_law_pair (defBody s_law_pair) = true := by decide +kernel
theorem sc_17 : FnScope N_law ["_law_script"] (defScope s_law) := ⟨rfl, rfl, rfl, by decide +kernel, rfl, by decide +kernel, by decide +kernel⟩
theorem ck_17 : chkS (tb.only [2, 5, 6, 7, 8, 9, 10, 11, 12, 13]) N_law (defScope s_law) b_law (defBody s_law) = true := by decide +kernel
theorem all_mk {l : PySem.W.OpenLaw} {w : World} {K : PySem.W.Frag} {h : Heap} {mg : Str → Option Value} {fa A0 X0 f2 f3 f4 f5 f6 f7 f8 f9 f10 f11 f12 f17 : Addr} (X : K.In h) (G : h.Ns mainGlobals mg) (hfa : mg "law" = some (.ref fa))
    {od2 an2 od3 an3 od4 an4 od5 an5 od6 an6 od7 an7 od8 an8 od9 an9 od10 an10 od11 an11 od12 an12 od17 an17 : Option Addr} {sl2 sl3 sl4 sl5 sl6 sl7 sl8 sl9 sl10 sl11 sl12 sl17 : Array (Option Value)} {oc2 kV2 dc2 pm2 cd2 ct2 oc3 kV3 dc3 pm3 cd3 ct3 oc4 kV4 dc4 pm4 cd4 ct4 oc5 kV5 dc5 pm5 cd5 ct5 oc6 kV6 dc6 pm6 cd6 ct6 oc7 kV7 dc7 pm7 cd7 ct7 oc8 kV8 dc8 pm8 cd8 ct8 oc9 kV9 dc9 pm9 cd9 ct9 oc10 kV10 dc10 pm10 cd10 ct10 oc11 kV11 dc11 pm11 cd11 ct11 oc12 kV12 dc12 pm12 cd12 ct12 oc17 kV17 dc17 pm17 cd17 ct17 : Value} {tk0 : Tok}
    (aC0 : PySem.W.nsIn K mainGlobals "Span" = some (some (.ref A0)))
    (pg0 : PySem.W.plainGet K A0 Str.empty = true)
    (hd0 : PySem.W.hasDictIn K A0 = true)
    (po0 : PySem.W.plainOver K A0 = true)
    (sa0 : PySem.W.findIn K (.ref A0) "__setattr__" = some (some (.builtin "object.__setattr__")))
    (mk0 : PySem.W.makesIn K A0 = true)
    (kc0 : PySem.W.keepIn K (.ref A0) = true)
    (ha0 : PySem.W.findIn K (.ref A0) "__class__" = some (some (.builtin "object.__class__")))
    (hm0 : PySem.W.mroIn K A0 (.type "object") = some true)
    (nf0_0 : PySem.W.findIn K (.ref A0) "start" = some none)
    (nf0_1 : PySem.W.findIn K (.ref A0) "end" = some none)
    (hnC : PySem.W.specialIn K (.builtin "object.__class__") "__get__" = some (some (.builtin "getset_descriptor.__get__")))
    (htkC : PySem.W.takesIn K (.builtin "object.__class__") = some true)
    (aX0 : PySem.W.nsIn K mainGlobals "BadSpan" = some (some (.ref X0)))
    (exX0 : PySem.W.excIn K X0 [.type "ValueError", .type "Exception", .type "BaseException", .type "object"] "ValueError.__new__" = true)
    (kpX0 : PySem.W.keepIn K (.ref X0) = true)
    (sbX0 : PySem.W.subIn K (.ref X0) (.type "BaseException") = some true)
    (tyX0 : PySem.W.typeIn K (.ref X0) = some (.type "type"))
    (rd0 : PySem.W.readsIn K A0 (.type "type") = true)
    (ga0 : PySem.W.specialIn K (.ref A0) "__getattribute__" = some (some (.builtin "type.__getattribute__")))
    (cv0 : PySem.W.findCls K (.ref A0) (.type "type") "LIMIT" = some (.val (.int 1000000 tk0)))
    (su0 : PySem.W.kitOne K (.type "int") (.type "int") = some true)
    (su1 : PySem.W.kitOne K (.type "int") (.type "bool") = some false)
    (su2 : PySem.W.kitOne K (.type "bool") (.type "bool") = some true)
    (su3 : PySem.W.kitOne K (.ref A0) (.ref A0) = some true)
    (z0 : PySem.W.nsIn K mainGlobals "len" = some none)
    (z1 : PySem.W.nsIn K mainGlobals "int" = some none)
    (z2 : PySem.W.nsIn K mainGlobals "str" = some none)
    (z3 : PySem.W.nsIn K mainGlobals "tuple" = some none)
    (z4 : PySem.W.nsIn K mainGlobals "list" = some none)
    (z5 : PySem.W.nsIn K mainGlobals "sum" = some none)
    (z6 : PySem.W.nsIn K mainGlobals "sorted" = some none)
    (z7 : PySem.W.nsIn K mainGlobals "min" = some none)
    (z8 : PySem.W.nsIn K mainGlobals "max" = some none)
    (z9 : PySem.W.nsIn K mainGlobals "all" = some none)
    (z10 : PySem.W.nsIn K mainGlobals "repr" = some none)
    (z11 : PySem.W.nsIn K mainGlobals "isinstance" = some none)
    (z12 : PySem.W.nsIn K mainGlobals "range" = some none)
    (z13 : PySem.W.nsIn K mainGlobals "zip" = some none)
    (z14 : PySem.W.nsIn K mainGlobals "bool" = some none)
    (z15 : PySem.W.nsIn K mainGlobals "bytes" = some none)
    (a2 : PySem.W.nsIn K mainGlobals "_law_draws" = some (some (.ref f2)))
    (l2 : K.lookup f2 = some ⟨oc2, od2, .func (PySem.W.fnOf "_law_draws" "_law_draws" (defArgs s_law_draws) (defBody s_law_draws) (defScope s_law_draws) .none kV2 dc2 pm2 an2 cd2 ct2), sl2⟩)
    (c2 : PySem.W.codeIn K cd2 "_law_draws" = true)
    (k2 : PySem.W.keepIn K (.ref f2) = true)
    (a3 : PySem.W.nsIn K mainGlobals "_law_number" = some (some (.ref f3)))
    (l3 : K.lookup f3 = some ⟨oc3, od3, .func (PySem.W.fnOf "_law_number" "_law_number" (defArgs s_law_number) (defBody s_law_number) (defScope s_law_number) .none kV3 dc3 pm3 an3 cd3 ct3), sl3⟩)
    (c3 : PySem.W.codeIn K cd3 "_law_number" = true)
    (k3 : PySem.W.keepIn K (.ref f3) = true)
    (a4 : PySem.W.nsIn K mainGlobals "is_number" = some (some (.ref f4)))
    (l4 : K.lookup f4 = some ⟨oc4, od4, .func (PySem.W.fnOf "is_number" "is_number" (defArgs s_is_number) (defBody s_is_number) (defScope s_is_number) .none kV4 dc4 pm4 an4 cd4 ct4), sl4⟩)
    (c4 : PySem.W.codeIn K cd4 "is_number" = true)
    (k4 : PySem.W.keepIn K (.ref f4) = true)
    (a5 : PySem.W.findIn K (.ref A0) "__init__" = some (some (.ref f5)))
    (i5 : PySem.W.isFn K (.ref f5) = true)
    (l5 : K.lookup f5 = some ⟨oc5, od5, .func (PySem.W.fnOf "__init__" "Span.__init__" (defArgs s_Span_DinitD) (defBody s_Span_DinitD) (defScope s_Span_DinitD) .none kV5 dc5 pm5 an5 cd5 ct5), sl5⟩)
    (c5 : PySem.W.codeIn K cd5 "Span.__init__" = true)
    (k5 : PySem.W.keepIn K (.ref f5) = true)
    (a6 : PySem.W.findIn K (.ref A0) "__lt__" = some (some (.ref f6)))
    (i6 : PySem.W.isFn K (.ref f6) = true)
    (l6 : K.lookup f6 = some ⟨oc6, od6, .func (PySem.W.fnOf "__lt__" "Span.__lt__" (defArgs s_Span_DltD) (defBody s_Span_DltD) (defScope s_Span_DltD) .none kV6 dc6 pm6 an6 cd6 ct6), sl6⟩)
    (c6 : PySem.W.codeIn K cd6 "Span.__lt__" = true)
    (k6 : PySem.W.keepIn K (.ref f6) = true)
    (a7 : PySem.W.findIn K (.ref A0) "__le__" = some (some (.ref f7)))
    (i7 : PySem.W.isFn K (.ref f7) = true)
    (l7 : K.lookup f7 = some ⟨oc7, od7, .func (PySem.W.fnOf "__le__" "Span.__le__" (defArgs s_Span_DleD) (defBody s_Span_DleD) (defScope s_Span_DleD) .none kV7 dc7 pm7 an7 cd7 ct7), sl7⟩)
    (c7 : PySem.W.codeIn K cd7 "Span.__le__" = true)
    (k7 : PySem.W.keepIn K (.ref f7) = true)
    (a8 : PySem.W.findIn K (.ref A0) "__gt__" = some (some (.ref f8)))
    (i8 : PySem.W.isFn K (.ref f8) = true)
    (l8 : K.lookup f8 = some ⟨oc8, od8, .func (PySem.W.fnOf "__gt__" "Span.__gt__" (defArgs s_Span_DgtD) (defBody s_Span_DgtD) (defScope s_Span_DgtD) .none kV8 dc8 pm8 an8 cd8 ct8), sl8⟩)
    (c8 : PySem.W.codeIn K cd8 "Span.__gt__" = true)
    (k8 : PySem.W.keepIn K (.ref f8) = true)
    (a9 : PySem.W.findIn K (.ref A0) "__ge__" = some (some (.ref f9)))
    (i9 : PySem.W.isFn K (.ref f9) = true)
    (l9 : K.lookup f9 = some ⟨oc9, od9, .func (PySem.W.fnOf "__ge__" "Span.__ge__" (defArgs s_Span_DgeD) (defBody s_Span_DgeD) (defScope s_Span_DgeD) .none kV9 dc9 pm9 an9 cd9 ct9), sl9⟩)
    (c9 : PySem.W.codeIn K cd9 "Span.__ge__" = true)
    (k9 : PySem.W.keepIn K (.ref f9) = true)
    (a10 : PySem.W.findIn K (.ref A0) "__eq__" = some (some (.ref f10)))
    (i10 : PySem.W.isFn K (.ref f10) = true)
    (l10 : K.lookup f10 = some ⟨oc10, od10, .func (PySem.W.fnOf "__eq__" "Span.__eq__" (defArgs s_Span_DeqD) (defBody s_Span_DeqD) (defScope s_Span_DeqD) .none kV10 dc10 pm10 an10 cd10 ct10), sl10⟩)
    (c10 : PySem.W.codeIn K cd10 "Span.__eq__" = true)
    (k10 : PySem.W.keepIn K (.ref f10) = true)
    (a11 : PySem.W.findIn K (.ref A0) "__ne__" = some (some (.ref f11)))
    (i11 : PySem.W.isFn K (.ref f11) = true)
    (l11 : K.lookup f11 = some ⟨oc11, od11, .func (PySem.W.fnOf "__ne__" "Span.__ne__" (defArgs s_Span_DneD) (defBody s_Span_DneD) (defScope s_Span_DneD) .none kV11 dc11 pm11 an11 cd11 ct11), sl11⟩)
    (c11 : PySem.W.codeIn K cd11 "Span.__ne__" = true)
    (k11 : PySem.W.keepIn K (.ref f11) = true)
    (a12 : PySem.W.nsIn K mainGlobals "_law_pair" = some (some (.ref f12)))
    (l12 : K.lookup f12 = some ⟨oc12, od12, .func (PySem.W.fnOf "_law_pair" "_law_pair" (defArgs s_law_pair) (defBody s_law_pair) (defScope s_law_pair) .none kV12 dc12 pm12 an12 cd12 ct12), sl12⟩)
    (c12 : PySem.W.codeIn K cd12 "_law_pair" = true)
    (k12 : PySem.W.keepIn K (.ref f12) = true)
    (a17 : PySem.W.nsIn K mainGlobals "law" = some (some (.ref f17)))
    (l17 : K.lookup f17 = some ⟨oc17, od17, .func (PySem.W.fnOf "law" "law" (defArgs s_law) (defBody s_law) (defScope s_law) .none kV17 dc17 pm17 an17 cd17 ct17), sl17⟩)
    (c17 : PySem.W.codeIn K cd17 "law" = true)
    (k17 : PySem.W.keepIn K (.ref f17) = true)
    : ∃ fd : FuncData, (∀ (s : Shared) (v : Value), BindsTo s fd ⟨[v], []⟩ [("_law_script", v)]) ∧ ∀ base : Heap, K.In base → base.Ns mainGlobals mg → FnOk l.prog w K mg base (L2.CX l.prog w) 5 fa fd ["_law_script"] (spLaw K) := by
  have e := hfa.symm.trans (PySem.W.mg_of X G a17)
  cases e
  have F2 := fun_mk (st := s_law_draws) l2 c2 k2
  have b2 := F2.binds (ps := ["_law_script", "_law_place", "_law_count"]) fun _ _ _ _ _ _ us hl => match us, hl with | [_, _, _], _ => rfl
  have F3 := fun_mk (st := s_law_number) l3 c3 k3
  have b3 := F3.binds (ps := ["_law_draws_here", "_law_at", "_law_bound"]) fun _ _ _ _ _ _ us hl => match us, hl with | [_, _, _], _ => rfl
  have F4 := fun_mk (st := s_is_number) l4 c4 k4
  have b4 := F4.binds (ps := ["value"]) fun _ _ _ _ _ _ us hl => match us, hl with | [_], _ => rfl
  have F5 := fun_mk (st := s_Span_DinitD) l5 c5 k5
  have b5 := F5.binds (ps := ["self", "start", "end"]) fun _ _ _ _ _ _ us hl => match us, hl with | [_, _, _], _ => rfl
  have F6 := fun_mk (st := s_Span_DltD) l6 c6 k6
  have b6 := F6.binds (ps := ["self", "other"]) fun _ _ _ _ _ _ us hl => match us, hl with | [_, _], _ => rfl
  have F7 := fun_mk (st := s_Span_DleD) l7 c7 k7
  have b7 := F7.binds (ps := ["self", "other"]) fun _ _ _ _ _ _ us hl => match us, hl with | [_, _], _ => rfl
  have F8 := fun_mk (st := s_Span_DgtD) l8 c8 k8
  have b8 := F8.binds (ps := ["self", "other"]) fun _ _ _ _ _ _ us hl => match us, hl with | [_, _], _ => rfl
  have F9 := fun_mk (st := s_Span_DgeD) l9 c9 k9
  have b9 := F9.binds (ps := ["self", "other"]) fun _ _ _ _ _ _ us hl => match us, hl with | [_, _], _ => rfl
  have F10 := fun_mk (st := s_Span_DeqD) l10 c10 k10
  have b10 := F10.binds (ps := ["self", "other"]) fun _ _ _ _ _ _ us hl => match us, hl with | [_, _], _ => rfl
  have F11 := fun_mk (st := s_Span_DneD) l11 c11 k11
  have b11 := F11.binds (ps := ["self", "other"]) fun _ _ _ _ _ _ us hl => match us, hl with | [_, _], _ => rfl
  have F12 := fun_mk (st := s_law_pair) l12 c12 k12
  have b12 := F12.binds (ps := ["_law_draws_here", "_law_at", "_law_small"]) fun _ _ _ _ _ _ us hl => match us, hl with | [_, _, _], _ => rfl
  have F17 := fun_mk (st := s_law) l17 c17 k17
  refine ⟨PySem.W.fnOf "law" "law" (defArgs s_law) (defBody s_law) (defScope s_law) .none kV17 dc17 pm17 an17 cd17 ct17, fun s v => .of_eq rfl, fun base _ _ => ?_⟩
  let C0 : Cfg := { toMng := M2, P := l.prog, w := w, K := K, mg := mg, base := base, J := 0, cls := fun n => if n = 0 then A0 else 0, exa := fun n => if n = 0 then X0 else 0, fnm := tb.fname, cok := fun _ _ _ _ => False, cok_mono := fun _ _ h => h }
  have B : Base C0 tb := {
    blt := fun x hx => by
      simp only [BLT, List.mem_cons, List.not_mem_nil, or_false] at hx
      rcases hx with rfl | rfl | rfl | rfl | rfl | rfl | rfl | rfl | rfl | rfl | rfl | rfl | rfl | rfl | rfl | rfl
      · exact PySem.W.mg_none_of X G z0
      · exact PySem.W.mg_none_of X G z1
      · exact PySem.W.mg_none_of X G z2
      · exact PySem.W.mg_none_of X G z3
      · exact PySem.W.mg_none_of X G z4
      · exact PySem.W.mg_none_of X G z5
      · exact PySem.W.mg_none_of X G z6
      · exact PySem.W.mg_none_of X G z7
      · exact PySem.W.mg_none_of X G z8
      · exact PySem.W.mg_none_of X G z9
      · exact PySem.W.mg_none_of X G z10
      · exact PySem.W.mg_none_of X G z11
      · exact PySem.W.mg_none_of X G z12
      · exact PySem.W.mg_none_of X G z13
      · exact PySem.W.mg_none_of X G z14
      · exact PySem.W.mg_none_of X G z15
    gl := fun n x e => by cases e
    fnm := fun n => rfl
    cls := fun n e => by
      by_cases hn0 : n = 0
      · subst hn0
        exact ⟨⟨pg0, hd0, po0, sa0⟩, ha0, hnC, htkC, hm0, fun f hf => by
          have hf : f ∈ ([0, 1] : List Nat) := hf
          simp only [List.mem_cons, List.not_mem_nil, or_false] at hf
          rcases hf with rfl | rfl
          · exact nf0_0
          · exact nf0_1,
          (show (((([0, 1] : List Nat)).map tb.fname).Nodup) by decide +kernel)⟩
      · exact absurd (M2_flds n hn0) e
    few := M2_few
    cnm := fun n x e => by
      by_cases h0 : n = 0
      · subst h0; cases e; exact PySem.W.mg_of X G aC0
      · exact absurd e (tb_cname n x h0)
    sub := fun t u b e => by
      exact M2_sub M2_ne su0 su1 su2 su3 e
    cm := fun n k e => by cases e
    ow := fun n k e => by cases e
    exs := fun n x e => by
      by_cases hn0 : n = 0
      · subst hn0; cases e; exact ⟨PySem.W.mg_of X G aX0, exX0, kpX0, sbX0, tyX0⟩
      · exact absurd e (tb_ename n x hn0)
    hs := fun n f e => by cases e }
  have K0 : ∀ j, CbOk (C0.at j) (catArgs "Span" "LIMIT") (fun _ => .ok (.int 1000000)) := fun j => cattr_at (C := C0) (v := .int 1000000) (PySem.W.mg_of X G aC0) ⟨rd0, ga0⟩ ⟨cv0, ⟨_, rfl⟩⟩ (fun _ => rfl)
  have K13 : ∀ j, CbOk (C0.at j) (cmpArgs .lt) (sem2 (pairS (fun a b => decide (a < b)) false)) := fun j => plt_at
  have K14 : ∀ j, CbOk (C0.at j) (cmpArgs .le) (sem2 (pairS (fun a b => decide (a ≤ b)) true)) := fun j => ple_at
  have K15 : ∀ j, CbOk (C0.at j) (cmpArgs .gt) (sem2 (pairS (fun a b => decide (b < a)) false)) := fun j => pgt_at
  have K16 : ∀ j, CbOk (C0.at j) (cmpArgs .ge) (sem2 (pairS (fun a b => decide (b ≤ a)) true)) := fun j => pge_at
  have w2 : Wl2 (C0.at 0) (tb.only []) := B.wl 0 [] fun n hn k e => by
    cases hn
  have G2 : FnP C0 1 f2 _ ["_law_script", "_law_place", "_law_count"] (spP C0 3 semDraws) := def_at (C := C0) (T := tb.only []) w2 F2 sc_2 ck_2 (fun ds hl h => ev_draws M2 ds h)
  have K2 : ∀ j, 1 ≤ j → CbOk (C0.at j) (cbArgs (.fn "_law_draws") 3) semDraws := fun j hj => fn_at (C := C0) hj G2 (PySem.W.mg_of X G a2) k2 b2
  have w3 : Wl2 (C0.at 0) (tb.only []) := B.wl 0 [] fun n hn k e => by
    cases hn
  have G3 : FnP C0 1 f3 _ ["_law_draws_here", "_law_at", "_law_bound"] (spP C0 3 semNumber) := def_at (C := C0) (T := tb.only []) w3 F3 sc_3 ck_3 (fun ds hl h => ev_number ds h)
  have K3 : ∀ j, 1 ≤ j → CbOk (C0.at j) (cbArgs (.fn "_law_number") 3) semNumber := fun j hj => fn_at (C := C0) hj G3 (PySem.W.mg_of X G a3) k3 b3
  have w4 : Wl2 (C0.at 0) (tb.only []) := B.wl 0 [] fun n hn k e => by
    cases hn
  have G4 : FnP C0 1 f4 _ ["value"] (spP C0 1 semIsNum) := def_at (C := C0) (T := tb.only []) w4 F4 sc_4 ck_4 (fun ds hl h => ev_isnum ds h)
  have K4 : ∀ j, 1 ≤ j → CbOk (C0.at j) (cbArgs (.fn "is_number") 1) semIsNum := fun j hj => fn_at (C := C0) hj G4 (PySem.W.mg_of X G a4) k4 b4
  have w5 : Wl2 (C0.at 1) (tb.only [0, 4]) := B.wl 1 [0, 4] fun n hn k e => by
    simp only [List.mem_cons, List.not_mem_nil, or_false] at hn
    rcases hn with rfl | rfl
    · cases e; exact K0 1
    · cases e; exact K4 1 (by decide)
  have G5 : FnP C0 2 f5 _ ["self", "start", "end"] (spI C0 0 3 semSpan) := init_at (C := C0) (T := tb.only [0, 4]) w5 F5 sc_5 ck_5 (fun ds hl h => ev_init ds h)
  have K5 : ∀ j, 3 ≤ j → CbOk (C0.at j) (cbArgs (.fn "Span") 2) semSpan := fun j hj => make_at (C := C0) hj G5 ⟨mk0, a5, i5, kc0⟩ (PySem.W.mg_of X G aC0) b5
  have w6 : Wl2 (C0.at 0) (tb.only [13]) := B.wl 0 [13] fun n hn k e => by
    simp only [List.mem_cons, List.not_mem_nil, or_false] at hn
    rcases hn with rfl
    · cases e; exact K13 0
  have G6 : FnP C0 1 f6 _ ["self", "other"] (spP C0 2 (sem4 pLt)) := def_at (C := C0) (T := tb.only [13]) w6 F6 sc_6 ck_6 (fun ds hl h => ev_lt ds h)
  have K6 : ∀ j, 1 ≤ j → CbOk (C0.at j) (cmpArgs .lt) (sem2 (cmpS 0 (sem4 pLt))) := fun j hj => cmp_at (C := C0) (nm := "__lt__") hj (fun op ho => by cases op <;> first | exact ⟨rfl, rfl⟩ | cases ho) G6 b6 ⟨a6, i6⟩
  have w7 : Wl2 (C0.at 0) (tb.only [14]) := B.wl 0 [14] fun n hn k e => by
    simp only [List.mem_cons, List.not_mem_nil, or_false] at hn
    rcases hn with rfl
    · cases e; exact K14 0
  have G7 : FnP C0 1 f7 _ ["self", "other"] (spP C0 2 (sem4 pLe)) := def_at (C := C0) (T := tb.only [14]) w7 F7 sc_7 ck_7 (fun ds hl h => ev_le ds h)
  have K7 : ∀ j, 1 ≤ j → CbOk (C0.at j) (cmpArgs .le) (sem2 (cmpS 0 (sem4 pLe))) := fun j hj => cmp_at (C := C0) (nm := "__le__") hj (fun op ho => by cases op <;> first | exact ⟨rfl, rfl⟩ | cases ho) G7 b7 ⟨a7, i7⟩
  have w8 : Wl2 (C0.at 0) (tb.only [15]) := B.wl 0 [15] fun n hn k e => by
    simp only [List.mem_cons, List.not_mem_nil, or_false] at hn
    rcases hn with rfl
    · cases e; exact K15 0
  have G8 : FnP C0 1 f8 _ ["self", "other"] (spP C0 2 (sem4 pGt)) := def_at (C := C0) (T := tb.only [15]) w8 F8 sc_8 ck_8 (fun ds hl h => ev_gt ds h)
  have K8 : ∀ j, 1 ≤ j → CbOk (C0.at j) (cmpArgs .gt) (sem2 (cmpS 0 (sem4 pGt))) := fun j hj => cmp_at (C := C0) (nm := "__gt__") hj (fun op ho => by cases op <;> first | exact ⟨rfl, rfl⟩ | cases ho) G8 b8 ⟨a8, i8⟩
  have w9 : Wl2 (C0.at 0) (tb.only [16]) := B.wl 0 [16] fun n hn k e => by
    simp only [List.mem_cons, List.not_mem_nil, or_false] at hn
    rcases hn with rfl
    · cases e; exact K16 0
  have G9 : FnP C0 1 f9 _ ["self", "other"] (spP C0 2 (sem4 pGe)) := def_at (C := C0) (T := tb.only [16]) w9 F9 sc_9 ck_9 (fun ds hl h => ev_ge ds h)
  have K9 : ∀ j, 1 ≤ j → CbOk (C0.at j) (cmpArgs .ge) (sem2 (cmpS 0 (sem4 pGe))) := fun j hj => cmp_at (C := C0) (nm := "__ge__") hj (fun op ho => by cases op <;> first | exact ⟨rfl, rfl⟩ | cases ho) G9 b9 ⟨a9, i9⟩
  have w10 : Wl2 (C0.at 0) (tb.only []) := B.wl 0 [] fun n hn k e => by
    cases hn
  have G10 : FnP C0 1 f10 _ ["self", "other"] (spP C0 2 (sem4 pEq)) := def_at (C := C0) (T := tb.only []) w10 F10 sc_10 ck_10 (fun ds hl h => ev_eq ds h)
  have K10 : ∀ j, 1 ≤ j → CbOk (C0.at j) (cmpArgs .eq) (sem2 (cmpS 0 (sem4 pEq))) := fun j hj => cmp_at (C := C0) (nm := "__eq__") hj (fun op ho => by cases op <;> first | exact ⟨rfl, rfl⟩ | cases ho) G10 b10 ⟨a10, i10⟩
  have w11 : Wl2 (C0.at 0) (tb.only []) := B.wl 0 [] fun n hn k e => by
    cases hn
  have G11 : FnP C0 1 f11 _ ["self", "other"] (spP C0 2 (sem4 pNe)) := def_at (C := C0) (T := tb.only []) w11 F11 sc_11 ck_11 (fun ds hl h => ev_ne ds h)
  have K11 : ∀ j, 1 ≤ j → CbOk (C0.at j) (cmpArgs .ne) (sem2 (cmpS 0 (sem4 pNe))) := fun j hj => cmp_at (C := C0) (nm := "__ne__") hj (fun op ho => by cases op <;> first | exact ⟨rfl, rfl⟩ | cases ho) G11 b11 ⟨a11, i11⟩
  have w12 : Wl2 (C0.at 1) (tb.only [3]) := B.wl 1 [3] fun n hn k e => by
    simp only [List.mem_cons, List.not_mem_nil, or_false] at hn
    rcases hn with rfl
    · cases e; exact K3 1 (by decide)
  have G12 : FnP C0 2 f12 _ ["_law_draws_here", "_law_at", "_law_small"] (spP C0 3 semPair) := def_at (C := C0) (T := tb.only [3]) w12 F12 sc_12 ck_12 (fun ds hl h => ev_pair ds h)
  have K12 : ∀ j, 2 ≤ j → CbOk (C0.at j) (cbArgs (.fn "_law_pair") 3) semPair := fun j hj => fn_at (C := C0) hj G12 (PySem.W.mg_of X G a12) k12 b12
  have w17 : Wl2 (C0.at 4) (tb.only [2, 5, 6, 7, 8, 9, 10, 11, 12, 13]) := B.wl 4 [2, 5, 6, 7, 8, 9, 10, 11, 12, 13] fun n hn k e => by
    simp only [List.mem_cons, List.not_mem_nil, or_false] at hn
    rcases hn with rfl | rfl | rfl | rfl | rfl | rfl | rfl | rfl | rfl | rfl
    · cases e; exact K2 4 (by decide)
    · cases e; exact K5 4 (by decide)
    · cases e; exact K6 4 (by decide)
    · cases e; exact K7 4 (by decide)
    · cases e; exact K8 4 (by decide)
    · cases e; exact K9 4 (by decide)
    · cases e; exact K10 4 (by decide)
    · cases e; exact K11 4 (by decide)
    · cases e; exact K12 4 (by decide)
    · cases e; exact K13 4
  have G17 : FnP C0 5 _ _ ["_law_script"] (spP C0 1 semLaw) := def_at (C := C0) (T := tb.only [2, 5, 6, 7, 8, 9, 10, 11, 12, 13]) w17 F17 sc_17 ck_17 (fun ds hl h => ev_law ds h)
  exact law_of (C := C0) G17 law_true
end
end G
open PySem PySem.W PyProof.Rows in
set_option maxRecDepth 100000 in
set_option maxHeartbeats 0 in
theorem PySem.Challenge.cw_piecefinds_k02_span_order_holds : PySem.Challenge.rw_piecefinds_k02_span_order.Holds := by
  w_on; o_law; k_head; (case hw => w_witness2)
  k_fill
  refine G.walk_end (l := PySem.Challenge.rw_piecefinds_k02_span_order) (k := 5) (x := "_law_script") rfl rfl ⟨rfl, by decide, by decide⟩ (fun w h Y => PySem.W.kIn_of Y) ?F
  case F =>
    intro w mg fa h KX Gh hmg
    refine' G.all_mk KX Gh hmg ?aC0 ?pg0 ?hd0 ?po0 ?sa0 ?mk0 ?kc0 ?ha0 ?hm0 ?nf0_0 ?nf0_1 ?hnC ?htkC ?aX0 ?exX0 ?kpX0 ?sbX0 ?tyX0 ?rd0 ?ga0 ?cv0 ?su0 ?su1 ?su2 ?su3 ?z0 ?z1 ?z2 ?z3 ?z4 ?z5 ?z6 ?z7 ?z8 ?z9 ?z10 ?z11 ?z12 ?z13 ?z14 ?z15 ?a2 ?l2 ?c2 ?k2 ?a3 ?l3 ?c3 ?k3 ?a4 ?l4 ?c4 ?k4 ?a5 ?i5 ?l5 ?c5 ?k5 ?a6 ?i6 ?l6 ?c6 ?k6 ?a7 ?i7 ?l7 ?c7 ?k7 ?a8 ?i8 ?l8 ?c8 ?k8 ?a9 ?i9 ?l9 ?c9 ?k9 ?a10 ?i10 ?l10 ?c10 ?k10 ?a11 ?i11 ?l11 ?c11 ?k11 ?a12 ?l12 ?c12 ?k12 ?a17 ?l17 ?c17 ?k17
    (case aC0 => k_is)
    (case pg0 => k_is)
    (case hd0 => k_is)
    (case po0 => k_is)
    (case sa0 => k_is)
    (case mk0 => k_is)
    (case kc0 => k_is)
    (case ha0 => k_is)
    (case hm0 => k_is)
    (case nf0_0 => k_is)
    (case nf0_1 => k_is)
    (case hnC => k_is)
    (case htkC => k_is)
    (case aX0 => k_is)
    (case exX0 => k_exc)
    (case kpX0 => k_is)
    (case sbX0 => k_is)
    (case tyX0 => k_is)
    (case rd0 => k_is)
    (case ga0 => k_is)
    (case cv0 => k_is)
    (case su0 => first | k_is | rfl | (unfold PySem.W.kitOne; simp))
    (case su1 => first | k_is | rfl | (unfold PySem.W.kitOne; simp))
    (case su2 => first | k_is | rfl | (unfold PySem.W.kitOne; simp))
    (case su3 => first | k_is | rfl | (unfold PySem.W.kitOne; simp))
    (case z0 => k_is)
    (case z1 => k_is)
    (case z2 => k_is)
    (case z3 => k_is)
    (case z4 => k_is)
    (case z5 => k_is)
    (case z6 => k_is)
    (case z7 => k_is)
    (case z8 => k_is)
    (case z9 => k_is)
    (case z10 => k_is)
    (case z11 => k_is)
    (case z12 => k_is)
    (case z13 => k_is)
    (case z14 => k_is)
    (case z15 => k_is)
    (case a2 => k_is)
    (case l2 => k_is)
    (case c2 => k_is)
    (case k2 => k_is)
    (case a3 => k_is)
    (case l3 => k_is)
    (case c3 => k_is)
    (case k3 => k_is)
    (case a4 => k_is)
    (case l4 => k_is)
    (case c4 => k_is)
    (case k4 => k_is)
    (case a5 => k_is)
    (case i5 => k_is)
    (case l5 => k_is)
    (case c5 => k_is)
    (case k5 => k_is)
    (case a6 => k_is)
    (case i6 => k_is)
    (case l6 => k_is)
    (case c6 => k_is)
    (case k6 => k_is)
    (case a7 => k_is)
    (case i7 => k_is)
    (case l7 => k_is)
    (case c7 => k_is)
    (case k7 => k_is)
    (case a8 => k_is)
    (case i8 => k_is)
    (case l8 => k_is)
    (case c8 => k_is)
    (case k8 => k_is)
    (case a9 => k_is)
    (case i9 => k_is)
    (case l9 => k_is)
    (case c9 => k_is)
    (case k9 => k_is)
    (case a10 => k_is)
    (case i10 => k_is)
    (case l10 => k_is)
    (case c10 => k_is)
    (case k10 => k_is)
    (case a11 => k_is)
    (case i11 => k_is)
    (case l11 => k_is)
    (case c11 => k_is)
    (case k11 => k_is)
    (case a12 => k_is)
    (case l12 => k_is)
    (case c12 => k_is)
    (case k12 => k_is)
    (case a17 => k_is)
    (case l17 => k_is)
    (case c17 => k_is)
    (case k17 => k_is)
