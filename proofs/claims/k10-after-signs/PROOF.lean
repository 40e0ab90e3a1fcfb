import PyProof.Rows.All
import Wide.All
import OpenK.AllK
import Wide.FinOn
import HandS.ForMost
import HandS.ForExc
import HandS.TupAny
import HandS.FStr
import HandS.ClsMeth
import KE.KeyNested
import KE.SortData
import KE.DataCmp
import KE.DataMinMax
import KE.KSuper
import KE.KStateDown
import HandS.Head0
import HandS.Head1
import HandS.Head2
import HandS.HeadEnd
import HandS.HeadHook1
import HandS.HeadHook2
import HandS.Deep
import HandS.TupLe
import HandS.TupMul
import KE.KDictDisplayH
import HandS.Conv
import KE.KTupSum
import HandS.More
import HandS.Flow
import HandS.IsInst
import HandS.ExcIs
import HandS.Bytes
import HandS.TryMany
import PyProof.Laws
import HandS.Property
import HandS.Text
import HandS.Codes
import HandS.GenList
import PySem.Challenge.RW_piecefinds_k10_after_signs
set_option Elab.async false
set_option linter.all false
set_option maxRecDepth 100000
set_option maxHeartbeats 8000000
namespace G
open PySem L2
inductive D where
  | non | bl (b : Bool) | int (i : Int) | str (s : List Nat) | byt (s : List UInt8)
  | tup (l : List D) | lst (l : List D) | obj (c : Nat) (l : List D) | scr (l : List Int)
  | dict (k : Bool) (ks vs : List D) | cache (m : D) | cls (n : Nat)
noncomputable def D.same (a b : D) : Bool := @decide (a = b) (Classical.propDecidable _)
theorem D.same_iff {a b : D} : a.same b = true ↔ a = b := @decide_eq_true_iff _ (Classical.propDecidable _)
abbrev Sx (l : List Nat) : Str := ⟨l.toArray⟩
mutual
def D.py : D → PyData
  | .non => .none
  | .bl b => .bool b
  | .int i => .int i
  | .str s => .str (Sx s)
  | .byt _ => .none
  | .tup l => .tuple (D.pyL l)
  | .lst l => .list (D.pyL l)
  | .obj _ _ => .none
  | .scr _ => .none
  | .dict _ _ _ => .none
  | .cache _ => .none
  | .cls _ => .none
def D.pyL : List D → List PyData
  | [] => []
  | d :: ds => D.py d :: D.pyL ds
end
mutual
def D.flat : Nat → D → Bool
  | _, .non => true
  | _, .bl _ => true
  | _, .int _ => true
  | _, .str s => s.all (· < 128) && decide (s.length ≤ 16777216)
  | n + 1, .tup l => D.flatL n l
  | n + 1, .lst l => D.flatL n l
  | _, _ => false
def D.flatL : Nat → List D → Bool
  | _, [] => true
  | n, d :: ds => D.flat n d && D.flatL n ds
end
mutual
def D.eqv : D → D → Bool
  | .non, .non => true
  | .bl a, .bl b => a == b
  | .bl a, .int j => (if a then 1 else 0) == j
  | .int i, .bl b => i == (if b then 1 else 0)
  | .int i, .int j => i == j
  | .str x, .str y => x == y
  | .lst xs, .lst ys => D.eqvL xs ys
  | .tup xs, .tup ys => D.eqvL xs ys
  | _, _ => false
def D.eqvL : List D → List D → Bool
  | [], [] => true
  | x :: xs, y :: ys => D.eqv x y && D.eqvL xs ys
  | _, _ => false
end
mutual
def D.nk : D → NestedKey
  | .non => .none
  | .bl b => .num (if b = true then 1 else 0)
  | .int i => .num i
  | .str s => .text (Sx s)
  | .tup l => .tup (D.nkL l)
  | .byt _ => .none
  | .lst _ => .none
  | .obj _ _ => .none
  | .scr _ => .none
  | .dict _ _ _ => .none
  | .cache _ => .none
  | .cls _ => .none
def D.nkL : List D → List NestedKey
  | [] => []
  | d :: ds => D.nk d :: D.nkL ds
end
mutual
def D.hk : Nat → D → Bool
  | _, .non => true
  | _, .bl _ => true
  | _, .int _ => true
  | _, .str _ => true
  | n + 1, .tup l => D.hkL n l
  | _, _ => false
def D.hkL : Nat → List D → Bool
  | _, [] => true
  | n, d :: ds => D.hk n d && D.hkL n ds
end
def D.isTup : D → Bool
  | .tup _ => true
  | _ => false
def D.kk : D → Option Key
  | .int i => some (.inl i)
  | .str s => some (.inr (Sx s))
  | _ => none
mutual
def D.plain : D → Bool
  | .non => true
  | .bl _ => true
  | .int _ => true
  | .str _ => true
  | .byt _ => true
  | .tup l => D.plainL l
  | .lst l => D.plainL l
  | _ => false
def D.plainL : List D → Bool
  | [] => true
  | d :: ds => D.plain d && D.plainL ds
end
def D.isKey (k : Bool) (d : D) : Bool := if k then d.kk.isSome else d.isTup && d.hk 8
def dGet {α : Type} : List D → List α → D → Option α
  | k :: ks, v :: vs, x => if k.nk = x.nk then some v else dGet ks vs x
  | _, _, _ => none
def dHas (ks : List D) (x : D) : Bool := ks.any fun k => decide (k.nk = x.nk)
def dPut {α : Type} : List D → List α → D → α → List α
  | k :: ks, v :: vs, x, y => (if k.nk = x.nk then y else v) :: dPut ks vs x y
  | _, _, _, _ => []
inductive Fz where
  | o (u : HO) | c (m : D)
abbrev Wd := Addr → Option Fz
structure Bs where
  w : Wd
  h : Hp
  me : Addr
  io : Addr := 0
  la : Addr := 0
  xa : Addr := 0
  xe : Nat × List Int := (0, [])
def fo (F : Wd) : Hp := fun a => match F a with | some (.o u) => some u | _ => none
def updW (F : Wd) (a : Addr) (x : Fz) : Wd := fun b => if b = a then some x else F b
theorem updW_same {F : Wd} {a : Addr} {x : Fz} : updW F a x a = some x := by unfold updW; rw [if_pos rfl]
theorem updW_ne {F : Wd} {a b : Addr} {x : Fz} (h : b ≠ a) : updW F a x b = F b := by unfold updW; rw [if_neg h]
abbrev Ec := Nat × List Int
inductive R (α : Type) where
  | ok (a : α) | exc (c : Ec) | bad
def R.bind {α β : Type} : R α → (α → R β) → R β
  | .ok a, f => f a
  | .exc c, _ => .exc c
  | .bad, _ => .bad
@[simp] theorem R.bind_ok {α β : Type} (a : α) (f : α → R β) : (R.ok a).bind f = f a := rfl
@[simp] theorem R.bind_exc {α β : Type} (c : Ec) (f : α → R β) : (R.exc c : R α).bind f = .exc c := rfl
@[simp] theorem R.bind_bad {α β : Type} (f : α → R β) : (R.bad : R α).bind f = .bad := rfl
inductive Ty where | b (n : String) | c (n : Nat) | x (n : Nat)
inductive Cell where
  | dead | val (d : D) | ownL (l : List D) | ownD (k : Bool) (ks vs : List D) | ownI (c : Nat) (l : List D) | io (ks vs : List D) | exn (e : Ec) | lent
abbrev Gam := List Cell
inductive Out where
  | next (Γ : Gam) | ret (d : D) | rio (d : D) (ks vs : List D) | rown (l : List D) | brk (Γ : Gam) | cont (Γ : Gam) | exc (c : Ec) (Γ : Gam) | bad
structure Mng where
  flds : Nat → List Nat
  fn : Nat → List D → R D
  gl : Nat → D
  sub : Ty → Ty → Option Bool
  hs : Nat → Gam → Out
  memo : D → D → Option D
structure Cfg extends Mng where
  P : Program
  w : World
  K : PySem.W.Frag
  mg : Str → Option Value
  base : Heap
  J : Nat
  cls : Nat → Addr
  exa : Nat → Addr
  fnm : Nat → Str
  has : Nat → Bool
  hasX : Nat → Bool
  xf : Nat → List Str
  cok : Wd → Hp → Addr → D → Prop
  cok_mono : ∀ {F F' : Wd} {H H' : Hp} {a : Addr} {m : D}, (∀ b x, F b = some x → F' b = some x) → H' a = H a → cok F H a m → cok F' H' a m
  cok_drop : ∀ {F F2 : Wd} {H : Hp} {a b : Addr} {m : D}, (∀ b x, F2 b = some x → b ≠ a → F b = some x) → (∀ u, F2 a = some (.o u) → (∃ cl dx fs, u = .ins cl dx fs) ∨ ∃ xs, u = .lst xs) → cok F2 H b m → cok F H b m
def Fits (C : Cfg) (F : Wd) (H : Hp) : Prop := ∀ a x, F a = some x → match x with
  | .o u => H a = some u
  | .c m => C.cok F H a m ∧ ∃ u, H a = some u
structure Ext (F0 : Wd) (H0 : Hp) (F : Wd) (H : Hp) : Prop where
  le : ∀ b x, F0 b = some x → F b = some x
  new : ∀ b x, F b = some x → F0 b = some x ∨ H0 b = none
  keep : ∀ b u, H0 b = some u → (∀ m, F0 b ≠ some (.c m)) → H b = some u
theorem Ext.refl (F : Wd) (H : Hp) : Ext F H F H := ⟨fun _ _ h => h, fun _ _ h => .inl h, fun _ _ h _ => h⟩
theorem Ext.trans {F0 F1 F2 : Wd} {H0 H1 H2 : Hp} (a : Ext F0 H0 F1 H1) (b : Ext F1 H1 F2 H2) : Ext F0 H0 F2 H2 := by
  refine ⟨fun c x h => b.le c x (a.le c x h), fun c x h => ?_, fun c u h n => b.keep c u (a.keep c u h n) fun m e => ?_⟩
  · rcases b.new c x h with h1 | h1
    · exact a.new c x h1
    · cases e : H0 c with
      | none => exact .inr rfl
      | some u =>
        refine .inl ?_
        by_cases hm : ∃ m, F0 c = some (.c m)
        · obtain ⟨m, hm⟩ := hm
          have := b.le c _ (a.le c _ hm)
          rw [h] at this; rw [this]; exact hm
        · have := a.keep c u e fun m z => hm ⟨m, z⟩
          rw [h1] at this; cases this
  · rcases a.new c _ e with z | z
    · exact n m z
    · rw [z] at h; cases h
def NdOk (P : Program) (w : World) (a : Addr) (kvs : List (NestedKey × Addr × V)) : Heap → Prop := fun h => (a == sysModules) = false ∧ kvs.length ≤ sizeLine ∧ (kvs.map (·.1)).Nodup ∧ ∃ xs : List (NestedKey × Addr × Value),
  Paired (fun (p : NestedKey × Addr × V) (q : NestedKey × Addr × Value) => p.1 = q.1 ∧ p.2.1 = q.2.1 ∧ RelV p.2.2 q.2.2) kvs xs ∧
  ∃ o es ep, h.get? a = some o ∧ o.ExactDict ∧ o.data = .dict es ep ∧ es.toList = xs.map (entryOfKey (nestedKind P w))
def fieldsN (C : Cfg) (c n : Nat) (vs : List V) : List (Str × V) := (((C.flds c).take n).map C.fnm).zip vs
def NdP (po : Option Obj) (a : Addr) (P : Heap → Prop) : Heap → Prop := match po with
  | none => P
  | some o => fun h => h.get? a = some o ∧ P h
def dictO (C : Cfg) (a : Addr) (k : Bool) (ks : List D) (kas : List Addr) (xs : List V) (po : Option Obj := none) : HO :=
  if k then .dK ((ks.filterMap D.kk).zip xs) else .ext (NdP po a (NdOk C.P C.w a ((D.nkL ks).zip (kas.zip xs))))
mutual
def Rep (C : Cfg) (F : Wd) (v : V) : D → Prop
  | .non => v = .non
  | .bl b => v = .bl b
  | .int i => v = .int i
  | .str s => v = .str (Sx s)
  | .byt s => v = .byt s.toArray
  | .tup l => ∃ a xs, v = .ref a ∧ F a = some (.o (.tup xs)) ∧ RepL C F xs l
  | .lst l => ∃ a xs, v = .ref a ∧ F a = some (.o (.lst xs)) ∧ RepL C F xs l
  | .obj c l => ∃ a dx xs, v = .ref a ∧ C.has c = true ∧ F a = some (.o (.ins (C.cls c) dx (fieldsN C c l.length xs))) ∧ l.length ≤ (C.flds c).length ∧ RepL C F xs l
  | .scr l => ∃ a, v = .ref a ∧ SqL C.K (fo F) a (l.map V.int)
  | .dict k ks l => ∃ a kas xs po, v = .ref a ∧ F a = some (.o (dictO C a k ks kas xs po)) ∧ (k = false → po.isSome = true) ∧ ks.all (D.isKey k) = true ∧ kas.length = ks.length ∧ ks.length = l.length ∧ (k = false → RepL C F (kas.map V.ref) ks) ∧ RepL C F xs l
  | .cache m => ∃ a, v = .ref a ∧ F a = some (.c m)
  | .cls n => v = .ref (C.cls n) ∧ C.has n = true
def RepL (C : Cfg) (F : Wd) (vs : List V) : List D → Prop
  | [] => vs = []
  | d :: ds => ∃ v r, vs = v :: r ∧ Rep C F v d ∧ RepL C F r ds
end
section
variable {C : Cfg} {F F' : Wd}
theorem fo_le (h : ∀ b x, F b = some x → F' b = some x) : ∀ b u, fo F b = some u → fo F' b = some u := fun b u e => by
  unfold fo at e ⊢
  split at e
  · rename_i u' hu
    rw [h _ _ hu]
    exact e
  · cases e
theorem SqL.le {K : PySem.W.Frag} {H H' : Hp} {a : Addr} {xs : List V} (h : ∀ b u, H b = some u → H' b = some u) (q : SqL K H a xs) : SqL K H' a xs := by
  rcases q with (q | ⟨o, q⟩) | q
  · exact .inl (.inl (h _ _ q))
  · exact .inl (.inr ⟨o, h _ _ q⟩)
  · exact .inr q
mutual
theorem Rep.le (h : ∀ b x, F b = some x → F' b = some x) : ∀ (d : D) (v : V), Rep C F v d → Rep C F' v d
  | .non, _, q => q
  | .bl _, _, q => q
  | .int _, _, q => q
  | .str _, _, q => q
  | .byt _, _, q => q
  | .tup l, v, q => by
    obtain ⟨a, xs, e, f, r⟩ := q
    exact ⟨a, xs, e, h _ _ f, RepL.le h l xs r⟩
  | .lst l, v, q => by
    obtain ⟨a, xs, e, f, r⟩ := q
    exact ⟨a, xs, e, h _ _ f, RepL.le h l xs r⟩
  | .obj c l, v, q => by
    obtain ⟨a, dx, xs, e, hc, f, z, r⟩ := q
    exact ⟨a, dx, xs, e, hc, h _ _ f, z, RepL.le h l xs r⟩
  | .scr l, v, q => by
    obtain ⟨a, e, f⟩ := q
    exact ⟨a, e, SqL.le (fo_le h) f⟩
  | .dict k ks l, v, q => by
    obtain ⟨a, kas, xs, po, e, f, zp, z, z2, z3, r1, r⟩ := q
    exact ⟨a, kas, xs, po, e, h _ _ f, zp, z, z2, z3, fun hk => RepL.le h ks _ (r1 hk), RepL.le h l xs r⟩
  | .cache m, v, q => by
    obtain ⟨a, e, f⟩ := q
    exact ⟨a, e, h _ _ f⟩
  | .cls _, _, q => q
theorem RepL.le (h : ∀ b x, F b = some x → F' b = some x) : ∀ (l : List D) (vs : List V), RepL C F vs l → RepL C F' vs l
  | [], _, q => q
  | d :: ds, vs, q => by
    obtain ⟨v, r, e, q1, q2⟩ := q
    exact ⟨v, r, e, Rep.le h d v q1, RepL.le h ds r q2⟩
end
theorem RepL.len : ∀ {l : List D} {vs : List V}, RepL C F vs l → vs.length = l.length
  | [], _, q => by rw [show _ = [] from q]; rfl
  | d :: ds, vs, q => by
    obtain ⟨v, r, rfl, _, q2⟩ := q
    simp [RepL.len q2]
theorem RepL.get : ∀ {l : List D} {vs : List V} {i : Nat} {d : D}, RepL C F vs l → l[i]? = some d → ∃ v, vs[i]? = some v ∧ Rep C F v d
  | [], _, _, _, _, e => by simp at e
  | d :: ds, vs, i, x, q, e => by
    obtain ⟨v, r, rfl, q1, q2⟩ := q
    cases i with
    | zero => simp at e; subst e; exact ⟨v, rfl, q1⟩
    | succ i =>
      obtain ⟨u, h1, h2⟩ := RepL.get (i := i) (d := x) q2 (by simpa using e)
      exact ⟨u, by simpa using h1, h2⟩
theorem RepL.get2 : ∀ {l : List D} {vs : List V} {i : Nat} {v : V}, RepL C F vs l → vs[i]? = some v → ∃ d, l[i]? = some d ∧ Rep C F v d
  | [], _, _, _, q, e => by rw [show _ = [] from q] at e; simp at e
  | d :: ds, vs, i, x, q, e => by
    obtain ⟨v, r, rfl, q1, q2⟩ := q
    cases i with
    | zero => simp at e; subst e; exact ⟨d, rfl, q1⟩
    | succ i =>
      obtain ⟨u, h1, h2⟩ := RepL.get2 (i := i) (v := x) q2 (by simpa using e)
      exact ⟨u, by simpa using h1, h2⟩
theorem RepL.app : ∀ {l m : List D} {vs us : List V}, RepL C F vs l → RepL C F us m → RepL C F (vs ++ us) (l ++ m)
  | [], _, _, _, q, r => by rw [show _ = [] from q]; exact r
  | d :: ds, m, vs, us, q, r => by
    obtain ⟨v, r', rfl, q1, q2⟩ := q
    exact ⟨v, _, rfl, q1, RepL.app q2 r⟩
theorem RepL.one {d : D} {v : V} (q : Rep C F v d) : RepL C F [v] [d] := ⟨v, [], rfl, q, rfl⟩
theorem RepL.take : ∀ {l : List D} {vs : List V} (n : Nat), RepL C F vs l → RepL C F (vs.take n) (l.take n)
  | _, _, 0, _ => rfl
  | [], _, n + 1, q => by rw [show _ = [] from q]; rfl
  | d :: ds, vs, n + 1, q => by
    obtain ⟨v, r, rfl, q1, q2⟩ := q
    exact ⟨v, _, rfl, q1, RepL.take n q2⟩
theorem RepL.drop : ∀ {l : List D} {vs : List V} (n : Nat), RepL C F vs l → RepL C F (vs.drop n) (l.drop n)
  | _, _, 0, q => q
  | [], _, n + 1, q => by rw [show _ = [] from q]; rfl
  | d :: ds, vs, n + 1, q => by
    obtain ⟨v, r, rfl, q1, q2⟩ := q
    exact RepL.drop n q2
theorem RepL.set : ∀ {l : List D} {vs : List V} {d : D} {v : V} (n : Nat), RepL C F vs l → Rep C F v d → RepL C F (vs.set n v) (l.set n d)
  | [], _, _, _, n, q, _ => by rw [show _ = [] from q]; rfl
  | x :: xs, vs, d, v, n, q, r => by
    obtain ⟨u, us, rfl, q1, q2⟩ := q
    cases n with
    | zero => exact ⟨v, us, rfl, r, q2⟩
    | succ n => exact ⟨u, _, rfl, q1, RepL.set n q2 r⟩
theorem RepL.rev : ∀ {l : List D} {vs : List V}, RepL C F vs l → RepL C F vs.reverse l.reverse
  | [], _, q => by rw [show _ = [] from q]; rfl
  | d :: ds, vs, q => by
    obtain ⟨v, r, rfl, q1, q2⟩ := q
    rw [List.reverse_cons, List.reverse_cons]
    exact RepL.app (RepL.rev q2) (RepL.one q1)
theorem RepL.snoc {l : List D} {d : D} {vs : List V} {v : V} (q : RepL C F vs l) (r : Rep C F v d) : RepL C F (vs ++ [v]) (l ++ [d]) := RepL.app q (RepL.one r)
theorem RepL.ints {l : List Int} : ∀ {vs : List V}, RepL C F vs (l.map D.int) → vs = l.map V.int := by
  induction l with
  | nil => intro vs q; exact q
  | cons i r ih =>
    intro vs q
    obtain ⟨v, r', rfl, q1, q2⟩ := q
    rw [ih q2, show v = .int i from q1]; rfl
end
theorem le_upd {F : Wd} {a : Addr} {x : Fz} (hF : F a = none) : ∀ b y, F b = some y → updW F a x b = some y := fun b y h => by
  by_cases hb : b = a
  · rw [hb, hF] at h; cases h
  · rw [updW_ne hb]; exact h
theorem Fits.adopt {C : Cfg} {F : Wd} {H : Hp} {a : Addr} {u : HO} (f : Fits C F H) (hF : F a = none) (hH : H a = some u) : Fits C (updW F a (.o u)) H := fun b x e => by
  by_cases hb : b = a
  · subst hb
    rw [updW_same] at e
    cases e
    exact hH
  · rw [updW_ne hb] at e
    have := f b x e
    cases x with
    | o v => exact this
    | c m => exact ⟨C.cok_mono (le_upd hF) rfl this.1, this.2⟩
theorem Ext.adopt {F0 F : Wd} {H0 H : Hp} {a : Addr} {u : HO} (e : Ext F0 H0 F H) (hF : F a = none) (h0 : H0 a = none) : Ext F0 H0 (updW F a (.o u)) H := by
  refine ⟨fun b x h => ?_, fun b x h => ?_, e.keep⟩
  · have h1 := e.le b x h
    by_cases hb : b = a
    · rw [hb, hF] at h1; cases h1
    · rw [updW_ne hb]; exact h1
  · by_cases hb : b = a
    · rw [hb]; exact .inr h0
    · rw [updW_ne hb] at h; exact e.new b x h
theorem Fits.free {C : Cfg} {F : Wd} {H : Hp} {a : Addr} (f : Fits C F H) (h : H a = none) : F a = none := by
  cases e : F a with
  | none => rfl
  | some x =>
    have := f a x e
    cases x with
    | o u => rw [h] at this; cases this
    | c m => obtain ⟨_, u, z⟩ := this; rw [h] at z; cases z
theorem Fits.fresh {C : Cfg} {F : Wd} {H : Hp} {p : Addr} {u : HO} (f : Fits C F H) (hp : H p = none) : Fits C F (upd H p u) := fun b x e => by
  have hb : b ≠ p := fun z => by rw [z, f.free hp] at e; cases e
  have := f b x e
  cases x with
  | o v => rw [upd_ne hb]; exact this
  | c m => rw [upd_ne hb]; exact ⟨C.cok_mono (fun _ _ h => h) (by rw [upd_ne hb]) this.1, this.2⟩
theorem Fits.write {C : Cfg} {F : Wd} {H : Hp} {p : Addr} {u : HO} (f : Fits C F H) (hp : F p = none) : Fits C F (upd H p u) := fun b x e => by
  have hb : b ≠ p := fun z => by rw [z, hp] at e; cases e
  have := f b x e
  cases x with
  | o v => rw [upd_ne hb]; exact this
  | c m => rw [upd_ne hb]; exact ⟨C.cok_mono (fun _ _ h => h) (by rw [upd_ne hb]) this.1, this.2⟩
theorem Ext.fresh {F0 F : Wd} {H0 H : Hp} {p : Addr} {u : HO} (e : Ext F0 H0 F H) (hp : H0 p = none) : Ext F0 H0 F (upd H p u) :=
  ⟨e.le, e.new, fun b v h n => by rw [upd_ne (ne_of_none h hp)]; exact e.keep b v h n⟩
theorem Fits.fo {C : Cfg} {F : Wd} {H : Hp} (f : Fits C F H) : ∀ b u, fo F b = some u → H b = some u := fun b u e => by
  unfold G.fo at e
  split at e
  · rename_i u' hu
    cases e
    exact f _ _ hu
  · cases e
end G
namespace PySem.W
open PySem
end PySem.W
namespace G
open PySem L2
def xO (K : PySem.W.Frag) (a : Addr) : Obj := match K.lookup a with
  | some o => o
  | none => default
def xFd (K : PySem.W.Frag) (a : Addr) : FuncData := match K.lookup a with
  | some ⟨_, _, .func fd, _⟩ => fd
  | _ => default
def xRef : Value → Addr
  | .ref a => a
  | _ => 0
def xTok : Value → Tok
  | .int _ t => t
  | .str _ t => t
  | _ => 0
def xRec (K : PySem.W.Frag) (p : Addr) (T : String) : Addr := match PySem.W.recIn K p T with
  | some (v :: _) => xRef v
  | _ => 0
def xRest (K : PySem.W.Frag) (p : Addr) (T : String) : List Value := match PySem.W.recIn K p T with
  | some (_ :: r) => r
  | _ => []
def xNs (K : PySem.W.Frag) (D : Addr) (x : Str) : Value := match PySem.W.nsIn K D x with
  | some (some v) => v
  | _ => .none
instance : DecidableEq PySem.W.CFound := fun a b => match a, b with
  | .val u, .val v => if h : u = v then isTrue (by rw [h]) else isFalse fun e => h (by cases e; rfl)
  | .get a b c d, .get a' b' c' d' => if h : a = a' ∧ b = b' ∧ c = c' ∧ d = d' then isTrue (by obtain ⟨rfl, rfl, rfl, rfl⟩ := h; rfl) else isFalse fun e => h (by cases e; exact ⟨rfl, rfl, rfl, rfl⟩)
  | .val _, .get _ _ _ _ => isFalse fun e => by cases e
  | .get _ _ _ _, .val _ => isFalse fun e => by cases e
abbrev FnZ : Type := Option (Str × Str × Arguments × FuncBody × Scope × Addr × List Str × Value × Addr)
def fnXo (K : PySem.W.Frag) (a : Addr) : FnZ := match K.lookup a with
  | some ⟨_, _, .func fd, _⟩ => some (fd.name, fd.qualname, fd.params, fd.body, fd.scope, fd.globals, fd.closure.map (·.1), fd.defaults, fd.builtins)
  | _ => none
def fnXv (x q : Str) (st : Stmt) (cl : List Str) : FnZ := some (x, q, defArgs st, .stmts (defBody st), defScope st, mainGlobals, cl, .none, builtinsNs)
theorem fn_lk {K : PySem.W.Frag} {a : Addr} {x q : Str} {st : Stmt} (e : fnXo K a = fnXv x q st []) :
    K.lookup a = some ⟨(xO K a).cls, (xO K a).dict, .func (PySem.W.fnOf x q (defArgs st) (defBody st) (defScope st) .none (xFd K a).kwdefaults (xFd K a).doc (xFd K a).pyModule (xFd K a).annotations (xFd K a).code (xFd K a).closureTuple), (xO K a).slots⟩ := by
  unfold fnXo at e
  unfold xO xFd
  cases z : K.lookup a with
  | none => rw [z] at e; cases e
  | some o =>
    obtain ⟨oc, od, dt, osl⟩ := o
    rw [z] at e
    cases dt with
    | func fd =>
      obtain ⟨n1, n2, n3, n4, n5, n6, n7, n8, n9, n10, n11, n12, n13, n14, n15⟩ := fd
      have e2 : (some (n1, n2, n3, n4, n5, n6, n7.map (·.1), n8, n15) : FnZ) = some (x, q, defArgs st, .stmts (defBody st), defScope st, mainGlobals, [], .none, builtinsNs) := e
      simp only [Option.some.injEq, Prod.mk.injEq, List.map_eq_nil_iff] at e2
      obtain ⟨h1, h2, h3, h4, h5, h6, h7, h8, h9⟩ := e2
      subst h1 h2 h3 h4 h5 h6 h7 h8 h9
      rfl
    | _ => cases e
noncomputable def hasB (m a : Nat) : Bool := Nat.beq (Nat.land 1 (Nat.shiftRight m a)) 0
noncomputable def goR {β : Type} (k : Nat → List Addr → β) (l : List Addr) : Nat → List Addr → β :=
  List.rec (motive := fun _ => Nat → List Addr → β) k (fun r _ ih seen acc => Bool.rec (ih seen acc) (ih (Nat.lor seen (Nat.shiftLeft 1 r)) (r :: acc)) (hasB seen r)) l
def rfB (g : Addr → Option Obj) (a : Addr) : List Addr := match g a with
  | some o => He.refsD o
  | none => []
noncomputable def goF {β : Type} (g : Addr → Option Obj) (k : Nat → List Addr → β) (l : List Addr) : Nat → List Addr → β :=
  List.rec (motive := fun _ => Nat → List Addr → β) k (fun a _ ih seen acc => goR ih (rfB g a) seen acc) l
noncomputable def goN (g : Addr → Option Obj) (n : Nat) : List Addr → Nat → List Addr → List Addr :=
  Nat.rec (motive := fun _ => List Addr → Nat → List Addr → List Addr) (fun _ _ all => all) (fun _ ih fr seen all => goF g (fun s c => ih c s (c ++ all)) fr seen []) n
noncomputable def asZ (g : Addr → Option Obj) (n : Nat) : List Addr := goN g n [mainGlobals, cStatics] (Nat.lor (Nat.shiftLeft 1 mainGlobals) (Nat.shiftLeft 1 cStatics)) [mainGlobals, cStatics]
abbrev AlZ : Type := Bool × List FnZ
noncomputable def obsZ (n : Nat) (chk : PySem.W.Frag → Bool) (fns : PySem.W.Frag → List FnZ) (g : Addr → Option Obj) : AlZ := (fun K => (chk K, fns K)) (He.frG g (asZ g n))
noncomputable def hookZ (n : Nat) (chk : PySem.W.Frag → Bool) (fns : PySem.W.Frag → List FnZ) (vals : List FnZ) : PySem.W.Hook where
  α := AlZ
  obs := fun s => obsZ n chk fns s.heap.get?
  val := fun _ => (true, vals)
  says := fun _ h => ∃ K : PySem.W.Frag, K.In h ∧ (chk K, fns K) = ((true, vals) : AlZ)
  of := fun _ _ e => ⟨_, He.frG_in, e⟩
  keeps := fun _ _ _ ⟨K, hK, c⟩ k => ⟨K, PySem.W.Frag.In.keeps hK k, c⟩
theorem obsZ_eq {n : Nat} {chk : PySem.W.Frag → Bool} {fns : PySem.W.Frag → List FnZ} {vals : List FnZ} (s : PySem.W.SharedT) : obsZ n chk fns (HandSHeadRun.getT s) = (hookZ n chk fns vals).obs s.abs := by
  have e : HandSHeadRun.getT s = s.abs.heap.get? := funext (HandSHeadRun.getT_eq s)
  rw [e] <;> rfl
theorem fns_at {l m : List FnZ} (e : l = m) (i : Nat) {a b : FnZ} (h1 : l[i]? = some a) (h2 : m[i]? = some b) : a = b := by
  rw [e, h2] at h1; exact (Option.some.inj h1).symm
end G
namespace G
open PySem L2
def top (i : Nat) : Stmt := PySem.Challenge.pw_piecefinds_k10_after_signs.main.body.getD i (.Pass ⟨0, 0, 0, 0⟩)
abbrev s_law_draws_1 : Stmt := top 25
abbrev s_law_letters_18 : Stmt := top 26
abbrev s_law_word_19 : Stmt := top 27
abbrev s_law_names_20 : Stmt := top 28
abbrev s_law_marks_21 : Stmt := top 29
abbrev s_law_moves_22 : Stmt := top 30
abbrev s_law_machine_44 : Stmt := top 31
abbrev s_is_word_23 : Stmt := top 15
abbrev s_is_alphabet_24 : Stmt := top 16
abbrev s_are_names_25 : Stmt := top 17
abbrev s_is_number_3 : Stmt := top 8
abbrev s_is_state_26 : Stmt := top 18
abbrev s_checked_moves_27 : Stmt := top 19
abbrev s_Rule_marks_28 : Stmt := inClass (top 23) 1
abbrev s_checked_ends_30 : Stmt := top 20
abbrev s_targets_of_31 : Stmt := top 21
abbrev s_Rule_DinitD_32 : Stmt := inClass (top 23) 0
abbrev s_law_free_45 : Stmt := top 32
abbrev s_law_after_46 : Stmt := top 33
abbrev s_law_path_207 : Stmt := top 34
abbrev s_Rule_closure_48 : Stmt := inClass (top 23) 3
abbrev s_Rule_step_50 : Stmt := inClass (top 23) 4
abbrev s_Rule_after_52 : Stmt := inClass (top 23) 5
abbrev s_law_told_54 : Stmt := top 36
abbrev s_law_due_55 : Stmt := top 35
abbrev s_law_208 : Stmt := top 37
def x_A2 (K : PySem.W.Frag) : Addr := He.ga K "Rule"
def x_X4 (K : PySem.W.Frag) : Addr := He.ga K "BadRule"
def x_f1 (K : PySem.W.Frag) : Addr := He.ga K "_law_draws"
def x_f18 (K : PySem.W.Frag) : Addr := He.ga K "_law_letters"
def x_f19 (K : PySem.W.Frag) : Addr := He.ga K "_law_word"
def x_f20 (K : PySem.W.Frag) : Addr := He.ga K "_law_names"
def x_f21 (K : PySem.W.Frag) : Addr := He.ga K "_law_marks"
def x_f22 (K : PySem.W.Frag) : Addr := He.ga K "_law_moves"
def x_f44 (K : PySem.W.Frag) : Addr := He.ga K "_law_machine"
def x_f23 (K : PySem.W.Frag) : Addr := He.ga K "is_word"
def x_f24 (K : PySem.W.Frag) : Addr := He.ga K "is_alphabet"
def x_f25 (K : PySem.W.Frag) : Addr := He.ga K "are_names"
def x_f3 (K : PySem.W.Frag) : Addr := He.ga K "is_number"
def x_f26 (K : PySem.W.Frag) : Addr := He.ga K "is_state"
def x_f27 (K : PySem.W.Frag) : Addr := He.ga K "checked_moves"
def x_pp28 (K : PySem.W.Frag) : Addr := He.ma K (x_A2 K) "marks"
def x_f28 (K : PySem.W.Frag) : Addr := xRec K (x_pp28 K) "property"
def x_f30 (K : PySem.W.Frag) : Addr := He.ga K "checked_ends"
def x_f31 (K : PySem.W.Frag) : Addr := He.ga K "targets_of"
def x_f32 (K : PySem.W.Frag) : Addr := He.ma K (x_A2 K) "__init__"
def x_f45 (K : PySem.W.Frag) : Addr := He.ga K "_law_free"
def x_f46 (K : PySem.W.Frag) : Addr := He.ga K "_law_after"
def x_f207 (K : PySem.W.Frag) : Addr := He.ga K "_law_path"
def x_f48 (K : PySem.W.Frag) : Addr := He.ma K (x_A2 K) "closure"
def x_f50 (K : PySem.W.Frag) : Addr := He.ma K (x_A2 K) "step"
def x_f52 (K : PySem.W.Frag) : Addr := He.ma K (x_A2 K) "after"
def x_f54 (K : PySem.W.Frag) : Addr := He.ga K "_law_told"
def x_f55 (K : PySem.W.Frag) : Addr := He.ga K "_law_due"
def x_f208 (K : PySem.W.Frag) : Addr := He.ga K "law"
def x_od1 (K : PySem.W.Frag) : Option Addr := (xO K (x_f1 K)).dict
def x_an1 (K : PySem.W.Frag) : Option Addr := (xFd K (x_f1 K)).annotations
def x_od18 (K : PySem.W.Frag) : Option Addr := (xO K (x_f18 K)).dict
def x_an18 (K : PySem.W.Frag) : Option Addr := (xFd K (x_f18 K)).annotations
def x_od19 (K : PySem.W.Frag) : Option Addr := (xO K (x_f19 K)).dict
def x_an19 (K : PySem.W.Frag) : Option Addr := (xFd K (x_f19 K)).annotations
def x_od20 (K : PySem.W.Frag) : Option Addr := (xO K (x_f20 K)).dict
def x_an20 (K : PySem.W.Frag) : Option Addr := (xFd K (x_f20 K)).annotations
def x_od21 (K : PySem.W.Frag) : Option Addr := (xO K (x_f21 K)).dict
def x_an21 (K : PySem.W.Frag) : Option Addr := (xFd K (x_f21 K)).annotations
def x_od22 (K : PySem.W.Frag) : Option Addr := (xO K (x_f22 K)).dict
def x_an22 (K : PySem.W.Frag) : Option Addr := (xFd K (x_f22 K)).annotations
def x_od44 (K : PySem.W.Frag) : Option Addr := (xO K (x_f44 K)).dict
def x_an44 (K : PySem.W.Frag) : Option Addr := (xFd K (x_f44 K)).annotations
def x_od23 (K : PySem.W.Frag) : Option Addr := (xO K (x_f23 K)).dict
def x_an23 (K : PySem.W.Frag) : Option Addr := (xFd K (x_f23 K)).annotations
def x_od24 (K : PySem.W.Frag) : Option Addr := (xO K (x_f24 K)).dict
def x_an24 (K : PySem.W.Frag) : Option Addr := (xFd K (x_f24 K)).annotations
def x_od25 (K : PySem.W.Frag) : Option Addr := (xO K (x_f25 K)).dict
def x_an25 (K : PySem.W.Frag) : Option Addr := (xFd K (x_f25 K)).annotations
def x_od3 (K : PySem.W.Frag) : Option Addr := (xO K (x_f3 K)).dict
def x_an3 (K : PySem.W.Frag) : Option Addr := (xFd K (x_f3 K)).annotations
def x_od26 (K : PySem.W.Frag) : Option Addr := (xO K (x_f26 K)).dict
def x_an26 (K : PySem.W.Frag) : Option Addr := (xFd K (x_f26 K)).annotations
def x_od27 (K : PySem.W.Frag) : Option Addr := (xO K (x_f27 K)).dict
def x_an27 (K : PySem.W.Frag) : Option Addr := (xFd K (x_f27 K)).annotations
def x_od28 (K : PySem.W.Frag) : Option Addr := (xO K (x_f28 K)).dict
def x_an28 (K : PySem.W.Frag) : Option Addr := (xFd K (x_f28 K)).annotations
def x_od30 (K : PySem.W.Frag) : Option Addr := (xO K (x_f30 K)).dict
def x_an30 (K : PySem.W.Frag) : Option Addr := (xFd K (x_f30 K)).annotations
def x_od31 (K : PySem.W.Frag) : Option Addr := (xO K (x_f31 K)).dict
def x_an31 (K : PySem.W.Frag) : Option Addr := (xFd K (x_f31 K)).annotations
def x_od32 (K : PySem.W.Frag) : Option Addr := (xO K (x_f32 K)).dict
def x_an32 (K : PySem.W.Frag) : Option Addr := (xFd K (x_f32 K)).annotations
def x_od45 (K : PySem.W.Frag) : Option Addr := (xO K (x_f45 K)).dict
def x_an45 (K : PySem.W.Frag) : Option Addr := (xFd K (x_f45 K)).annotations
def x_od46 (K : PySem.W.Frag) : Option Addr := (xO K (x_f46 K)).dict
def x_an46 (K : PySem.W.Frag) : Option Addr := (xFd K (x_f46 K)).annotations
def x_od207 (K : PySem.W.Frag) : Option Addr := (xO K (x_f207 K)).dict
def x_an207 (K : PySem.W.Frag) : Option Addr := (xFd K (x_f207 K)).annotations
def x_od48 (K : PySem.W.Frag) : Option Addr := (xO K (x_f48 K)).dict
def x_an48 (K : PySem.W.Frag) : Option Addr := (xFd K (x_f48 K)).annotations
def x_od50 (K : PySem.W.Frag) : Option Addr := (xO K (x_f50 K)).dict
def x_an50 (K : PySem.W.Frag) : Option Addr := (xFd K (x_f50 K)).annotations
def x_od52 (K : PySem.W.Frag) : Option Addr := (xO K (x_f52 K)).dict
def x_an52 (K : PySem.W.Frag) : Option Addr := (xFd K (x_f52 K)).annotations
def x_od54 (K : PySem.W.Frag) : Option Addr := (xO K (x_f54 K)).dict
def x_an54 (K : PySem.W.Frag) : Option Addr := (xFd K (x_f54 K)).annotations
def x_od55 (K : PySem.W.Frag) : Option Addr := (xO K (x_f55 K)).dict
def x_an55 (K : PySem.W.Frag) : Option Addr := (xFd K (x_f55 K)).annotations
def x_od208 (K : PySem.W.Frag) : Option Addr := (xO K (x_f208 K)).dict
def x_an208 (K : PySem.W.Frag) : Option Addr := (xFd K (x_f208 K)).annotations
def x_sl1 (K : PySem.W.Frag) : Array (Option Value) := (xO K (x_f1 K)).slots
def x_sl18 (K : PySem.W.Frag) : Array (Option Value) := (xO K (x_f18 K)).slots
def x_sl19 (K : PySem.W.Frag) : Array (Option Value) := (xO K (x_f19 K)).slots
def x_sl20 (K : PySem.W.Frag) : Array (Option Value) := (xO K (x_f20 K)).slots
def x_sl21 (K : PySem.W.Frag) : Array (Option Value) := (xO K (x_f21 K)).slots
def x_sl22 (K : PySem.W.Frag) : Array (Option Value) := (xO K (x_f22 K)).slots
def x_sl44 (K : PySem.W.Frag) : Array (Option Value) := (xO K (x_f44 K)).slots
def x_sl23 (K : PySem.W.Frag) : Array (Option Value) := (xO K (x_f23 K)).slots
def x_sl24 (K : PySem.W.Frag) : Array (Option Value) := (xO K (x_f24 K)).slots
def x_sl25 (K : PySem.W.Frag) : Array (Option Value) := (xO K (x_f25 K)).slots
def x_sl3 (K : PySem.W.Frag) : Array (Option Value) := (xO K (x_f3 K)).slots
def x_sl26 (K : PySem.W.Frag) : Array (Option Value) := (xO K (x_f26 K)).slots
def x_sl27 (K : PySem.W.Frag) : Array (Option Value) := (xO K (x_f27 K)).slots
def x_sl28 (K : PySem.W.Frag) : Array (Option Value) := (xO K (x_f28 K)).slots
def x_sl30 (K : PySem.W.Frag) : Array (Option Value) := (xO K (x_f30 K)).slots
def x_sl31 (K : PySem.W.Frag) : Array (Option Value) := (xO K (x_f31 K)).slots
def x_sl32 (K : PySem.W.Frag) : Array (Option Value) := (xO K (x_f32 K)).slots
def x_sl45 (K : PySem.W.Frag) : Array (Option Value) := (xO K (x_f45 K)).slots
def x_sl46 (K : PySem.W.Frag) : Array (Option Value) := (xO K (x_f46 K)).slots
def x_sl207 (K : PySem.W.Frag) : Array (Option Value) := (xO K (x_f207 K)).slots
def x_sl48 (K : PySem.W.Frag) : Array (Option Value) := (xO K (x_f48 K)).slots
def x_sl50 (K : PySem.W.Frag) : Array (Option Value) := (xO K (x_f50 K)).slots
def x_sl52 (K : PySem.W.Frag) : Array (Option Value) := (xO K (x_f52 K)).slots
def x_sl54 (K : PySem.W.Frag) : Array (Option Value) := (xO K (x_f54 K)).slots
def x_sl55 (K : PySem.W.Frag) : Array (Option Value) := (xO K (x_f55 K)).slots
def x_sl208 (K : PySem.W.Frag) : Array (Option Value) := (xO K (x_f208 K)).slots
def x_oc1 (K : PySem.W.Frag) : Value := (xO K (x_f1 K)).cls
def x_kV1 (K : PySem.W.Frag) : Value := (xFd K (x_f1 K)).kwdefaults
def x_dc1 (K : PySem.W.Frag) : Value := (xFd K (x_f1 K)).doc
def x_pm1 (K : PySem.W.Frag) : Value := (xFd K (x_f1 K)).pyModule
def x_cd1 (K : PySem.W.Frag) : Value := (xFd K (x_f1 K)).code
def x_ct1 (K : PySem.W.Frag) : Value := (xFd K (x_f1 K)).closureTuple
def x_oc18 (K : PySem.W.Frag) : Value := (xO K (x_f18 K)).cls
def x_kV18 (K : PySem.W.Frag) : Value := (xFd K (x_f18 K)).kwdefaults
def x_dc18 (K : PySem.W.Frag) : Value := (xFd K (x_f18 K)).doc
def x_pm18 (K : PySem.W.Frag) : Value := (xFd K (x_f18 K)).pyModule
def x_cd18 (K : PySem.W.Frag) : Value := (xFd K (x_f18 K)).code
def x_ct18 (K : PySem.W.Frag) : Value := (xFd K (x_f18 K)).closureTuple
def x_oc19 (K : PySem.W.Frag) : Value := (xO K (x_f19 K)).cls
def x_kV19 (K : PySem.W.Frag) : Value := (xFd K (x_f19 K)).kwdefaults
def x_dc19 (K : PySem.W.Frag) : Value := (xFd K (x_f19 K)).doc
def x_pm19 (K : PySem.W.Frag) : Value := (xFd K (x_f19 K)).pyModule
def x_cd19 (K : PySem.W.Frag) : Value := (xFd K (x_f19 K)).code
def x_ct19 (K : PySem.W.Frag) : Value := (xFd K (x_f19 K)).closureTuple
def x_oc20 (K : PySem.W.Frag) : Value := (xO K (x_f20 K)).cls
def x_kV20 (K : PySem.W.Frag) : Value := (xFd K (x_f20 K)).kwdefaults
def x_dc20 (K : PySem.W.Frag) : Value := (xFd K (x_f20 K)).doc
def x_pm20 (K : PySem.W.Frag) : Value := (xFd K (x_f20 K)).pyModule
def x_cd20 (K : PySem.W.Frag) : Value := (xFd K (x_f20 K)).code
def x_ct20 (K : PySem.W.Frag) : Value := (xFd K (x_f20 K)).closureTuple
def x_oc21 (K : PySem.W.Frag) : Value := (xO K (x_f21 K)).cls
def x_kV21 (K : PySem.W.Frag) : Value := (xFd K (x_f21 K)).kwdefaults
def x_dc21 (K : PySem.W.Frag) : Value := (xFd K (x_f21 K)).doc
def x_pm21 (K : PySem.W.Frag) : Value := (xFd K (x_f21 K)).pyModule
def x_cd21 (K : PySem.W.Frag) : Value := (xFd K (x_f21 K)).code
def x_ct21 (K : PySem.W.Frag) : Value := (xFd K (x_f21 K)).closureTuple
def x_oc22 (K : PySem.W.Frag) : Value := (xO K (x_f22 K)).cls
def x_kV22 (K : PySem.W.Frag) : Value := (xFd K (x_f22 K)).kwdefaults
def x_dc22 (K : PySem.W.Frag) : Value := (xFd K (x_f22 K)).doc
def x_pm22 (K : PySem.W.Frag) : Value := (xFd K (x_f22 K)).pyModule
def x_cd22 (K : PySem.W.Frag) : Value := (xFd K (x_f22 K)).code
def x_ct22 (K : PySem.W.Frag) : Value := (xFd K (x_f22 K)).closureTuple
def x_oc44 (K : PySem.W.Frag) : Value := (xO K (x_f44 K)).cls
def x_kV44 (K : PySem.W.Frag) : Value := (xFd K (x_f44 K)).kwdefaults
def x_dc44 (K : PySem.W.Frag) : Value := (xFd K (x_f44 K)).doc
def x_pm44 (K : PySem.W.Frag) : Value := (xFd K (x_f44 K)).pyModule
def x_cd44 (K : PySem.W.Frag) : Value := (xFd K (x_f44 K)).code
def x_ct44 (K : PySem.W.Frag) : Value := (xFd K (x_f44 K)).closureTuple
def x_oc23 (K : PySem.W.Frag) : Value := (xO K (x_f23 K)).cls
def x_kV23 (K : PySem.W.Frag) : Value := (xFd K (x_f23 K)).kwdefaults
def x_dc23 (K : PySem.W.Frag) : Value := (xFd K (x_f23 K)).doc
def x_pm23 (K : PySem.W.Frag) : Value := (xFd K (x_f23 K)).pyModule
def x_cd23 (K : PySem.W.Frag) : Value := (xFd K (x_f23 K)).code
def x_ct23 (K : PySem.W.Frag) : Value := (xFd K (x_f23 K)).closureTuple
def x_oc24 (K : PySem.W.Frag) : Value := (xO K (x_f24 K)).cls
def x_kV24 (K : PySem.W.Frag) : Value := (xFd K (x_f24 K)).kwdefaults
def x_dc24 (K : PySem.W.Frag) : Value := (xFd K (x_f24 K)).doc
def x_pm24 (K : PySem.W.Frag) : Value := (xFd K (x_f24 K)).pyModule
def x_cd24 (K : PySem.W.Frag) : Value := (xFd K (x_f24 K)).code
def x_ct24 (K : PySem.W.Frag) : Value := (xFd K (x_f24 K)).closureTuple
def x_oc25 (K : PySem.W.Frag) : Value := (xO K (x_f25 K)).cls
def x_kV25 (K : PySem.W.Frag) : Value := (xFd K (x_f25 K)).kwdefaults
def x_dc25 (K : PySem.W.Frag) : Value := (xFd K (x_f25 K)).doc
def x_pm25 (K : PySem.W.Frag) : Value := (xFd K (x_f25 K)).pyModule
def x_cd25 (K : PySem.W.Frag) : Value := (xFd K (x_f25 K)).code
def x_ct25 (K : PySem.W.Frag) : Value := (xFd K (x_f25 K)).closureTuple
def x_oc3 (K : PySem.W.Frag) : Value := (xO K (x_f3 K)).cls
def x_kV3 (K : PySem.W.Frag) : Value := (xFd K (x_f3 K)).kwdefaults
def x_dc3 (K : PySem.W.Frag) : Value := (xFd K (x_f3 K)).doc
def x_pm3 (K : PySem.W.Frag) : Value := (xFd K (x_f3 K)).pyModule
def x_cd3 (K : PySem.W.Frag) : Value := (xFd K (x_f3 K)).code
def x_ct3 (K : PySem.W.Frag) : Value := (xFd K (x_f3 K)).closureTuple
def x_oc26 (K : PySem.W.Frag) : Value := (xO K (x_f26 K)).cls
def x_kV26 (K : PySem.W.Frag) : Value := (xFd K (x_f26 K)).kwdefaults
def x_dc26 (K : PySem.W.Frag) : Value := (xFd K (x_f26 K)).doc
def x_pm26 (K : PySem.W.Frag) : Value := (xFd K (x_f26 K)).pyModule
def x_cd26 (K : PySem.W.Frag) : Value := (xFd K (x_f26 K)).code
def x_ct26 (K : PySem.W.Frag) : Value := (xFd K (x_f26 K)).closureTuple
def x_oc27 (K : PySem.W.Frag) : Value := (xO K (x_f27 K)).cls
def x_kV27 (K : PySem.W.Frag) : Value := (xFd K (x_f27 K)).kwdefaults
def x_dc27 (K : PySem.W.Frag) : Value := (xFd K (x_f27 K)).doc
def x_pm27 (K : PySem.W.Frag) : Value := (xFd K (x_f27 K)).pyModule
def x_cd27 (K : PySem.W.Frag) : Value := (xFd K (x_f27 K)).code
def x_ct27 (K : PySem.W.Frag) : Value := (xFd K (x_f27 K)).closureTuple
def x_oc28 (K : PySem.W.Frag) : Value := (xO K (x_f28 K)).cls
def x_kV28 (K : PySem.W.Frag) : Value := (xFd K (x_f28 K)).kwdefaults
def x_dc28 (K : PySem.W.Frag) : Value := (xFd K (x_f28 K)).doc
def x_pm28 (K : PySem.W.Frag) : Value := (xFd K (x_f28 K)).pyModule
def x_cd28 (K : PySem.W.Frag) : Value := (xFd K (x_f28 K)).code
def x_ct28 (K : PySem.W.Frag) : Value := (xFd K (x_f28 K)).closureTuple
def x_oc30 (K : PySem.W.Frag) : Value := (xO K (x_f30 K)).cls
def x_kV30 (K : PySem.W.Frag) : Value := (xFd K (x_f30 K)).kwdefaults
def x_dc30 (K : PySem.W.Frag) : Value := (xFd K (x_f30 K)).doc
def x_pm30 (K : PySem.W.Frag) : Value := (xFd K (x_f30 K)).pyModule
def x_cd30 (K : PySem.W.Frag) : Value := (xFd K (x_f30 K)).code
def x_ct30 (K : PySem.W.Frag) : Value := (xFd K (x_f30 K)).closureTuple
def x_oc31 (K : PySem.W.Frag) : Value := (xO K (x_f31 K)).cls
def x_kV31 (K : PySem.W.Frag) : Value := (xFd K (x_f31 K)).kwdefaults
def x_dc31 (K : PySem.W.Frag) : Value := (xFd K (x_f31 K)).doc
def x_pm31 (K : PySem.W.Frag) : Value := (xFd K (x_f31 K)).pyModule
def x_cd31 (K : PySem.W.Frag) : Value := (xFd K (x_f31 K)).code
def x_ct31 (K : PySem.W.Frag) : Value := (xFd K (x_f31 K)).closureTuple
def x_oc32 (K : PySem.W.Frag) : Value := (xO K (x_f32 K)).cls
def x_kV32 (K : PySem.W.Frag) : Value := (xFd K (x_f32 K)).kwdefaults
def x_dc32 (K : PySem.W.Frag) : Value := (xFd K (x_f32 K)).doc
def x_pm32 (K : PySem.W.Frag) : Value := (xFd K (x_f32 K)).pyModule
def x_cd32 (K : PySem.W.Frag) : Value := (xFd K (x_f32 K)).code
def x_ct32 (K : PySem.W.Frag) : Value := (xFd K (x_f32 K)).closureTuple
def x_oc45 (K : PySem.W.Frag) : Value := (xO K (x_f45 K)).cls
def x_kV45 (K : PySem.W.Frag) : Value := (xFd K (x_f45 K)).kwdefaults
def x_dc45 (K : PySem.W.Frag) : Value := (xFd K (x_f45 K)).doc
def x_pm45 (K : PySem.W.Frag) : Value := (xFd K (x_f45 K)).pyModule
def x_cd45 (K : PySem.W.Frag) : Value := (xFd K (x_f45 K)).code
def x_ct45 (K : PySem.W.Frag) : Value := (xFd K (x_f45 K)).closureTuple
def x_oc46 (K : PySem.W.Frag) : Value := (xO K (x_f46 K)).cls
def x_kV46 (K : PySem.W.Frag) : Value := (xFd K (x_f46 K)).kwdefaults
def x_dc46 (K : PySem.W.Frag) : Value := (xFd K (x_f46 K)).doc
def x_pm46 (K : PySem.W.Frag) : Value := (xFd K (x_f46 K)).pyModule
def x_cd46 (K : PySem.W.Frag) : Value := (xFd K (x_f46 K)).code
def x_ct46 (K : PySem.W.Frag) : Value := (xFd K (x_f46 K)).closureTuple
def x_oc207 (K : PySem.W.Frag) : Value := (xO K (x_f207 K)).cls
def x_kV207 (K : PySem.W.Frag) : Value := (xFd K (x_f207 K)).kwdefaults
def x_dc207 (K : PySem.W.Frag) : Value := (xFd K (x_f207 K)).doc
def x_pm207 (K : PySem.W.Frag) : Value := (xFd K (x_f207 K)).pyModule
def x_cd207 (K : PySem.W.Frag) : Value := (xFd K (x_f207 K)).code
def x_ct207 (K : PySem.W.Frag) : Value := (xFd K (x_f207 K)).closureTuple
def x_oc48 (K : PySem.W.Frag) : Value := (xO K (x_f48 K)).cls
def x_kV48 (K : PySem.W.Frag) : Value := (xFd K (x_f48 K)).kwdefaults
def x_dc48 (K : PySem.W.Frag) : Value := (xFd K (x_f48 K)).doc
def x_pm48 (K : PySem.W.Frag) : Value := (xFd K (x_f48 K)).pyModule
def x_cd48 (K : PySem.W.Frag) : Value := (xFd K (x_f48 K)).code
def x_ct48 (K : PySem.W.Frag) : Value := (xFd K (x_f48 K)).closureTuple
def x_oc50 (K : PySem.W.Frag) : Value := (xO K (x_f50 K)).cls
def x_kV50 (K : PySem.W.Frag) : Value := (xFd K (x_f50 K)).kwdefaults
def x_dc50 (K : PySem.W.Frag) : Value := (xFd K (x_f50 K)).doc
def x_pm50 (K : PySem.W.Frag) : Value := (xFd K (x_f50 K)).pyModule
def x_cd50 (K : PySem.W.Frag) : Value := (xFd K (x_f50 K)).code
def x_ct50 (K : PySem.W.Frag) : Value := (xFd K (x_f50 K)).closureTuple
def x_oc52 (K : PySem.W.Frag) : Value := (xO K (x_f52 K)).cls
def x_kV52 (K : PySem.W.Frag) : Value := (xFd K (x_f52 K)).kwdefaults
def x_dc52 (K : PySem.W.Frag) : Value := (xFd K (x_f52 K)).doc
def x_pm52 (K : PySem.W.Frag) : Value := (xFd K (x_f52 K)).pyModule
def x_cd52 (K : PySem.W.Frag) : Value := (xFd K (x_f52 K)).code
def x_ct52 (K : PySem.W.Frag) : Value := (xFd K (x_f52 K)).closureTuple
def x_oc54 (K : PySem.W.Frag) : Value := (xO K (x_f54 K)).cls
def x_kV54 (K : PySem.W.Frag) : Value := (xFd K (x_f54 K)).kwdefaults
def x_dc54 (K : PySem.W.Frag) : Value := (xFd K (x_f54 K)).doc
def x_pm54 (K : PySem.W.Frag) : Value := (xFd K (x_f54 K)).pyModule
def x_cd54 (K : PySem.W.Frag) : Value := (xFd K (x_f54 K)).code
def x_ct54 (K : PySem.W.Frag) : Value := (xFd K (x_f54 K)).closureTuple
def x_oc55 (K : PySem.W.Frag) : Value := (xO K (x_f55 K)).cls
def x_kV55 (K : PySem.W.Frag) : Value := (xFd K (x_f55 K)).kwdefaults
def x_dc55 (K : PySem.W.Frag) : Value := (xFd K (x_f55 K)).doc
def x_pm55 (K : PySem.W.Frag) : Value := (xFd K (x_f55 K)).pyModule
def x_cd55 (K : PySem.W.Frag) : Value := (xFd K (x_f55 K)).code
def x_ct55 (K : PySem.W.Frag) : Value := (xFd K (x_f55 K)).closureTuple
def x_oc208 (K : PySem.W.Frag) : Value := (xO K (x_f208 K)).cls
def x_kV208 (K : PySem.W.Frag) : Value := (xFd K (x_f208 K)).kwdefaults
def x_dc208 (K : PySem.W.Frag) : Value := (xFd K (x_f208 K)).doc
def x_pm208 (K : PySem.W.Frag) : Value := (xFd K (x_f208 K)).pyModule
def x_cd208 (K : PySem.W.Frag) : Value := (xFd K (x_f208 K)).code
def x_ct208 (K : PySem.W.Frag) : Value := (xFd K (x_f208 K)).closureTuple
def x_gt0 (K : PySem.W.Frag) : Tok := xTok (xNs K mainGlobals "FREE")
def x_gt1 (K : PySem.W.Frag) : Tok := xTok (xNs K mainGlobals "GREATEST_STATE")
def x_prs28 (K : PySem.W.Frag) : List Value := xRest K (x_pp28 K) "property"
def fnsK (K : PySem.W.Frag) : List FnZ := [fnXo K (x_f1 K), fnXo K (x_f18 K), fnXo K (x_f19 K), fnXo K (x_f20 K), fnXo K (x_f21 K), fnXo K (x_f22 K), fnXo K (x_f44 K), fnXo K (x_f23 K), fnXo K (x_f24 K), fnXo K (x_f25 K), fnXo K (x_f3 K), fnXo K (x_f26 K), fnXo K (x_f27 K), fnXo K (x_f28 K), fnXo K (x_f30 K), fnXo K (x_f31 K), fnXo K (x_f32 K), fnXo K (x_f45 K), fnXo K (x_f46 K), fnXo K (x_f207 K), fnXo K (x_f48 K), fnXo K (x_f50 K), fnXo K (x_f52 K), fnXo K (x_f54 K), fnXo K (x_f55 K), fnXo K (x_f208 K)]
def fnsV : List FnZ := [fnXv "_law_draws" "_law_draws" s_law_draws_1 [],
  fnXv "_law_letters" "_law_letters" s_law_letters_18 [],
  fnXv "_law_word" "_law_word" s_law_word_19 [],
  fnXv "_law_names" "_law_names" s_law_names_20 [],
  fnXv "_law_marks" "_law_marks" s_law_marks_21 [],
  fnXv "_law_moves" "_law_moves" s_law_moves_22 [],
  fnXv "_law_machine" "_law_machine" s_law_machine_44 [],
  fnXv "is_word" "is_word" s_is_word_23 [],
  fnXv "is_alphabet" "is_alphabet" s_is_alphabet_24 [],
  fnXv "are_names" "are_names" s_are_names_25 [],
  fnXv "is_number" "is_number" s_is_number_3 [],
  fnXv "is_state" "is_state" s_is_state_26 [],
  fnXv "checked_moves" "checked_moves" s_checked_moves_27 [],
  fnXv "marks" "Rule.marks" s_Rule_marks_28 [],
  fnXv "checked_ends" "checked_ends" s_checked_ends_30 [],
  fnXv "targets_of" "targets_of" s_targets_of_31 [],
  fnXv "__init__" "Rule.__init__" s_Rule_DinitD_32 [],
  fnXv "_law_free" "_law_free" s_law_free_45 [],
  fnXv "_law_after" "_law_after" s_law_after_46 [],
  fnXv "_law_path" "_law_path" s_law_path_207 [],
  fnXv "closure" "Rule.closure" s_Rule_closure_48 [],
  fnXv "step" "Rule.step" s_Rule_step_50 [],
  fnXv "after" "Rule.after" s_Rule_after_52 [],
  fnXv "_law_told" "_law_told" s_law_told_54 [],
  fnXv "_law_due" "_law_due" s_law_due_55 [],
  fnXv "law" "law" s_law_208 []]
def chk0 (K : PySem.W.Frag) : Bool := decide (PySem.W.nsIn K mainGlobals "Rule" = some (some (.ref (x_A2 K)))) && (decide (PySem.W.plainGet K (x_A2 K) Str.empty = true) && (decide (PySem.W.hasDictIn K (x_A2 K) = true) && (decide (PySem.W.plainOver K (x_A2 K) = true) && (decide (PySem.W.findIn K (.ref (x_A2 K)) "__setattr__" = some (some (.builtin "object.__setattr__"))) && (decide (PySem.W.makesIn K (x_A2 K) = true) && (decide (PySem.W.keepIn K (.ref (x_A2 K)) = true) && (decide (PySem.W.findIn K (.ref (x_A2 K)) "__class__" = some (some (.builtin "object.__class__"))) && (decide (PySem.W.mroIn K (x_A2 K) (.type "object") = some true) && (decide (PySem.W.findIn K (.ref (x_A2 K)) "letters" = some none) && (decide (PySem.W.findIn K (.ref (x_A2 K)) "names" = some none) && (decide (PySem.W.findIn K (.ref (x_A2 K)) "moves" = some none) && (true))))))))))))
def chk1 (K : PySem.W.Frag) : Bool := decide (PySem.W.findIn K (.ref (x_A2 K)) "ends" = some none) && (decide (PySem.W.findIn K (.ref (x_A2 K)) "table" = some none) && (decide (PySem.W.findIn K (.ref (x_A2 K)) "known" = some none) && (decide (PySem.W.specialIn K (.builtin "object.__class__") "__get__" = some (some (.builtin "getset_descriptor.__get__"))) && (decide (PySem.W.takesIn K (.builtin "object.__class__") = some true) && (decide (PySem.W.nsIn K mainGlobals "BadRule" = some (some (.ref (x_X4 K)))) && (decide (PySem.W.excIn K (x_X4 K) [.type "ValueError", .type "Exception", .type "BaseException", .type "object"] "ValueError.__new__" = true) && (decide (PySem.W.keepIn K (.ref (x_X4 K)) = true) && (decide (PySem.W.subIn K (.ref (x_X4 K)) (.type "BaseException") = some true) && (decide (PySem.W.typeIn K (.ref (x_X4 K)) = some (.type "type")) && (decide (PySem.W.findIn K (.ref (x_X4 K)) "__getattribute__" = some (some (.builtin "BaseException.__getattribute__"))) && (decide (PySem.W.findIn K (.ref (x_X4 K)) "__getattr__" = some none) && (true))))))))))))
def chk2 (K : PySem.W.Frag) : Bool := decide (PySem.W.hasDictIn K (x_X4 K) = true) && (decide (PySem.W.findIn K (.ref (x_X4 K)) "__class__" = some (some (.builtin "object.__class__"))) && (decide (PySem.W.mroIn K (x_X4 K) (.type "object") = some true) && (decide (PySem.W.kitOne K (.ref (x_A2 K)) (.ref (x_A2 K)) = some true) && (decide (PySem.W.kitOne K (.type "int") (.type "int") = some true) && (decide (PySem.W.kitOne K (.type "int") (.type "bool") = some false) && (decide (PySem.W.kitOne K (.type "tuple") (.type "tuple") = some true) && (decide (PySem.W.nsIn K mainGlobals "len" = some none) && (decide (PySem.W.nsIn K mainGlobals "int" = some none) && (decide (PySem.W.nsIn K mainGlobals "str" = some none) && (decide (PySem.W.nsIn K mainGlobals "tuple" = some none) && (decide (PySem.W.nsIn K mainGlobals "list" = some none) && (true))))))))))))
def chk3 (K : PySem.W.Frag) : Bool := decide (PySem.W.nsIn K mainGlobals "sum" = some none) && (decide (PySem.W.nsIn K mainGlobals "sorted" = some none) && (decide (PySem.W.nsIn K mainGlobals "min" = some none) && (decide (PySem.W.nsIn K mainGlobals "max" = some none) && (decide (PySem.W.nsIn K mainGlobals "all" = some none) && (decide (PySem.W.nsIn K mainGlobals "repr" = some none) && (decide (PySem.W.nsIn K mainGlobals "isinstance" = some none) && (decide (PySem.W.nsIn K mainGlobals "range" = some none) && (decide (PySem.W.nsIn K mainGlobals "zip" = some none) && (decide (PySem.W.nsIn K mainGlobals "bool" = some none) && (decide (PySem.W.nsIn K mainGlobals "bytes" = some none) && (decide (PySem.W.nsIn K mainGlobals "ValueError" = some none) && (true))))))))))))
def chk4 (K : PySem.W.Frag) : Bool := decide (PySem.W.nsIn K mainGlobals "FREE" = some (some (.str (Sx []) (x_gt0 K)))) && (decide (PySem.W.nsIn K mainGlobals "GREATEST_STATE" = some (some (.int 999999 (x_gt1 K)))) && (decide (PySem.W.nsIn K mainGlobals "_law_draws" = some (some (.ref (x_f1 K)))) && (decide (PySem.W.codeIn K (x_cd1 K) "_law_draws" = true) && (decide (PySem.W.keepIn K (.ref (x_f1 K)) = true) && (decide (PySem.W.nsIn K mainGlobals "_law_letters" = some (some (.ref (x_f18 K)))) && (decide (PySem.W.codeIn K (x_cd18 K) "_law_letters" = true) && (decide (PySem.W.keepIn K (.ref (x_f18 K)) = true) && (decide (PySem.W.nsIn K mainGlobals "_law_word" = some (some (.ref (x_f19 K)))) && (true)))))))))
def chk5 (K : PySem.W.Frag) : Bool := decide (PySem.W.codeIn K (x_cd19 K) "_law_word" = true) && (decide (PySem.W.keepIn K (.ref (x_f19 K)) = true) && (decide (PySem.W.nsIn K mainGlobals "_law_names" = some (some (.ref (x_f20 K)))) && (decide (PySem.W.codeIn K (x_cd20 K) "_law_names" = true) && (decide (PySem.W.keepIn K (.ref (x_f20 K)) = true) && (decide (PySem.W.nsIn K mainGlobals "_law_marks" = some (some (.ref (x_f21 K)))) && (decide (PySem.W.codeIn K (x_cd21 K) "_law_marks" = true) && (decide (PySem.W.keepIn K (.ref (x_f21 K)) = true) && (decide (PySem.W.nsIn K mainGlobals "_law_moves" = some (some (.ref (x_f22 K)))) && (true)))))))))
def chk6 (K : PySem.W.Frag) : Bool := decide (PySem.W.codeIn K (x_cd22 K) "_law_moves" = true) && (decide (PySem.W.keepIn K (.ref (x_f22 K)) = true) && (decide (PySem.W.nsIn K mainGlobals "_law_machine" = some (some (.ref (x_f44 K)))) && (decide (PySem.W.codeIn K (x_cd44 K) "_law_machine" = true) && (decide (PySem.W.keepIn K (.ref (x_f44 K)) = true) && (decide (PySem.W.nsIn K mainGlobals "is_word" = some (some (.ref (x_f23 K)))) && (decide (PySem.W.codeIn K (x_cd23 K) "is_word" = true) && (decide (PySem.W.keepIn K (.ref (x_f23 K)) = true) && (decide (PySem.W.nsIn K mainGlobals "is_alphabet" = some (some (.ref (x_f24 K)))) && (true)))))))))
def chk7 (K : PySem.W.Frag) : Bool := decide (PySem.W.codeIn K (x_cd24 K) "is_alphabet" = true) && (decide (PySem.W.keepIn K (.ref (x_f24 K)) = true) && (decide (PySem.W.nsIn K mainGlobals "are_names" = some (some (.ref (x_f25 K)))) && (decide (PySem.W.codeIn K (x_cd25 K) "are_names" = true) && (decide (PySem.W.keepIn K (.ref (x_f25 K)) = true) && (decide (PySem.W.nsIn K mainGlobals "is_number" = some (some (.ref (x_f3 K)))) && (decide (PySem.W.codeIn K (x_cd3 K) "is_number" = true) && (decide (PySem.W.keepIn K (.ref (x_f3 K)) = true) && (decide (PySem.W.nsIn K mainGlobals "is_state" = some (some (.ref (x_f26 K)))) && (true)))))))))
def chk8 (K : PySem.W.Frag) : Bool := decide (PySem.W.codeIn K (x_cd26 K) "is_state" = true) && (decide (PySem.W.keepIn K (.ref (x_f26 K)) = true) && (decide (PySem.W.nsIn K mainGlobals "checked_moves" = some (some (.ref (x_f27 K)))) && (decide (PySem.W.codeIn K (x_cd27 K) "checked_moves" = true) && (decide (PySem.W.keepIn K (.ref (x_f27 K)) = true) && (decide (PySem.W.findIn K (.ref (x_A2 K)) "marks" = some (some (.ref (x_pp28 K)))) && (decide (PySem.W.specialIn K (.ref (x_pp28 K)) "__get__" = some (some (.builtin "property.__get__"))) && (decide (PySem.W.takesIn K (.ref (x_pp28 K)) = some true) && (decide (PySem.W.recIn K (x_pp28 K) "property" = some (.ref (x_f28 K) :: (x_prs28 K))) && (decide (PySem.W.codeIn K (x_cd28 K) "Rule.marks" = true) && (true))))))))))
def chk9 (K : PySem.W.Frag) : Bool := decide (PySem.W.keepIn K (.ref (x_f28 K)) = true) && (decide (PySem.W.nsIn K mainGlobals "checked_ends" = some (some (.ref (x_f30 K)))) && (decide (PySem.W.codeIn K (x_cd30 K) "checked_ends" = true) && (decide (PySem.W.keepIn K (.ref (x_f30 K)) = true) && (decide (PySem.W.nsIn K mainGlobals "targets_of" = some (some (.ref (x_f31 K)))) && (decide (PySem.W.codeIn K (x_cd31 K) "targets_of" = true) && (decide (PySem.W.keepIn K (.ref (x_f31 K)) = true) && (decide (PySem.W.findIn K (.ref (x_A2 K)) "__init__" = some (some (.ref (x_f32 K)))) && (decide (PySem.W.isFn K (.ref (x_f32 K)) = true) && (true)))))))))
def chk10 (K : PySem.W.Frag) : Bool := decide (PySem.W.codeIn K (x_cd32 K) "Rule.__init__" = true) && (decide (PySem.W.keepIn K (.ref (x_f32 K)) = true) && (decide (PySem.W.nsIn K mainGlobals "_law_free" = some (some (.ref (x_f45 K)))) && (decide (PySem.W.codeIn K (x_cd45 K) "_law_free" = true) && (decide (PySem.W.keepIn K (.ref (x_f45 K)) = true) && (decide (PySem.W.nsIn K mainGlobals "_law_after" = some (some (.ref (x_f46 K)))) && (decide (PySem.W.codeIn K (x_cd46 K) "_law_after" = true) && (decide (PySem.W.keepIn K (.ref (x_f46 K)) = true) && (decide (PySem.W.nsIn K mainGlobals "_law_path" = some (some (.ref (x_f207 K)))) && (true)))))))))
def chk11 (K : PySem.W.Frag) : Bool := decide (PySem.W.codeIn K (x_cd207 K) "_law_path" = true) && (decide (PySem.W.keepIn K (.ref (x_f207 K)) = true) && (decide (PySem.W.findIn K (.ref (x_A2 K)) "closure" = some (some (.ref (x_f48 K)))) && (decide (PySem.W.isFn K (.ref (x_f48 K)) = true) && (decide (PySem.W.findIn K (.ref (x_A2 K)) "closure" = some (some (.ref (x_f48 K)))) && (decide (PySem.W.codeIn K (x_cd48 K) "Rule.closure" = true) && (decide (PySem.W.keepIn K (.ref (x_f48 K)) = true) && (decide (PySem.W.findIn K (.ref (x_A2 K)) "step" = some (some (.ref (x_f50 K)))) && (decide (PySem.W.isFn K (.ref (x_f50 K)) = true) && (decide (PySem.W.findIn K (.ref (x_A2 K)) "step" = some (some (.ref (x_f50 K)))) && (true))))))))))
def chk12 (K : PySem.W.Frag) : Bool := decide (PySem.W.codeIn K (x_cd50 K) "Rule.step" = true) && (decide (PySem.W.keepIn K (.ref (x_f50 K)) = true) && (decide (PySem.W.findIn K (.ref (x_A2 K)) "after" = some (some (.ref (x_f52 K)))) && (decide (PySem.W.isFn K (.ref (x_f52 K)) = true) && (decide (PySem.W.findIn K (.ref (x_A2 K)) "after" = some (some (.ref (x_f52 K)))) && (decide (PySem.W.codeIn K (x_cd52 K) "Rule.after" = true) && (decide (PySem.W.keepIn K (.ref (x_f52 K)) = true) && (decide (PySem.W.nsIn K mainGlobals "_law_told" = some (some (.ref (x_f54 K)))) && (decide (PySem.W.codeIn K (x_cd54 K) "_law_told" = true) && (decide (PySem.W.keepIn K (.ref (x_f54 K)) = true) && (true))))))))))
def chk13 (K : PySem.W.Frag) : Bool := decide (PySem.W.nsIn K mainGlobals "_law_due" = some (some (.ref (x_f55 K)))) && (decide (PySem.W.codeIn K (x_cd55 K) "_law_due" = true) && (decide (PySem.W.keepIn K (.ref (x_f55 K)) = true) && (decide (PySem.W.nsIn K mainGlobals "law" = some (some (.ref (x_f208 K)))) && (decide (PySem.W.codeIn K (x_cd208 K) "law" = true) && (decide (PySem.W.keepIn K (.ref (x_f208 K)) = true) && (true))))))
def chkK (K : PySem.W.Frag) : Bool := chk0 K && (chk1 K && (chk2 K && (chk3 K && (chk4 K && (chk5 K && (chk6 K && (chk7 K && (chk8 K && (chk9 K && (chk10 K && (chk11 K && (chk12 K && (chk13 K && (true))))))))))))))
abbrev hR : PySem.W.OpenRow := PySem.W.OpenLaw.row PySem.Challenge.rw_piecefinds_k10_after_signs
abbrev hQ : Program := PySem.W.view hR.prog [37]
def hN0 : List Str := ["_wall", "PiecefindsError", "BadSpan", "BadText", "OutOfText", "BadRule", "is_number", "Span", "Text", "plain_text", "FREE", "GREATEST_STATE", "is_word", "is_alphabet", "are_names", "is_state", "checked_moves", "checked_ends", "targets_of", "find_at", "Rule", "_law_draws", "_law_letters", "_law_word", "_law_names", "_law_marks", "_law_moves", "_law_machine", "_law_free", "_law_after"]
def hN1 : List Str := ["_law_path", "_law_due", "_law_told"]
def hN : List Str := hN0 ++ hN1
noncomputable abbrev hK : PySem.W.Hook := hookZ 5 chkK fnsK fnsV
noncomputable def hO (s : PySem.W.SharedT) : AlZ := obsZ 5 chkK fnsK (HandSHeadRun.getT s)
theorem hO_eq (s : PySem.W.SharedT) : hO s = hK.obs s.abs := obsZ_eq s
set_option maxHeartbeats 0 in
theorem hRun (w : World) : HandSHeadRun.RunEq hR hQ hK hO 30000 hN w := by
  intro os
  kernel_rfl
end G
namespace G
open PySem L2
inductive BOp where | add | sub | mul | fdiv | mod | pow | shr
inductive COp where | eq | ne | lt | le | gt | ge | isin | notin
inductive F1 where | len | int | str | tuple | list | sum | sorted | min | all
inductive F2 where | min | max
inductive E where
  | var (i : Nat) | int (i : Int) | str (s : List Nat) | bl (b : Bool) | non | glob (n : Nat)
  | bin (op : BOp) (a b : E) | neg (a : E)
  | cmp (op : COp) (a b : E) | isN (a : E) | notN (a : E) | chain (p q : COp) (a b c : E)
  | and (a b : E) | or (a b : E) | last (a : E) | not (a : E) | ite (c a b : E)
  | tup (l : E) | lst (l : E) | nil | cons (a l : E)
  | item (a i : E) | slice (a lo hi : E)
  | f1 (f : F1) (a : E) | f2 (f : F2) (a b : E) | isi (ts : List Ty) (a : E)
  | fld (nm : Nat) (a : E) | call (n : Nat) (l : E)
  | comp (tg : List Nat) (rng : Bool) (it : E) (c : E) (e : E)
  | compg (n : Nat) (tg : List Nat) (l : E) (e : E)
  | lend (i : Nat) (e : E)
  | own (n i : Nat) (l : E) | calv (n : Nat) (cs : List Nat) (i : Nat) (l : E) | any | fmt (a : E) | calm (n : Nat) (l : E)
  | dget2 (a k x : E) | isx (i : Nat) (ts : List Ty) | fldx (i nm : Nat)
abbrev LINE : Nat := 16777216
def addD : D → D → R D
  | .int a, .int b => .ok (.int (a + b))
  | .str a, .str b => if a.length + b.length ≤ LINE then .ok (.str (a ++ b)) else .bad
  | .tup a, .tup b => if a.length + b.length ≤ LINE then .ok (.tup (a ++ b)) else .bad
  | .lst a, .lst b => if a.length + b.length ≤ LINE then .ok (.lst (a ++ b)) else .bad
  | _, _ => .bad
def subD : D → D → R D
  | .int a, .int b => .ok (.int (a - b))
  | _, _ => .bad
def mulD : D → D → R D
  | .int a, .int b => if (-18446744073709551616 < a ∧ a < 18446744073709551616) ∨ (-18446744073709551616 < b ∧ b < 18446744073709551616) then .ok (.int (a * b)) else .bad
  | .tup l, .int b => if 1 ≤ l.length ∧ l.length ≤ 1000 ∧ 1 ≤ b ∧ b ≤ 1000 then .ok (.tup (List.replicate b.toNat l).flatten) else .bad
  | _, _ => .bad
def fdivD : D → D → R D
  | .int a, .int b => if 0 < b ∧ b < 1073741824 then .ok (.int (a / b)) else .bad
  | _, _ => .bad
def modD : D → D → R D
  | .int a, .int b => if 0 < b then .ok (.int (a % b)) else .bad
  | _, _ => .bad
def powD : D → D → R D
  | .int a, .int b => if 0 ≤ b ∧ b ≤ 1000000 ∧ a.natAbs < 18446744073709551616 then .ok (.int (a ^ b.toNat)) else .bad
  | _, _ => .bad
def shrD : D → D → R D
  | .int a, .int b => if 0 ≤ b then .ok (.int (a / 2 ^ b.toNat)) else .bad
  | _, _ => .bad
def binD : BOp → D → D → R D
  | .add => addD | .sub => subD | .mul => mulD | .fdiv => fdivD | .mod => modD | .pow => powD | .shr => shrD
def D.scal : D → Bool
  | .non => true | .bl _ => true | .int _ => true | .str _ => true
  | _ => false
def D.isN : D → Bool
  | .non => true
  | _ => false
def eqD (a b : D) : R Bool := if a.flat 60 && b.flat 60 then .ok (a.eqv b) else match a, b with
  | .byt s, .byt t => .ok (s == t)
  | _, _ => .bad
def inD (a b : D) : R Bool :=
  match b with
  | .lst l => if a.flat 60 && D.flatL 60 l then .ok (l.any fun y => y.eqv a) else .bad
  | .tup l => if a.scal && l.all D.scal then .ok (l.any fun y => y.eqv a) else .bad
  | .str s => match a with
    | .str [c] => .ok (decide (c ∈ s))
    | _ => .bad
  | .dict k ks _ => if a.isKey k then .ok (dHas ks a) else .bad
  | _ => .bad
def D.isLO : D → Bool
  | .lst _ => true
  | .obj _ _ => true
  | .dict _ _ _ => true
  | _ => false
def D.ltB (a b : D) : Bool := PySem.W.dataLt a.py b.py
def D.cmp (a b : D) : Bool := a.flat 60 && b.flat 60 && PySem.W.alike a.py b.py && !a.isN
def D.isTup1 : D → Bool
  | .tup (_ :: _) => true
  | _ => false
def oneShp (l : List D) : Bool := D.flatL 60 l && (l.all fun a => l.all fun b => PySem.W.alike a.py b.py) && (l.all D.isTup1 || l.all fun d => !d.isN && !d.isTup)
def srtD (l : List D) : List D := l.mergeSort (PySem.W.dataLe false D.py)
def minL (l : List D) (m : D) : D := l.foldl (fun a y => if D.ltB y a then y else a) m
def sumI : List D → Option Int
  | [] => some 0
  | .int i :: r => (sumI r).map (i + ·)
  | _ :: _ => none
def allB : List D → Option Bool
  | [] => some true
  | .bl b :: r => (allB r).map (b && ·)
  | _ :: _ => none
def ltT (a b : D) : R Bool := if D.cmp a b then .ok (D.ltB a b) else .bad
def leT (a b : D) : R Bool := if D.cmp a b then .ok (!D.ltB b a) else .bad
def ltD : D → D → R Bool
  | .int a, .int b => .ok (decide (a < b))
  | .str a, .str b => .ok (decide (a < b))
  | .tup a, .tup b => ltT (.tup a) (.tup b)
  | _, _ => .bad
def leD : D → D → R Bool
  | .int a, .int b => .ok (decide (a ≤ b))
  | .str a, .str b => .ok (!decide (b < a))
  | .tup a, .tup b => leT (.tup a) (.tup b)
  | _, _ => .bad
def cmpD : COp → D → D → R Bool
  | .eq, a, b => eqD a b
  | .ne, a, b => (eqD a b).bind fun c => .ok (!c)
  | .lt, a, b => ltD a b
  | .gt, a, b => ltD b a
  | .le, a, b => leD a b
  | .ge, a, b => leD b a
  | .isin, a, b => inD a b
  | .notin, a, b => (inD a b).bind fun c => .ok (!c)
def truD : D → R Bool
  | .bl b => .ok b
  | .int i => .ok (i != 0)
  | .non => .ok false
  | .str s => if s.length ≤ LINE then .ok (!s.isEmpty) else .bad
  | .lst l => .ok (!l.isEmpty)
  | .tup l => .ok (!l.isEmpty)
  | _ => .bad
def itemD : D → D → R D
  | .lst l, .int i => match atI l i with | some d => .ok d | none => .bad
  | .tup l, .int i => match atI l i with | some d => .ok d | none => .bad
  | .str s, .int i => if s.length ≤ LINE then (match atI s i with | some c => .ok (.str [c]) | none => .bad) else .bad
  | .scr l, .int i => match atI l i with | some d => .ok (.int d) | none => .bad
  | .dict k ks vs, x => if x.isKey k then (match dGet ks vs x with | some d => .ok d | none => .bad) else .bad
  | _, _ => .bad
def D.isDct : D → Bool
  | .dict _ _ _ => true
  | _ => false
def dgetD (a x y : D) : R D := match a with
  | .dict k ks vs => if x.isKey k then .ok ((dGet ks vs x).getD y) else .bad
  | _ => .bad
def cutL {α : Type} (xs : List α) (lo hi : Option Int) : List α := (xs.drop (HT.sIx xs.length 0 lo)).take (HT.sIx xs.length xs.length hi - HT.sIx xs.length 0 lo)
def sliceD (a : D) (lo hi : Option Int) : R D :=
  match a with
  | .lst l => .ok (.lst (cutL l lo hi))
  | .tup l => .ok (.tup (cutL l lo hi))
  | .str s => if s.length ≤ LINE then .ok (.str (cutL s lo hi)) else .bad
  | _ => .bad
def partD : D → R (Option Int)
  | .int i => .ok (some i)
  | _ => .bad
def lenD : D → R D
  | .lst l => .ok (.int l.length)
  | .tup l => .ok (.int l.length)
  | .str s => if s.length ≤ LINE then .ok (.int s.length) else .bad
  | .scr l => .ok (.int l.length)
  | .byt s => if s.length ≤ LINE then .ok (.int s.length) else .bad
  | _ => .bad
def itoa (i : Int) : List Nat := (Str.ofString (toString i)).cps.toList
def fmtD : D → R D
  | .str s => if s.length ≤ 100000 then .ok (.str s) else .bad
  | .int i => if i.natAbs < 18446744073709551616 then .ok (.str (itoa i)) else .bad
  | _ => .bad
def f1D (f : F1) (a : D) : R D :=
  match f with
  | .len => lenD a
  | .int => match a with
    | .int i => .ok (.int i)
    | .bl b => .ok (.int (if b then 1 else 0))
    | _ => .bad
  | .tuple => match a with
    | .lst l => .ok (.tup l)
    | .tup l => .ok (.tup l)
    | _ => .bad
  | .list => match a with
    | .lst l => .ok (.lst l)
    | .tup l => .ok (.lst l)
    | .str s => if s.length ≤ LINE then .ok (.lst (s.map fun c => .str [c])) else .bad
    | .byt s => if s.length ≤ LINE then .ok (.lst (s.map fun c => .int c.toNat)) else .bad
    | .dict _ ks _ => .ok (.lst ks)
    | _ => .bad
  | .str => match a with
    | .int i => if i.natAbs < 18446744073709551616 then .ok (.str (itoa i)) else .bad
    | _ => .bad
  | .sum => match a with
    | .tup l => (match sumI l with | some i => .ok (.int i) | none => .bad)
    | .lst l => (match sumI l with | some i => .ok (.int i) | none => .bad)
    | _ => .bad
  | .all => match a with
    | .lst l => (match allB l with | some i => .ok (.bl i) | none => .bad)
    | _ => .bad
  | .sorted => match a with
    | .lst l => if oneShp l then .ok (.lst (srtD l)) else .bad
    | .dict _ ks _ => if oneShp ks then .ok (.lst (srtD ks)) else .bad
    | _ => .bad
  | .min => match a with
    | .lst (x :: l) => if oneShp (x :: l) then (if (minL l x).isLO then .bad else .ok (minL l x)) else .bad
    | _ => .bad
def f2D (f : F2) (a b : D) : R D :=
  match a, b with
  | .int i, .int j => match f with
    | .min => .ok (.int (if j < i then j else i))
    | .max => .ok (.int (if j > i then j else i))
  | _, _ => .bad
def tyD : D → Ty
  | .non => .b "NoneType" | .bl _ => .b "bool" | .int _ => .b "int" | .str _ => .b "str" | .byt _ => .b "bytes" | .tup _ => .b "tuple" | .lst _ => .b "list"
  | .obj c _ => .c c | .scr _ => .b "list" | .dict _ _ _ => .b "dict" | .cache _ => .b "dict" | .cls _ => .b "type"
def findIx (n : Nat) : List Nat → Nat → Option Nat
  | [], _ => none
  | x :: r, i => if x = n then some i else findIx n r (i + 1)
section
variable (C : Mng)
def isiD (sub : Ty → Ty → Option Bool) (ts : List Ty) (t : Ty) : Option Bool :=
  match ts with
  | [] => some false
  | u :: r => match sub t u with
    | some true => some true
    | some false => isiD sub r t
    | none => none
end
def fldD (C : Mng) (nm : Nat) : D → R D
  | .obj c l => match findIx nm (C.flds c) 0 with
    | some i => match l[i]? with | some d => .ok d | none => .bad
    | none => .bad
  | _ => .bad
def walkD (rng : Bool) (d : D) : R (List D) :=
  if rng then match d with
    | .tup [.int j] => if -4611686018427387904 ≤ j ∧ j < 4611686018427387904 then .ok ((List.range j.toNat).map fun k => .int (k : Nat)) else .bad
    | .tup [.int i, .int j] => if -4611686018427387904 ≤ i ∧ i < 4611686018427387904 ∧ -4611686018427387904 ≤ j ∧ j < 4611686018427387904 then .ok ((List.range (j - i).toNat).map fun k => .int (i + (k : Nat))) else .bad
    | .tup [.int i, .int j, .int s] => if 0 ≤ i ∧ i ≤ j ∧ j < 4611686018427387904 ∧ 0 < s ∧ s < 1073741824 then .ok ((List.range ((j - i + s - 1) / s).toNat).map fun k => .int (i + (k : Nat) * s)) else .bad
    | _ => .bad
  else match d with
    | .lst l => .ok l
    | .tup l => .ok l
    | .str s => .ok (s.map fun c => .str [c])
    | .byt s => .ok (s.map fun c => .int c.toNat)
    | .dict k ks _ => if k then .bad else .ok ks
    | _ => .bad
def setAll (Γ : Gam) : List Nat → List D → R Gam
  | [], [] => .ok Γ
  | i :: r, d :: ds => setAll (Γ.set i (.val d)) r ds
  | _, _ => .bad
def tgtD (Γ : Gam) (tg : List Nat) (d : D) : R Gam :=
  match tg with
  | [i] => .ok (Γ.set i (.val d))
  | tg => match d with
    | .tup l => setAll Γ tg l
    | _ => .bad
def killG (Γ : Gam) : List Nat → Gam
  | [] => Γ
  | i :: r => (killG Γ r).set i .dead
def borrow (Γ : Gam) (e : E) (r : R D) : R D :=
  match e with
  | .var i => match Γ[i]? with
    | some (.val d) => .ok d
    | some (.ownL l) => .ok (.lst l)
    | some (.ownI c l) => .ok (.obj c l)
    | some (.ownD k ks vs) => .ok (.dict k ks vs)
    | some (.io ks vs) => .ok (.dict false ks vs)
    | _ => .bad
  | _ => r
def part (e : E) (r : R D) : R (Option Int) :=
  match e with
  | .nil => .ok none
  | _ => r.bind partD
def compD (tg : List Nat) (Γ : Gam) (c : Option (Gam → R D)) (f : Gam → R D) : List D → List D → R (List D)
  | [], acc => .ok acc
  | d :: ds, acc => (tgtD Γ tg d).bind fun Γ' =>
    (match c with | none => R.ok true | some c => (c Γ').bind truD).bind fun b =>
      if b then (f Γ').bind fun y => if acc.length < LINE then compD tg Γ c f ds (acc ++ [y]) else .bad
      else compD tg Γ c f ds acc
def condF (c : E) (f : Gam → R D) : Option (Gam → R D) := match c with
  | .nil => none
  | _ => some f
def R.noexc {α : Type} : R α → R α
  | .exc _ => .bad
  | r => r
def andD (x : D) (r : R D) : R D := match x with | .bl b => if b then r else .ok (.bl false) | _ => .bad
def orD (x : D) (r : R D) : R D := match x with | .bl b => if b then .ok (.bl true) else r | .str s => if s.length ≤ LINE then (if s.isEmpty then r else .ok (.str s)) else .bad | _ => .bad
def notD (x : D) : R D := match x with | .bl b => .ok (.bl (!b)) | _ => .bad
def iteD (x : D) (r t : R D) : R D := match x with | .bl b => if b then r else t | _ => .bad
def D.isi : D → Bool
  | .cache _ => false
  | .cls _ => false
  | .dict _ _ _ => false
  | _ => true
def isiR (C : Mng) (ts : List Ty) (d : D) : R D := if d.isi then match isiD C.sub ts (tyD d) with | some b => .ok (.bl b) | none => .bad else .bad
def negD (x : D) : R D := match x with | .int i => .ok (.int (-i)) | _ => .bad
def ownR : R D → R D
  | .ok d => if d.plain then .ok d else .bad
  | _ => .bad
def D.isInt : D → Bool
  | .int _ => true
  | _ => false
def lendR : List D → D → R D
  | .str _ :: _, .lst ys => if ys.all D.isInt then .ok (.lst ys) else .bad
  | _, _ => .bad
mutual
def evE (C : Mng) : E → Gam → R D
  | .var i, Γ => match Γ[i]? with
    | some (.val d) => .ok d
    | _ => .bad
  | .int i, _ => .ok (.int i)
  | .str s, _ => .ok (.str s)
  | .bl b, _ => .ok (.bl b)
  | .non, _ => .ok .non
  | .glob n, _ => .ok (C.gl n)
  | .bin op a b, Γ => (borrow Γ a (evE C a Γ)).bind fun x => (borrow Γ b (evE C b Γ)).bind fun y => binD op x y
  | .neg a, Γ => (evE C a Γ).bind negD
  | .cmp op a b, Γ => (borrow Γ a (evE C a Γ)).bind fun x => (borrow Γ b (evE C b Γ)).bind fun y => (cmpD op x y).bind fun c => .ok (.bl c)
  | .isN a, Γ => (evE C a Γ).bind fun x => .ok (.bl x.isN)
  | .notN a, Γ => (evE C a Γ).bind fun x => .ok (.bl (!x.isN))
  | .chain p q a b c, Γ => (evE C a Γ).bind fun x => (evE C b Γ).bind fun y => (cmpD p x y).bind fun r => if r then (evE C c Γ).bind fun z => (cmpD q y z).bind fun r => .ok (.bl r) else .ok (.bl false)
  | .and a b, Γ => (evE C a Γ).bind fun x => andD x (evE C b Γ)
  | .or a b, Γ => (evE C a Γ).bind fun x => orD x (evE C b Γ)
  | .last a, Γ => evE C a Γ
  | .not a, Γ => (evE C a Γ).bind notD
  | .ite c a b, Γ => (evE C c Γ).bind fun x => iteD x (evE C a Γ) (evE C b Γ)
  | .tup l, Γ => (evL C l Γ).bind fun ds => if ds.length ≤ LINE then .ok (.tup ds) else .bad
  | .lst l, Γ => (evL C l Γ).bind fun ds => if ds.length ≤ LINE then .ok (.lst ds) else .bad
  | .nil, _ => .bad
  | .cons _ _, _ => .bad
  | .item a i, Γ => (borrow Γ a (evE C a Γ)).bind fun x => (evE C i Γ).bind fun y => itemD x y
  | .slice a lo hi, Γ => (borrow Γ a (evE C a Γ)).bind fun x => (part lo (evE C lo Γ)).bind fun l => (part hi (evE C hi Γ)).bind fun h => sliceD x l h
  | .f1 f a, Γ => (borrow Γ a (evE C a Γ)).bind fun x => f1D f x
  | .f2 f a b, Γ => (evE C a Γ).bind fun x => (evE C b Γ).bind fun y => f2D f x y
  | .isi ts a, Γ => (evE C a Γ).bind (isiR C ts)
  | .fld nm a, Γ => (borrow Γ a (evE C a Γ)).bind fun x => fldD C nm x
  | .call n l, Γ => (evL C l Γ).bind fun ds => C.fn n ds
  | .comp tg rng it c e, Γ => (if rng then (evL C it Γ).bind fun ds => walkD true (.tup ds) else (evE C it Γ).bind fun d => walkD false d).bind fun items =>
      (compD tg (killG Γ tg) (condF c fun Γ' => evE C c Γ') (fun Γ' => evE C e Γ') items []).noexc.bind fun ds => .ok (.lst ds)
  | .compg n tg l e, Γ => (((evL C l Γ).noexc.bind (C.fn n)).noexc.bind (walkD false)).bind fun items =>
      (compD tg (killG Γ tg) none (fun Γ' => evE C e Γ') items []).noexc.bind fun ds => .ok (.lst ds)
  | .lend i e, Γ => match Γ[i]? with
    | some (.ownL l) => (evE C e (Γ.set i (.val (.lst l)))).bind (lendR l)
    | _ => .bad
  | .any, _ => .bad
  | .fmt a, Γ => (evE C a Γ).bind fmtD
  | .calm n l, Γ => (evL C l Γ).noexc.bind fun ds => C.fn n ds
  | .own n i l, Γ => match Γ[i]? with
    | some (.ownI c fs) => if fs.length ≤ (C.flds c).length then (evL C l Γ).noexc.bind fun ds => ownR (C.fn n (.obj c fs :: ds)) else .bad
    | _ => .bad
  | .calv n cs i l, Γ => match Γ[i]? with
    | some (.val (.obj c fs)) => if cs.contains c then (evL C l Γ).bind fun ds => C.fn n (.obj c fs :: ds) else .bad
    | _ => .bad
  | .dget2 a k x, Γ => (borrow Γ a (evE C a Γ)).bind fun d => if d.isDct then (evE C k Γ).bind fun y => (evE C x Γ).bind fun z => dgetD d y z else .bad
  | .isx i ts, Γ => match Γ[i]? with
    | some (.exn e) => (match isiD C.sub ts (.x e.1) with | some b => .ok (.bl b) | none => .bad)
    | _ => .bad
  | .fldx i nm, Γ => match Γ[i]? with
    | some (.exn e) => (match e.2[nm]? with | some j => .ok (.int j) | none => .bad)
    | _ => .bad
def evL (C : Mng) : E → Gam → R (List D)
  | .nil, _ => .ok []
  | .cons a l, Γ => (evE C a Γ).bind fun x => (evL C l Γ).bind fun xs => .ok (x :: xs)
  | _, _ => .bad
end
inductive Sm where
  | nil | asg (i : Nat) (e : E) (k : Sm) | asgO (i : Nat) (e : E) (k : Sm) | newD (b : Bool) (i : Nat) (k : Sm) | disp (b : Bool) (i : Nat) (x y : E) (k : Sm)
  | unp (is : List Nat) (e : E) (k : Sm) | swp (i j : Nat) (a b : E) (k : Sm) | aug (i : Nat) (op : BOp) (e : E) (k : Sm)
  | app (i : Nat) (e : E) (k : Sm) | ext (i : Nat) (e : E) (k : Sm) | pop (i j : Nat) (k : Sm) | seti (i : Nat) (a e : E) (k : Sm) | dput (i : Nat) (a e : E) (k : Sm)
  | frz (i : Nat) (k : Sm) | ifs (c : E) (a b k : Sm) | loop (tg kl : List Nat) (rng : Bool) (it : E) (body k : Sm) | whl (kl : List Nat) (c : E) (body k : Sm) | loopg (n : Nat) (tg kl : List Nat) (l : E) (body k : Sm)
  | ret (e : E) | retN | brk | cont | raise (n : Nat) | raiseV (n : Nat) (e : E) | drop (e : E) (k : Sm) | pass (k : Sm) | setf (i nm : Nat) (e : E) (k : Sm) | hook (n : Nat) (k : Sm) | any
  | tryx (body hs k : Sm) | hnil | hcons (t : Ty) (slot : Option Nat) (suite r : Sm)
  | memo (nm : Nat) (a : Nat) (x : E) (body : Sm) (e : E)
  | setc (i nm m : Nat) (k : Sm)
  | callIO (i n : Nat) (l : E) (j : Nat) (m : E) (k : Sm) | retIO (e : E) (j : Nat) | loopB (tg kl : List Nat) (i : Nat) (body k : Sm) | asgN (i n : Nat) (l : E) (k : Sm) | retO (i : Nat) | superI (i n : Nat) (l : E) (k : Sm)
  | clr (i : Nat) (k : Sm) | rev (i : Nat) (k : Sm) | ins (i : Nat) (a e : E) (k : Sm)
def Out.nox : Out → Out
  | .exc _ _ => .bad
  | o => o
def Out.andThen : Out → (Gam → Out) → Out
  | .next Γ, f => f Γ
  | o, _ => o
@[simp] theorem Out.andThen_next (Γ : Gam) (f : Gam → Out) : (Out.next Γ).andThen f = f Γ := rfl
@[simp] theorem Out.andThen_ret (d : D) (f : Gam → Out) : (Out.ret d).andThen f = .ret d := rfl
@[simp] theorem Out.andThen_brk (Γ : Gam) (f : Gam → Out) : (Out.brk Γ).andThen f = .brk Γ := rfl
@[simp] theorem Out.andThen_cont (Γ : Gam) (f : Gam → Out) : (Out.cont Γ).andThen f = .cont Γ := rfl
@[simp] theorem Out.andThen_rio (d : D) (ks vs : List D) (f : Gam → Out) : (Out.rio d ks vs).andThen f = .rio d ks vs := rfl
@[simp] theorem Out.andThen_rown (l : List D) (f : Gam → Out) : (Out.rown l).andThen f = .rown l := rfl
@[simp] theorem Out.andThen_exc (c : Ec) (Γ : Gam) (f : Gam → Out) : (Out.exc c Γ).andThen f = .exc c Γ := rfl
@[simp] theorem Out.andThen_bad (f : Gam → Out) : Out.bad.andThen f = .bad := rfl
def Out.of {α : Type} (Γ : Gam) (r : R α) (f : α → Out) : Out :=
  match r with
  | .ok a => f a
  | .exc c => .exc c Γ
  | .bad => .bad
@[simp] theorem Out.of_ok {α : Type} (Γ : Gam) (a : α) (f : α → Out) : Out.of Γ (.ok a) f = f a := rfl
@[simp] theorem Out.of_exc {α : Type} (Γ : Gam) (c : Ec) (f : α → Out) : Out.of Γ (.exc c : R α) f = .exc c Γ := rfl
@[simp] theorem Out.of_bad {α : Type} (Γ : Gam) (f : α → Out) : Out.of Γ (.bad : R α) f = .bad := rfl
def forD (tg kl : List Nat) (body : Gam → Out) : List D → Gam → Out
  | [], Γ => .next (killG Γ kl)
  | d :: ds, Γ => Out.of Γ (tgtD (killG Γ kl) tg d) fun Γ' => match body Γ' with
    | .next Γ2 => forD tg kl body ds Γ2
    | .cont Γ2 => forD tg kl body ds Γ2
    | .brk Γ2 => .next (killG Γ2 kl)
    | o => o
def whileD (kl : List Nat) (c : Gam → R Bool) (body : Gam → Out) : Nat → Gam → Out
  | 0, _ => .bad
  | n + 1, Γ => Out.of (killG Γ kl) (c (killG Γ kl)) fun b => if b then (match body (killG Γ kl) with
    | .next Γ2 => whileD kl c body n Γ2
    | .cont Γ2 => whileD kl c body n Γ2
    | .brk Γ2 => .next (killG Γ2 kl)
    | o => o) else .next (killG Γ kl)
def augD : BOp → D → D → R D
  | .add, .int a, .int b => .ok (.int (a + b))
  | .sub, .int a, .int b => .ok (.int (a - b))
  | _, _, _ => .bad
def FUEL : Nat := 2 ^ 64
def lstO (d : D) (f : List D → Out) : Out := match d with
  | .lst l => f l
  | _ => .bad
@[simp] theorem lstO_lst (l : List D) (f : List D → Out) : lstO (.lst l) f = f l := rfl
def tupO (d : D) (f : List D → Out) : Out := match d with
  | .tup l => f l
  | _ => .bad
@[simp] theorem tupO_tup (l : List D) (f : List D → Out) : tupO (.tup l) f = f l := rfl
def onL (Γ : Gam) (i : Nat) (f : List D → Out) : Out :=
  match Γ[i]? with
  | some (.ownL l) => f l
  | _ => .bad
def frzG (Γ : Gam) (i : Nat) : Out :=
  match Γ[i]? with
  | some (.ownL l) => .next (Γ.set i (.val (.lst l)))
  | some (.ownD k ks vs) => .next (Γ.set i (.val (.dict k ks vs)))
  | some (.val _) => .next Γ
  | _ => .bad
def onD (Γ : Gam) (i : Nat) (f : Bool → List D → List D → (List D → List D → Cell) → Out) : Out :=
  match Γ[i]? with
  | some (.ownD k ks vs) => f k ks vs (.ownD k)
  | some (.io ks vs) => f false ks vs .io
  | _ => .bad
def putOut (k : Bool) (ks vs : List D) (x y : D) (f : List D → List D → Out) : Out :=
  if x.isKey k then (if dHas ks x then f ks (dPut ks vs x y) else if ks.length < LINE then f (ks ++ [x]) (vs ++ [y]) else .bad) else .bad
def noLent (Γ : Gam) : Bool := Γ.all fun c => match c with | .lent => false | _ => true
def noExn (Γ : Gam) : Gam := Γ.map fun c => match c with | .exn _ => .dead | c => c
def Out.mapG (f : Gam → Gam) : Out → Out
  | .next Γ => .next (f Γ)
  | .brk Γ => .brk (f Γ)
  | .cont Γ => .cont (f Γ)
  | .exc _ _ => .bad
  | .rio _ _ _ => .bad
  | .rown _ => .bad
  | o => o
def bindX (slot : Option Nat) (e : Ec) (Γ : Gam) : Gam := match slot with
  | some i => Γ.set i (.exn e)
  | none => Γ
def endX (slot : Option Nat) (Γ : Gam) : Gam := noExn (match slot with | some i => Γ.set i .dead | none => Γ)
mutual
noncomputable def evS (C : Mng) : Sm → Gam → Out
  | .nil, Γ => .next Γ
  | .asg i e k, Γ => Out.of Γ (evE C e Γ) fun d => evS C k (Γ.set i (.val d))
  | .asgO i e k, Γ => Out.of Γ (evE C e Γ) fun d => lstO d fun l => evS C k (Γ.set i (.ownL l))
  | .newD b i k, Γ => evS C k (Γ.set i (.ownD b [] []))
  | .disp b i x y k, Γ => Out.of Γ (evE C x Γ) fun u => Out.of Γ (evE C y Γ) fun v => if u.isKey b then evS C k (Γ.set i (.ownD b [u] [v])) else .bad
  | .unp is e k, Γ => Out.of Γ (evE C e Γ) fun d => tupO d fun l => Out.of Γ (setAll Γ is l) (evS C k)
  | .swp i j a b k, Γ => Out.of Γ (evE C a Γ) fun x => Out.of Γ (evE C b Γ) fun y => evS C k ((Γ.set i (.val x)).set j (.val y))
  | .aug i op e k, Γ => match Γ[i]? with
    | some (.val x) => Out.of Γ (evE C e Γ) fun y => Out.of Γ (augD op x y) fun z => evS C k (Γ.set i (.val z))
    | _ => .bad
  | .app i e k, Γ => onL Γ i fun l => Out.of Γ (evE C e Γ) fun y => if l.length < LINE then evS C k (Γ.set i (.ownL (l ++ [y]))) else .bad
  | .ext i e k, Γ => onL Γ i fun l => Out.of Γ (evE C e Γ) fun y => match y with
    | .lst m => if l.length + m.length ≤ LINE then evS C k (Γ.set i (.ownL (l ++ m))) else .bad
    | _ => .bad
  | .pop i j k, Γ => onL Γ j fun l => match l.getLast? with
    | some d => evS C k ((Γ.set j (.ownL l.dropLast)).set i (.val d))
    | none => .bad
  | .seti i a e k, Γ => Out.of Γ (evE C e Γ) fun y => onL Γ i fun l => Out.of Γ (evE C a Γ) fun x => match x with
    | .int n => match ixN l.length n with
      | some j => evS C k (Γ.set i (.ownL (l.set j y)))
      | none => .bad
    | _ => .bad
  | .dput i a e k, Γ => Out.of Γ (evE C e Γ) fun y => onD Γ i fun b ks vs mk => Out.of Γ (evE C a Γ) fun x => putOut b ks vs x y fun ks' vs' => evS C k (Γ.set i (mk ks' vs'))
  | .frz i k, Γ => (frzG Γ i).andThen (evS C k)
  | .ifs c a b k, Γ => Out.of Γ (evE C c Γ) fun x => Out.of Γ (truD x) fun r => if r then (evS C a Γ).andThen (evS C k) else (evS C b Γ).andThen (evS C k)
  | .loop tg kl rng it body k, Γ => Out.of Γ (if rng then (evL C it Γ).bind fun ds => walkD true (.tup ds) else (evE C it Γ).bind fun d => walkD false d) fun items =>
      (forD tg kl (evS C body) items Γ).andThen (evS C k)
  | .loopg n tg kl l body k, Γ => Out.of Γ (((evL C l Γ).noexc.bind (C.fn n)).noexc.bind (walkD false)) fun items =>
      (forD tg kl (fun Γ' => (evS C body Γ').nox) items Γ).andThen (evS C k)
  | .whl kl c body k, Γ => (whileD kl (fun Γ' => (evE C c Γ').bind truD) (evS C body) FUEL Γ).andThen (evS C k)
  | .ret e, Γ => Out.of Γ (evE C e Γ) .ret
  | .retN, _ => .ret .non
  | .brk, Γ => .brk Γ
  | .cont, Γ => .cont Γ
  | .raise n, Γ => .exc (n, []) Γ
  | .raiseV n e, Γ => Out.of Γ (evE C e Γ) fun d => match d with
    | .int i => .exc (n, [i]) Γ
    | _ => .bad
  | .drop e k, Γ => Out.of Γ (evE C e Γ) fun _ => evS C k Γ
  | .pass k, Γ => evS C k Γ
  | .setf i nm e k, Γ => Out.of Γ (evE C e Γ) fun d => match Γ[i]? with
    | some (.ownI c l) => if (C.flds c)[l.length]? = some nm then evS C k (Γ.set i (.ownI c (l ++ [d]))) else .bad
    | _ => .bad
  | .hook n k, Γ => (C.hs n Γ).andThen (evS C k)
  | .any, _ => .bad
  | .tryx body h k, Γ => (match evS C body Γ with
    | .exc e Γ1 => evH C h e Γ1
    | o => o).andThen (evS C k)
  | .hnil, _ => .bad
  | .hcons _ _ _ _, _ => .bad
  | .memo nm a x body e, Γ => match Γ[a]? with
    | some (.val (.obj c l)) => (match fldD C nm (.obj c l) with
      | .ok (.cache m) => Out.of Γ (evE C x Γ) fun y => if y.isKey false then (match evS C body Γ with
        | .next Γ2 => (match Γ2[a]?, evE C x Γ2, evE C e Γ2 with
          | some (.val (.obj c' l')), .ok y', .ok d => if c' = c ∧ l'.length = l.length ∧ y'.nk = y.nk ∧ y'.isKey false then (match fldD C nm (.obj c' l') with
            | .ok (.cache m') => (match C.memo m y with | some d' => if m'.same m && d'.same d then .ret d else .bad | none => .bad)
            | _ => .bad) else .bad
          | _, _, _ => .bad)
        | _ => .bad) else .bad
      | _ => .bad)
    | _ => .bad
  | .setc i nm m k, Γ => match Γ[i]? with
    | some (.ownI c l) => if (C.flds c)[l.length]? = some nm then evS C k (Γ.set i (.ownI c (l ++ [.cache (.tup l)]))) else .bad
    | _ => .bad
  | .callIO i n l j m k, Γ => Out.of Γ (evL C l Γ).noexc fun ds => Out.of Γ (evL C m Γ).noexc fun es => onD Γ j fun b ks vs mk => if b = false ∧ i ≠ j then (match C.fn n (ds ++ .dict false ks vs :: es) with
    | .ok (.tup [d, .dict false ks' vs']) => evS C k ((Γ.set j (mk ks' vs')).set i (.val d))
    | _ => .bad) else .bad
  | .loopB tg kl i body k, Γ => match Γ[i]? with
    | some (.ownL l) => if noLent Γ then (match forD tg kl (evS C body) l (Γ.set i .lent) with
      | .next Γ2 => (match Γ2[i]? with
        | some .lent => if noLent (Γ2.set i (.ownL l)) then evS C k (Γ2.set i (.ownL l)) else .bad
        | _ => .bad)
      | _ => .bad) else .bad
    | _ => .bad
  | .asgN i n l k, Γ => Out.of Γ ((evL C l Γ).bind fun ds => C.fn n ds) fun d => lstO d fun l => evS C k (Γ.set i (.ownL l))
  | .retO i, Γ => match Γ[i]? with
    | some (.ownL l) => .rown l
    | _ => .bad
  | .retIO e j, Γ => Out.of Γ (evE C e Γ) fun d => match Γ[j]? with
    | some (.io ks vs) => .rio d ks vs
    | _ => .bad
  | .superI i n l k, Γ => Out.of Γ (evL C l Γ) fun ds => match Γ[i]? with
    | some (.ownI c []) => (match C.fn n ds with
      | .ok (.obj c' fs) => if c' = c then evS C k (Γ.set i (.ownI c fs)) else .bad
      | .exc e => .exc e (Γ.set i .dead)
      | _ => .bad)
    | _ => .bad
  | .clr i k, Γ => onL Γ i fun _ => evS C k (Γ.set i (.ownL []))
  | .rev i k, Γ => onL Γ i fun l => evS C k (Γ.set i (.ownL l.reverse))
  | .ins i a e k, Γ => onL Γ i fun l => Out.of Γ (evE C a Γ) fun x => Out.of Γ (evE C e Γ) fun y => match x with
    | .int n => if 0 ≤ n ∧ n.toNat ≤ l.length ∧ l.length < LINE then evS C k (Γ.set i (.ownL (l.take n.toNat ++ y :: l.drop n.toNat))) else .bad
    | _ => .bad
noncomputable def evH (C : Mng) : Sm → Ec → Gam → Out
  | .hnil, e, Γ => .exc e Γ
  | .hcons t slot suite r, e, Γ => match C.sub (.x e.1) t with
    | some true => if e.2.isEmpty then (evS C suite (bindX slot e (noExn Γ))).mapG (endX slot) else .bad
    | some false => evH C r e Γ
    | none => .bad
  | _, _, _ => .bad
end
end G
namespace G
open PySem L2
def DOk (C : Cfg) (F : Wd) (k : Bool) (ks : List D) (kas : List Addr) (xs : List V) (vs : List D) : Prop :=
  ks.all (D.isKey k) = true ∧ kas.length = ks.length ∧ ks.length = vs.length ∧ (k = false → RepL C F (kas.map V.ref) ks) ∧ RepL C F xs vs
def SlotOk (C : Cfg) (B : Bs) (F : Wd) (H : Hp) (v : Option V) : Cell → Prop
  | .dead => True
  | .val d => ∃ u, v = some u ∧ Rep C F u d
  | .ownL l => ∃ a xs, v = some (.ref a) ∧ F a = none ∧ B.h a = none ∧ H a = some (.lst xs) ∧ RepL C F xs l
  | .ownD k ks vs => ∃ a kas xs, v = some (.ref a) ∧ F a = none ∧ B.h a = none ∧ H a = some (dictO C a k ks kas xs) ∧ DOk C F k ks kas xs vs
  | .ownI c l => ∃ a xs, v = some (.ref a) ∧ a = B.me ∧ F a = none ∧ B.h a = none ∧ (∃ dx, H a = some (.ins (C.cls c) dx (fieldsN C c l.length xs))) ∧ RepL C F xs l ∧ C.has c = true
  | .io ks vs => ∃ a kas xs, v = some (.ref a) ∧ a = B.io ∧ F a = none ∧ B.h a = none ∧ H a = some (dictO C a false ks kas xs) ∧ DOk C F false ks kas xs vs
  | .exn e => v = some (.ref B.xa) ∧ e = B.xe
  | .lent => v = some (.ref B.la)
def Cell.own : Cell → Bool
  | .ownL _ => true
  | .ownD _ _ _ => true
  | .ownI _ _ => true
  | .io _ _ => true
  | _ => false
structure SR (C : Cfg) (B : Bs) (F : Wd) (H : Hp) (σ : St) (Γ : Gam) : Prop where
  fits : Fits C F H
  ext : Ext B.w B.h F H
  len : σ.length = Γ.length
  sl : ∀ (i : Nat) (c : Cell), Γ[i]? = some c → SlotOk C B F H (σ[i]?.join) c
  inj : ∀ (i j : Nat) (c c' : Cell) (a : Addr), Γ[i]? = some c → Γ[j]? = some c' → c.own = true → c'.own = true → σ[i]? = some (some (.ref a)) → σ[j]? = some (some (.ref a)) → i = j
section
variable {C : Cfg} {B : Bs} {F F' : Wd} {H H' : Hp} {σ : St} {Γ : Gam}
theorem DOk.le {k : Bool} {ks vs : List D} {kas : List Addr} {xs : List V} (h : ∀ b x, F b = some x → F' b = some x) (r : DOk C F k ks kas xs vs) : DOk C F' k ks kas xs vs := ⟨r.1, r.2.1, r.2.2.1, fun e => RepL.le h _ _ (r.2.2.2.1 e), RepL.le h _ _ r.2.2.2.2⟩
theorem Ext.own (e : Ext F H F' H') {a : Addr} {u : HO} (h : H a = some u) (f : F a = none) : H' a = some u ∧ F' a = none := by
  refine ⟨e.keep a u h (fun m z => by rw [f] at z; cases z), ?_⟩
  cases q : F' a with
  | none => rfl
  | some x =>
    rcases e.new a x q with z | z
    · rw [f] at z; cases z
    · rw [h] at z; cases z
theorem SlotOk.ext (e : Ext F H F' H') {v : Option V} : ∀ {c : Cell}, SlotOk C B F H v c → SlotOk C B F' H' v c
  | .dead, _ => trivial
  | .val d, q => by
    obtain ⟨u, h, r⟩ := q
    exact ⟨u, h, Rep.le e.le d u r⟩
  | .ownL l, q => by
    obtain ⟨a, xs, h, f, z, k, r⟩ := q
    obtain ⟨k', f'⟩ := e.own k f
    exact ⟨a, xs, h, f', z, k', RepL.le e.le _ _ r⟩
  | .ownD _ _ _, q => by
    obtain ⟨a, kas, xs, h, f, z, k, r⟩ := q
    obtain ⟨k', f'⟩ := e.own k f
    exact ⟨a, kas, xs, h, f', z, k', r.le e.le⟩
  | .ownI c l, q => by
    obtain ⟨a, xs, h, me, f, z, ⟨dx, k⟩, r, hc⟩ := q
    obtain ⟨k', f'⟩ := e.own k f
    exact ⟨a, xs, h, me, f', z, ⟨dx, k'⟩, RepL.le e.le _ _ r, hc⟩
  | .io _ _, q => by
    obtain ⟨a, kas, xs, h, me, f, z, k, r⟩ := q
    obtain ⟨k', f'⟩ := e.own k f
    exact ⟨a, kas, xs, h, me, f', z, k', r.le e.le⟩
  | .exn _, q => q
  | .lent, q => q
theorem SR.ext_ (s : SR C B F H σ Γ) (e : Ext F H F' H') (f : Fits C F' H') : SR C B F' H' σ Γ :=
  ⟨f, s.ext.trans e, s.len, fun i c h => (s.sl i c h).ext e, s.inj⟩
theorem join_of {σ : St} {i : Nat} {v : V} (h : σ[i]?.join = some v) : σ[i]? = some (some v) := by
  cases e : σ[i]? with
  | none => rw [e] at h; cases h
  | some o => rw [e] at h; exact congrArg some h
theorem SR.val (s : SR C B F H σ Γ) {i : Nat} {d : D} (h : Γ[i]? = some (.val d)) : ∃ v, σ[i]? = some (some v) ∧ Rep C F v d := by
  obtain ⟨u, e, r⟩ := s.sl i _ h
  exact ⟨u, join_of e, r⟩
theorem set_get {α : Type} {l : List α} {i j : Nat} {x y : α} (h : (l.set i x)[j]? = some y) : (i = j ∧ y = x ∧ i < l.length) ∨ (i ≠ j ∧ l[j]? = some y) := by
  by_cases e : i = j
  · subst e
    by_cases hl : i < l.length
    · rw [List.getElem?_set_self hl] at h
      exact .inl ⟨rfl, (Option.some.inj h).symm, hl⟩
    · rw [List.getElem?_eq_none (by simpa using hl)] at h; cases h
  · rw [List.getElem?_set_ne e] at h
    exact .inr ⟨e, h⟩
theorem SR.put (s : SR C B F H σ Γ) {i : Nat} {o : Option V} {c : Cell} (h : i < Γ.length → SlotOk C B F H o c)
    (n : c.own = true → ∀ a, o = some (.ref a) → ∀ (j : Nat) (c' : Cell), j ≠ i → Γ[j]? = some c' → c'.own = true → σ[j]? ≠ some (some (.ref a))) : SR C B F H (σ.set i o) (Γ.set i c) := by
  refine ⟨s.fits, s.ext, by rw [List.length_set, List.length_set]; exact s.len, fun j c' hj => ?_, fun j k c1 c2 a h1 h2 o1 o2 e1 e2 => ?_⟩
  · rcases set_get hj with ⟨rfl, rfl, hl⟩ | ⟨hne, hj⟩
    · rw [List.getElem?_set_self (by rw [s.len]; exact hl)]
      exact h hl
    · rw [List.getElem?_set_ne hne]
      exact s.sl j c' hj
  · rcases set_get h1 with ⟨rfl, rfl, hl⟩ | ⟨n1, g1⟩
    · rcases set_get h2 with ⟨rfl, rfl, _⟩ | ⟨n2, g2⟩
      · rfl
      · rw [List.getElem?_set_self (by rw [s.len]; exact hl)] at e1
        rw [List.getElem?_set_ne n2] at e2
        exact absurd e2 (n o1 a (Option.some.inj e1) k c2 (Ne.symm n2) g2 o2)
    · rcases set_get h2 with ⟨rfl, rfl, hl⟩ | ⟨n2, g2⟩
      · rw [List.getElem?_set_self (by rw [s.len]; exact hl)] at e2
        rw [List.getElem?_set_ne n1] at e1
        exact absurd e1 (n o2 a (Option.some.inj e2) j c1 (Ne.symm n1) g1 o1)
      · rw [List.getElem?_set_ne n1] at e1
        rw [List.getElem?_set_ne n2] at e2
        exact s.inj j k c1 c2 a g1 g2 o1 o2 e1 e2
theorem SR.put_val (s : SR C B F H σ Γ) {i : Nat} {v : V} {d : D} (r : Rep C F v d) : SR C B F H (σ.set i (some v)) (Γ.set i (.val d)) :=
  s.put (fun _ => ⟨v, rfl, r⟩) fun z => by cases z
theorem SR.kill1 (s : SR C B F H σ Γ) (i : Nat) : SR C B F H σ (Γ.set i .dead) := by
  refine ⟨s.fits, s.ext, by rw [List.length_set]; exact s.len, fun j c' hj => ?_, fun j k c1 c2 a h1 h2 o1 o2 e1 e2 => ?_⟩
  · rcases set_get hj with ⟨rfl, rfl, hl⟩ | ⟨hne, hj⟩
    · trivial
    · exact s.sl j c' hj
  · rcases set_get h1 with ⟨rfl, rfl, hl⟩ | ⟨n1, g1⟩
    · cases o1
    · rcases set_get h2 with ⟨rfl, rfl, hl⟩ | ⟨n2, g2⟩
      · cases o2
      · exact s.inj j k c1 c2 a g1 g2 o1 o2 e1 e2
theorem SR.kill (s : SR C B F H σ Γ) : ∀ (kl : List Nat), SR C B F H σ (killG Γ kl)
  | [] => s
  | i :: r => (SR.kill s r).kill1 i
theorem SR.wipe (s : SR C B F H σ Γ) : ∀ (kl : List Nat), SR C B F H (wipe σ kl) (killG Γ kl)
  | [] => s
  | i :: r => (SR.wipe s r).put (fun _ => trivial) fun z => by cases z
theorem SR.apart (s : SR C B F H σ Γ) {i : Nat} {c : Cell} {a : Addr} (h : Γ[i]? = some c) (o : c.own = true) (e : σ[i]? = some (some (.ref a))) : ∀ (j : Nat) (c' : Cell), j ≠ i → Γ[j]? = some c' → c'.own = true → σ[j]? ≠ some (some (.ref a)) :=
  fun j c' hj h' o' e' => hj (s.inj j i c' c a h' h o' o e' e)
theorem SlotOk.upd {v : Option V} {a : Addr} {u : HO} : ∀ {c : Cell}, SlotOk C B F H v c → (c.own = true → v ≠ some (.ref a)) → SlotOk C B F (upd H a u) v c
  | .dead, _, _ => trivial
  | .val d, q, _ => q
  | .ownL l, q, n => by
    obtain ⟨b, xs, h, f, z, k, r⟩ := q
    exact ⟨b, xs, h, f, z, by rw [upd_ne (fun e => n rfl (by rw [h, e]))]; exact k, r⟩
  | .ownD _ _ _, q, n => by
    obtain ⟨b, kas, xs, h, f, z, k, r⟩ := q
    exact ⟨b, kas, xs, h, f, z, by rw [upd_ne (fun e => n rfl (by rw [h, e]))]; exact k, r⟩
  | .ownI c l, q, n => by
    obtain ⟨b, xs, h, me, f, z, ⟨dx, k⟩, r⟩ := q
    exact ⟨b, xs, h, me, f, z, ⟨dx, by rw [upd_ne (fun e => n rfl (by rw [h, e]))]; exact k⟩, r⟩
  | .io _ _, q, n => by
    obtain ⟨b, kas, xs, h, me, f, z, k, r⟩ := q
    exact ⟨b, kas, xs, h, me, f, z, by rw [upd_ne (fun e => n rfl (by rw [h, e]))]; exact k, r⟩
  | .exn _, q, _ => q
  | .lent, q, _ => q
theorem SR.write (s : SR C B F H σ Γ) {i : Nat} {c c' : Cell} {a : Addr} {u : HO} (h : Γ[i]? = some c) (o : c.own = true) (e : σ[i]? = some (some (.ref a))) (fa : F a = none) (ha : B.h a = none)
    (q : SlotOk C B F (upd H a u) (some (.ref a)) c') : SR C B F (upd H a u) σ (Γ.set i c') := by
  have ap := s.apart h o e
  have il : i < Γ.length := (List.getElem?_eq_some_iff.mp h).1
  refine ⟨s.fits.write fa, s.ext.fresh ha, by rw [List.length_set]; exact s.len, fun j c2 hj => ?_, fun j k c1 c2 b h1 h2 o1 o2 e1 e2 => ?_⟩
  · rcases set_get hj with ⟨rfl, rfl, hl⟩ | ⟨hne, hj⟩
    · rw [e]; exact q
    · exact (s.sl j c2 hj).upd fun o2 e2 => ap j c2 (Ne.symm hne) hj o2 (join_of e2)
  · rcases set_get h1 with ⟨rfl, rfl, hl⟩ | ⟨n1, g1⟩
    · rcases set_get h2 with ⟨rfl, rfl, _⟩ | ⟨n2, g2⟩
      · rfl
      · rw [e] at e1
        cases Option.some.inj (Option.some.inj e1)
        exact absurd e2 (ap k c2 (Ne.symm n2) g2 o2)
    · rcases set_get h2 with ⟨rfl, rfl, hl⟩ | ⟨n2, g2⟩
      · rw [e] at e2
        cases Option.some.inj (Option.some.inj e2)
        exact absurd e1 (ap j c1 (Ne.symm n1) g1 o1)
      · exact s.inj j k c1 c2 b g1 g2 o1 o2 e1 e2
theorem SR.write_free (s : SR C B F H σ Γ) {a : Addr} {u : HO} (hno : ∀ (j : Nat) (c' : Cell), Γ[j]? = some c' → c'.own = true → σ[j]? ≠ some (some (.ref a))) (fa : F a = none) (ha : B.h a = none) : SR C B F (upd H a u) σ Γ :=
  ⟨s.fits.write fa, s.ext.fresh ha, s.len, fun j c h => (s.sl j c h).upd fun o e => hno j c h o (join_of e), s.inj⟩
theorem SR.put_new (s : SR C B F H σ Γ) {i : Nat} {c : Cell} {a : Addr} (ha : ∀ (j : Nat) (c' : Cell), Γ[j]? = some c' → c'.own = true → σ[j]? ≠ some (some (.ref a))) (q : SlotOk C B F H (some (.ref a)) c) :
    SR C B F H (σ.set i (some (.ref a))) (Γ.set i c) :=
  s.put (fun _ => q) fun _ b e j c' hj h o => by cases Option.some.inj e; exact ha j c' h o
theorem SR.notOwn (s : SR C B F H σ Γ) {a : Addr} (hp : H a = none) : ∀ (j : Nat) (c' : Cell), Γ[j]? = some c' → c'.own = true → σ[j]? ≠ some (some (.ref a)) := fun j c' h o e => by
  have q := s.sl j c' h
  rw [e] at q
  cases c' with
  | dead => cases o
  | val d => cases o
  | ownL l =>
    obtain ⟨b, xs, hb, f, z, k, r⟩ := q
    cases Option.some.inj hb
    rw [hp] at k; cases k
  | ownD kk ks vs =>
    obtain ⟨b, kas, xs, hb, f, z, k, r⟩ := q
    cases Option.some.inj hb
    rw [hp] at k; cases k
  | ownI c l =>
    obtain ⟨b, xs, hb, me, f, z, ⟨dx, k⟩, r⟩ := q
    cases Option.some.inj hb
    rw [hp] at k; cases k
  | io ks vs =>
    obtain ⟨b, kas, xs, hb, me, f, z, k, r⟩ := q
    cases Option.some.inj hb
    rw [hp] at k; cases k
  | exn x => cases o
  | lent => cases o
theorem SlotOk.adopt {v : Option V} {a : Addr} {u : HO} (hF : F a = none) : ∀ {c : Cell}, SlotOk C B F H v c → (c.own = true → v ≠ some (.ref a)) → SlotOk C B (updW F a (.o u)) H v c
  | .dead, _, _ => trivial
  | .val d, q, _ => by
    obtain ⟨w, h, r⟩ := q
    exact ⟨w, h, Rep.le (le_upd hF) d w r⟩
  | .ownL l, q, n => by
    obtain ⟨b, xs, h, f, z, k, r⟩ := q
    exact ⟨b, xs, h, by rw [updW_ne (fun e => n rfl (by rw [h, e]))]; exact f, z, k, RepL.le (le_upd hF) _ _ r⟩
  | .ownD _ _ _, q, n => by
    obtain ⟨b, kas, xs, h, f, z, k, r⟩ := q
    exact ⟨b, kas, xs, h, by rw [updW_ne (fun e => n rfl (by rw [h, e]))]; exact f, z, k, r.le (le_upd hF)⟩
  | .ownI c l, q, n => by
    obtain ⟨b, xs, h, me, f, z, k, r, hc⟩ := q
    exact ⟨b, xs, h, me, by rw [updW_ne (fun e => n rfl (by rw [h, e]))]; exact f, z, k, RepL.le (le_upd hF) _ _ r, hc⟩
  | .io _ _, q, n => by
    obtain ⟨b, kas, xs, h, me, f, z, k, r⟩ := q
    exact ⟨b, kas, xs, h, me, by rw [updW_ne (fun e => n rfl (by rw [h, e]))]; exact f, z, k, r.le (le_upd hF)⟩
  | .exn _, q, _ => q
  | .lent, q, _ => q
def Cell.froz : Cell → Option D
  | .ownL l => some (.lst l)
  | .ownD true ks vs => some (.dict true ks vs)
  | _ => none
theorem SlotOk.froz {v : Option V} {c : Cell} {d : D} (h : c.froz = some d) (q : SlotOk C B F H v c) : ∃ a u, v = some (.ref a) ∧ F a = none ∧ B.h a = none ∧ H a = some u ∧ Rep C (updW F a (.o u)) (.ref a) d := by
  cases c with
  | ownL l =>
    cases h
    obtain ⟨a, xs, e, fa, ha, k, r⟩ := q
    exact ⟨a, _, e, fa, ha, k, a, xs, rfl, updW_same, RepL.le (le_upd fa) _ _ r⟩
  | ownD kk ks vs =>
    cases kk with
    | false => cases h
    | true =>
      cases h
      obtain ⟨a, kas, xs, e, fa, ha, k, r⟩ := q
      have r' := r.le (le_upd (x := .o (dictO C a true ks kas xs)) fa)
      exact ⟨a, _, e, fa, ha, k, a, kas, xs, none, rfl, updW_same, (fun z => by cases z), r'⟩
  | _ => cases h
theorem SR.freeze (s : SR C B F H σ Γ) {i : Nat} {c : Cell} {d : D} (h : Γ[i]? = some c) (hd : c.froz = some d) : ∃ F', SR C B F' H σ (Γ.set i (.val d)) ∧ ∀ b x, F b = some x → F' b = some x := by
  have hown : c.own = true := by cases c <;> first | rfl | cases hd
  obtain ⟨a, u, e, fa, ha, k, r⟩ := (s.sl i _ h).froz hd
  have e' := join_of e
  have ap := s.apart h hown e'
  refine ⟨updW F a (.o u), ⟨s.fits.adopt fa k, s.ext.adopt fa ha, by rw [List.length_set]; exact s.len, fun j c2 hj => ?_, fun j k c1 c2 b h1 h2 o1 o2 e1 e2 => ?_⟩, le_upd fa⟩
  · rcases set_get hj with ⟨rfl, rfl, hl⟩ | ⟨hne, hj⟩
    · exact ⟨_, e, r⟩
    · exact (s.sl j c2 hj).adopt fa fun o2 e2 => ap j c2 (Ne.symm hne) hj o2 (join_of e2)
  · rcases set_get h1 with ⟨rfl, rfl, hl⟩ | ⟨n1, g1⟩
    · cases o1
    · rcases set_get h2 with ⟨rfl, rfl, hl⟩ | ⟨n2, g2⟩
      · cases o2
      · exact s.inj j k c1 c2 b g1 g2 o1 o2 e1 e2
theorem SR.freezeAs (s : SR C B F H σ Γ) {i : Nat} {c : Cell} {d : D} {a : Addr} {u : HO} (h : Γ[i]? = some c) (hown : c.own = true) (e : σ[i]? = some (some (.ref a))) (fa : F a = none) (ba : B.h a = none) (r : Rep C (updW F a (.o u)) (.ref a) d) :
    SR C B (updW F a (.o u)) (upd H a u) σ (Γ.set i (.val d)) := by
  have ap := s.apart h hown e
  have s1 : SR C B F (upd H a u) σ (Γ.set i .dead) := s.write h hown e fa ba trivial
  refine ⟨s1.fits.adopt fa upd_same, s1.ext.adopt fa ba, by rw [List.length_set]; exact s.len, fun j c2 hj => ?_, fun j k c1 c2 b h1 h2 o1 o2 e1 e2 => ?_⟩
  · rcases set_get hj with ⟨rfl, rfl, hl⟩ | ⟨hne, hj⟩
    · exact ⟨_, by rw [e]; rfl, r⟩
    · refine (s1.sl j c2 (by rw [List.getElem?_set_ne hne]; exact hj)).adopt fa fun o2 e2 => ap j c2 (Ne.symm hne) hj o2 (join_of e2)
  · rcases set_get h1 with ⟨rfl, rfl, hl⟩ | ⟨n1, g1⟩
    · cases o1
    · rcases set_get h2 with ⟨rfl, rfl, hl⟩ | ⟨n2, g2⟩
      · cases o2
      · exact s.inj j k c1 c2 b g1 g2 o1 o2 e1 e2
theorem Ext.free0 (e : Ext F H F' H') (f : Fits C F H) (f' : Fits C F' H') {p : Addr} (h : H' p = none) : H p = none := by
  cases q : H p with
  | none => rfl
  | some u =>
    cases z : F p with
    | none => rw [(e.own q z).1] at h; cases h
    | some x =>
      have := f' p x (e.le p x z)
      cases x with
      | o v => rw [h] at this; cases this
      | c m => obtain ⟨_, v, w⟩ := this; rw [h] at w; cases w
theorem SR.base (s : SR C B F H σ Γ) {p : Addr} (h : H p = none) : B.h p = none := by
  cases q : B.h p with
  | none => rfl
  | some u =>
    by_cases hm : ∃ m, B.w p = some (.c m)
    · obtain ⟨m, hm⟩ := hm
      have := s.fits p _ (s.ext.le p _ hm)
      obtain ⟨_, v, w⟩ := this
      rw [h] at w; cases w
    · have := s.ext.keep p u q fun m z => hm ⟨m, z⟩
      rw [h] at this; cases this
end
end G
namespace G
open PySem L2
def Po {α β : Type} (C : Cfg) (Rp : Wd → Hp → β → α → Prop) (F : Wd) (H : Hp) (r : R α) (Q : β → Hp → Prop) (Ex : Ec → Hp → Prop) : Prop :=
  match r with
  | .ok a => ∀ v F' H', Ext F H F' H' → Fits C F' H' → Rp F' H' v a → Q v H'
  | .exc c => ∀ F' H', Ext F H F' H' → Fits C F' H' → Ex c H'
  | .bad => False
section
variable {α α' β β' : Type} {C : Cfg} {Rp : Wd → Hp → β → α → Prop} {Rp' : Wd → Hp → β' → α' → Prop} {F F' : Wd} {H H' : Hp} {r : R α} {Q Q1 : β → Hp → Prop} {Q' : β' → Hp → Prop} {Ex : Ec → Hp → Prop}
theorem Po.ext (p : Po C Rp F H r Q Ex) (e : Ext F H F' H') : Po C Rp F' H' r Q Ex := by
  cases r with
  | ok a => exact fun v F2 H2 e2 f2 h => p v F2 H2 (e.trans e2) f2 h
  | exc c => exact fun F2 H2 e2 f2 => p F2 H2 (e.trans e2) f2
  | bad => exact p
theorem Po.mono (p : Po C Rp F H r Q Ex) (h : ∀ v H', Q v H' → Q1 v H') : Po C Rp F H r Q1 Ex := by
  cases r with
  | ok a => exact fun v F2 H2 e2 f2 q => h _ _ (p v F2 H2 e2 f2 q)
  | exc c => exact p
  | bad => exact p
theorem Po.bind {k : α → R α'} (p : Po C Rp' F H (r.bind k) Q' Ex) :
    Po C Rp F H r (fun v H1 => ∃ F1 a, Ext F H F1 H1 ∧ Fits C F1 H1 ∧ Rp F1 H1 v a ∧ r = .ok a ∧ Po C Rp' F1 H1 (k a) Q' Ex) Ex := by
  cases r with
  | ok a => exact fun v F1 H1 e1 f1 q => ⟨F1, a, e1, f1, q, rfl, Po.ext p e1⟩
  | exc c => exact p
  | bad => exact p
theorem Po.now {a : α} {v : β} (p : Po C Rp F H (.ok a) Q Ex) (f : Fits C F H) (q : Rp F H v a) : Q v H := p v F H (Ext.refl _ _) f q
end
abbrev RpD (C : Cfg) : Wd → Hp → V → D → Prop := fun F _ v d => Rep C F v d
abbrev RpL (C : Cfg) : Wd → Hp → List V → List D → Prop := fun F _ v d => RepL C F v d
abbrev RpT : Wd → Hp → Bool → Bool → Prop := fun _ _ b c => b = c
def RpB (C : Cfg) : Wd → Hp → V → D → Prop := fun F H v d => Rep C F v d ∨ (∃ a xs l, v = .ref a ∧ d = .lst l ∧ F a = none ∧ H a = some (.lst xs) ∧ RepL C F xs l) ∨
  (∃ a dx xs c l, v = .ref a ∧ d = .obj c l ∧ F a = none ∧ H a = some (.ins (C.cls c) dx (fieldsN C c l.length xs)) ∧ RepL C F xs l ∧ C.has c = true) ∨
  ∃ a k ks kas xs vs, v = .ref a ∧ d = .dict k ks vs ∧ F a = none ∧ H a = some (dictO C a k ks kas xs) ∧ DOk C F k ks kas xs vs
def RpN (C : Cfg) (H0 : Hp) : Wd → Hp → V → D → Prop := fun F H v d => match d with
  | .lst l => ∃ a xs, v = .ref a ∧ H0 a = none ∧ F a = none ∧ H a = some (.lst xs) ∧ RepL C F xs l
  | d => Rep C F v d
def Ww (C : Cfg) (W : Value → Option Addr → Hp → Prop) : Ec → Hp → Prop := fun c H' => C.hasX c.1 = true → if c.2 = [] then W (.ref (C.exa c.1)) none H' else ∀ d, H' d = none → W (.ref (C.exa c.1)) (some d) (upd H' d (.xd ((C.xf c.1).zip (c.2.map V.int))))
abbrev Wx (C : Cfg) (W : WX) (σ : L2.St) : Ec → Hp → Prop := Ww C fun cls d H => W cls d σ H
def tD (C : Cfg) (B : Bs) (Γ : Gam) (W : WX) (r : R D) : TE := fun σ H Q => ∃ F, SR C B F H σ Γ ∧ Po C (RpD C) F H r Q (Wx C W σ)
def tB (C : Cfg) (B : Bs) (Γ : Gam) (W : WX) (r : R D) : TE := fun σ H Q => ∃ F, SR C B F H σ Γ ∧ Po C (RpB C) F H r Q (Wx C W σ)
def tN (C : Cfg) (B : Bs) (Γ : Gam) (W : WX) (r : R D) : TE := fun σ H Q => ∃ F, SR C B F H σ Γ ∧ Po C (RpN C H) F H r Q (Wx C W σ)
def tT (C : Cfg) (B : Bs) (Γ : Gam) (W : WX) (r : R Bool) : TT := fun σ H Q => ∃ F, SR C B F H σ Γ ∧ Po C RpT F H r Q (Wx C W σ)
def tL (C : Cfg) (B : Bs) (Γ : Gam) (W : WX) (r : R (List D)) : TA := fun σ H Q => ∃ F, SR C B F H σ Γ ∧ Po C (RpL C) F H r Q (Wx C W σ)
end G
namespace L2
open PySem G
variable {X : Cx} {e : Expr} {es : List Expr}
theorem PE.imp {t t' : TE} (h : PE X e t) (i : ∀ σ H Q, t' σ H Q → t σ H Q) : PE X e t' := ⟨fun pins s σ H Q I q => h.run pins s σ H Q I (i σ H Q q)⟩
theorem PT.imp {t t' : TT} (h : PT X e t) (i : ∀ σ H Q, t' σ H Q → t σ H Q) : PT X e t' := ⟨fun pins s σ H Q I q => h.run pins s σ H Q I (i σ H Q q)⟩
theorem PW.imp {t t' : TT} (h : PW X e t) (i : ∀ σ H Q, t' σ H Q → t σ H Q) : PW X e t' := ⟨fun wh pins s σ H Q I q => h.run wh pins s σ H Q I (i σ H Q q)⟩
theorem PA.imp {t t' : TA} (h : PA X es t) (i : ∀ σ H Q, t' σ H Q → t σ H Q) : PA X es t' := ⟨fun pos pins s σ H Q I q => h.run pos pins s σ H Q I (i σ H Q q)⟩
end L2
namespace G
open PySem L2
def okx : Expr → Bool
  | .Starred .. => false
  | .Set .. => false
  | .Slice .. => false
  | .NamedExpr .. => false
  | .Lambda .. => false
  | .SetComp .. => false
  | .DictComp .. => false
  | .GeneratorExp .. => false
  | .Await .. => false
  | .Yield .. => false
  | .YieldFrom .. => false
  | _ => true
theorem star_cons {e : Expr} {es : List Expr} {env : Env} (h : okx e = true) : starEach (e :: es) env = (false, eval e env) :: starEach es env := by
  cases e <;> first | rfl | cases h
theorem star_any {es : List Expr} {env : Env} {pos : Pos} (h : es.all okx = true) : (backTo pos (starEach es env)).any (·.1) = false := by
  induction es with
  | nil => rfl
  | cons e r ih =>
    rw [List.all_cons, Bool.and_eq_true] at h
    rw [star_cons h.1]
    have := ih h.2
    unfold backTo at this ⊢
    rw [List.map_cons, List.any_cons]
    simpa using this
theorem plainIx_ok {e : Expr} (h : okx e = true) : PlainIx e := fun o i => by
  cases e <;> first | rfl | cases h
theorem nomark_ok {e : Expr} (h : okx e = true) (op : CmpOp) : behindInMarks op e = false := by
  cases e <;> first | rfl | cases h
theorem folded_ok {e : Expr} {env : Env} (h : okx e = true) : ∀ x, foldedSetIterable e env x = pure x := fun x => by
  cases e <;> first | rfl | cases h
def notSuper : Expr → Bool
  | .Call _ (_ :: _) _ _ => true
  | .Call _ [] _ _ => false
  | _ => true
theorem attr_ok {e : Expr} {x : Str} {env : Env} (h : notSuper e = true) : attributeBase e x env (eval e env) = eval e env := by
  cases e with
  | Call f a k p =>
    cases a with
    | nil => cases h
    | cons b r =>
      cases f with
      | Name i q => rfl
      | _ => rfl
  | _ => rfl
inductive Cb where
  | fn (x : Str) | meth (m : Str) | prop (m : Str) | smeth (x m : Str) | op (o : Operator)
structure Tb where
  fname : Nat → Str
  gname : Nat → Option Str
  cname : Nat → Option Str
  ename : Nat → Option Str
  rname : Nat → Option Str
  cb : Nat → Option (Scope → Expr → Option (List Expr))
  cm : Nat → Option (Scope → Expr → Option (List Expr))
  ow : Nat → Option (List Str → Nat → Scope → Expr → Option (List Expr))
  hs : Nat → Option (List Str → Scope → Stmt → Bool)
  calm : Bool
  memo : Bool := false
  cv : Nat → Option (List Nat × (List Str → Nat → Scope → Expr → Option (List Expr))) := fun _ => none
  nw : Nat → Option (Scope → Expr → Option (List Expr)) := fun _ => none
  ga : Nat → Option (Scope → Expr → Option (List Expr)) := fun _ => none
  io : Nat → Option (Scope → Expr → Option (List Expr × Expr × List Expr)) := fun _ => none
structure XOk (C : Cfg) (N : List Str) (sc : Scope) (top : Bool) (X : Cx) : Prop where
  eP : X.prog = C.P
  eW : X.w = C.w
  eK : X.K = C.K
  eM : X.mg = C.mg
  eB : X.base = C.base
  eN : X.N = N
  eS : X.env.scope = sc
  nd : N.Nodup
  dp : X.A.depth + 3 * C.J + 5 < recursionLimit
  un : X.A.units + 16 * C.J + 200 < cLine
  fnT : top = true → ∀ x, X.fn x = true
structure XCalm (C : Cfg) (X : Cx) : Prop where
  calm : X.calm = true
  room : Room C.J X.A
def visB (sc : Scope) (x : Str) : Bool := match sc.names.lookup x with
  | some .local => true
  | some .cell => true
  | some .free => true
  | _ => false
def nmOk (x : Str) : Bool := !(x == ("__debug__" : Str)) && !(x == ("__classdict__" : Str)) && !(x == ("__name__" : Str))
def glB (sc : Scope) (x : Str) : Bool := match sc.names.lookup x with
  | some .globalImplicit => nmOk x
  | _ => false
section
variable {C : Cfg} {N : List Str} {sc : Scope} {top : Bool} {X : Cx} {B : Bs} {Γ : Gam} {W : WX} {pos p : Pos}
theorem XOk.vis (h : XOk C N sc top X) {x : Str} (v : visB sc x = true) : Vis X.env.scope x := by
  rw [h.eS]
  unfold visB at v
  split at v
  · rename_i e; exact .inl e
  · rename_i e; exact .inr (.inl e)
  · rename_i e; exact .inr (.inr e)
  · cases v
theorem XOk.gl (h : XOk C N sc top X) {x : Str} (v : glB sc x = true) : Gl X x := by
  show X.env.scope.names.lookup x = some .globalImplicit
  rw [h.eS]
  unfold glB at v
  split at v
  · rename_i e; exact e
  · cases v
theorem glB_nm {sc : Scope} {x : Str} (v : glB sc x = true) : nmOk x = true := by
  unfold glB at v
  split at v
  · exact v
  · cases v
theorem nm_d {x : Str} (h : nmOk x = true) : (x == ("__debug__" : Str)) = false := by
  unfold nmOk at h; simp only [Bool.and_eq_true, Bool.not_eq_true'] at h; exact h.1.1
theorem nm_c {x : Str} (h : nmOk x = true) : (x == ("__classdict__" : Str)) = false := by
  unfold nmOk at h; simp only [Bool.and_eq_true, Bool.not_eq_true'] at h; exact h.1.2
theorem nm_n {x : Str} (h : nmOk x = true) : x ≠ "__name__" := by
  unfold nmOk at h; simp only [Bool.and_eq_true, Bool.not_eq_true'] at h; intro e; rw [e] at h; simp at h
end
section
variable {C : Cfg} {N : List Str} {sc : Scope} {top : Bool} {X : Cx} {B : Bs} {Γ : Gam} {W : WX} {pos p : Pos} {a b c : Expr} {ra rb : R D}
theorem RpB.of {F : Wd} {H : Hp} {v : V} {d : D} (q : Rep C F v d) : RpB C F H v d := .inl q
theorem RpB.ext {F F' : Wd} {H H' : Hp} {v : V} {d : D} (q : RpB C F H v d) (e : Ext F H F' H') : RpB C F' H' v d := by
  rcases q with q | ⟨a, xs, l, e1, e2, f, h, r⟩ | ⟨a, dx, xs, c, l, e1, e2, f, h, r, hc⟩ | ⟨a, k, ks, kas, xs, vs, e1, e2, f, h, r⟩
  · exact .inl (Rep.le e.le d v q)
  · obtain ⟨h', f'⟩ := e.own h f
    exact .inr (.inl ⟨a, xs, l, e1, e2, f', h', RepL.le e.le _ _ r⟩)
  · obtain ⟨h', f'⟩ := e.own h f
    exact .inr (.inr (.inl ⟨a, dx, xs, c, l, e1, e2, f', h', RepL.le e.le _ _ r, hc⟩))
  · obtain ⟨h', f'⟩ := e.own h f
    exact .inr (.inr (.inr ⟨a, k, ks, kas, xs, vs, e1, e2, f', h', r.le e.le⟩))
theorem RpB.lst {F : Wd} {H : Hp} {v : V} {l : List D} (q : RpB C F H v (.lst l)) (f : Fits C F H) : ∃ a xs, v = .ref a ∧ H a = some (.lst xs) ∧ RepL C F xs l := by
  rcases q with ⟨a, xs, e, h, r⟩ | ⟨a, xs, l', e, e2, _, h, r⟩ | ⟨_, _, _, _, _, _, e2, _⟩ | ⟨_, _, _, _, _, _, _, e2, _⟩
  · exact ⟨a, xs, e, f a _ h, r⟩
  · cases e2
    exact ⟨a, xs, e, h, r⟩
  · cases e2
  · cases e2
theorem RpB.dict {F : Wd} {H : Hp} {v : V} {k : Bool} {ks vs : List D} (q : RpB C F H v (.dict k ks vs)) (f : Fits C F H) : ∃ a kas xs po, v = .ref a ∧ H a = some (dictO C a k ks kas xs po) ∧ DOk C F k ks kas xs vs := by
  rcases q with ⟨a, kas, xs, po, e, h, _, r⟩ | ⟨a, xs, l', e, e2, _, h, r⟩ | ⟨_, _, _, _, _, _, e2, _⟩ | ⟨a, k', ks', kas, xs, vs', e, e2, _, h, r⟩
  · exact ⟨a, kas, xs, po, e, f a _ h, r⟩
  · cases e2
  · cases e2
  · cases e2
    exact ⟨a, kas, xs, none, e, h, r⟩
theorem RpB.notlst {F : Wd} {H : Hp} {v : V} {d : D} (q : RpB C F H v d) (n : d.isLO = false) : Rep C F v d := by
  rcases q with q | ⟨a, xs, l, e1, e2, _⟩ | ⟨_, _, _, _, _, _, e2, _⟩ | ⟨_, _, _, _, _, _, _, e2, _⟩
  · exact q
  · rw [e2] at n; cases n
  · rw [e2] at n; cases n
  · rw [e2] at n; cases n
theorem Rep.tup_ {F : Wd} {H : Hp} {v : V} {l : List D} (q : Rep C F v (.tup l)) (f : Fits C F H) : ∃ a xs, v = .ref a ∧ H a = some (.tup xs) ∧ RepL C F xs l := by
  obtain ⟨a, xs, e, h, r⟩ := q
  exact ⟨a, xs, e, f a _ h, r⟩
theorem nd_B (h : PE X a (tD C B Γ W ra)) : PE X a (tB C B Γ W ra) := h.imp fun σ H Q ⟨F, s, p⟩ => ⟨F, s, by
  cases ra with
  | ok d => exact fun v F' H' e f q => p v F' H' e f (.inl q)
  | exc c => exact p
  | bad => exact p⟩
theorem nd_var (h : XOk C N sc top X) {i : Nat} {x : Str} (hN : N[i]? = some x) (hv : visB sc x = true) (hn : nmOk x = true) :
    PE X (.Name x pos) (tD C B Γ W (match Γ[i]? with | some (.val d) => .ok d | _ => .bad)) := by
  refine (pe_var (i := i) (by rw [h.eN]; exact hN) (h.vis hv) (nm_d hn) (nm_c hn)).imp fun σ H Q ⟨F, s, p⟩ => ?_
  cases e : Γ[i]? with
  | none => rw [e] at p; exact p.elim
  | some c =>
    rw [e] at p
    cases c with
    | val d =>
      obtain ⟨v, hv, r⟩ := s.val e
      exact ⟨v, hv, p.now s.fits r⟩
    | _ => exact p.elim
theorem nd_varB (h : XOk C N sc top X) {i : Nat} {x : Str} (hN : N[i]? = some x) (hv : visB sc x = true) (hn : nmOk x = true) (r : R D) :
    PE X (.Name x pos) (tB C B Γ W (borrow Γ (.var i) r)) := by
  refine (pe_var (i := i) (by rw [h.eN]; exact hN) (h.vis hv) (nm_d hn) (nm_c hn)).imp fun σ H Q ⟨F, s, p⟩ => ?_
  unfold borrow at p
  cases e : Γ[i]? with
  | none => simp only [e] at p; exact p.elim
  | some c =>
    simp only [e] at p
    cases c with
    | val d =>
      obtain ⟨v, hv, r⟩ := s.val e
      exact ⟨v, hv, p.now s.fits (.inl r)⟩
    | ownL l =>
      obtain ⟨a, xs, e1, fa, _, ha, rl⟩ := s.sl i _ e
      exact ⟨_, join_of e1, p.now s.fits (.inr (.inl ⟨a, xs, l, rfl, rfl, fa, ha, rl⟩))⟩
    | ownI c l =>
      obtain ⟨a, xs, e1, _, fa, _, ⟨dx, ha⟩, rl, hc⟩ := s.sl i _ e
      exact ⟨_, join_of e1, p.now s.fits (.inr (.inr (.inl ⟨a, dx, xs, c, l, rfl, rfl, fa, ha, rl, hc⟩)))⟩
    | ownD k ks vs =>
      obtain ⟨a, kas, xs, e1, fa, _, ha, rl⟩ := s.sl i _ e
      exact ⟨_, join_of e1, p.now s.fits (.inr (.inr (.inr ⟨a, k, ks, kas, xs, vs, rfl, rfl, fa, ha, rl⟩)))⟩
    | io ks vs =>
      obtain ⟨a, kas, xs, e1, _, fa, _, ha, rl⟩ := s.sl i _ e
      exact ⟨_, join_of e1, p.now s.fits (.inr (.inr (.inr ⟨a, false, ks, kas, xs, vs, rfl, rfl, fa, ha, rl⟩)))⟩
    | dead => exact p.elim
    | exn x => exact p.elim
    | lent => exact p.elim
theorem nd_const {v : V} {d : D} (h : PE X a (tC v)) (r : ∀ F, Rep C F v d) : PE X a (tD C B Γ W (.ok d)) := h.imp fun σ H Q ⟨F, s, p⟩ => p.now s.fits (r F)
theorem RpN.of {H0 : Hp} {F : Wd} {H : Hp} {v : V} {d : D} (q : Rep C F v d) (n : ∀ l, d ≠ .lst l) : RpN C H0 F H v d := by
  cases d with
  | lst l => exact absurd rfl (n l)
  | _ => exact q
theorem nd_adopt (h : PE X a (tN C B Γ W ra)) : PE X a (tD C B Γ W ra) := h.imp fun σ H Q ⟨F, s, p⟩ => ⟨F, s, by
  cases ra with
  | ok d =>
    intro v F' H' e f q
    cases d with
    | lst l =>
      obtain ⟨a, xs, rfl, h0, fa, ha, r⟩ := q
      exact p _ _ _ (e.adopt fa h0) (f.adopt fa ha) ⟨a, xs, rfl, updW_same, RepL.le (le_upd fa) _ _ r⟩
    | _ => exact p v F' H' e f q
  | exc c => exact p
  | bad => exact p⟩
theorem nd_bin {op : Operator} {r : R2} {g : D → D → R D} (ho : OpR X (binaryOp op) r) (ha : PE X a (tB C B Γ W ra)) (hb : PE X b (tB C B Γ W rb))
    (hg : ∀ H0 F H x y dx dy Q Ex, (∀ p, H p = none → H0 p = none) → Fits C F H → RpB C F H x dx → RpB C F H y dy → Po C (RpN C H0) F H (g dx dy) Q Ex → r x y H Q) :
    PE X (.BinOp a op b pos) (tN C B Γ W (ra.bind fun x => rb.bind fun y => g x y)) :=
  (pe_op ho ha hb).imp fun σ H Q ⟨F, s, p⟩ => ⟨F, s, p.bind.mono fun x H1 ⟨F1, dx, e1, f1, r1, _, p1⟩ => ⟨F1, s.ext_ e1 f1, p1.bind.mono fun y H2 ⟨F2, dy, e2, f2, r2, _, p2⟩ =>
    hg H F2 H2 x y dx dy Q _ (fun p h => (e1.trans e2).free0 s.fits f2 h) f2 (r1.ext e2) r2 p2⟩⟩
theorem nd_un {op : UnaryOp} {r : V → Hp → VK → Prop} {g : D → R D} (ho : UnR X (unaryOp op) r) (ha : PE X a (tD C B Γ W ra))
    (hg : ∀ F H x dx Q Ex, Fits C F H → Rep C F x dx → Po C (RpD C) F H (g dx) Q Ex → r x H Q) : PE X (.UnaryOp op a pos) (tD C B Γ W (ra.bind g)) :=
  (pe_un ho ha).imp fun σ H Q ⟨F, s, p⟩ => ⟨F, s, p.bind.mono fun x H1 ⟨F1, dx, e1, f1, r1, _, p1⟩ => hg F1 H1 x dx Q _ f1 r1 p1⟩
theorem nd_cmp {op : CmpOp} {r : R2} {g : D → D → R Bool} (ho : OpR X (compareOp op) r) (ha : PE X a (tB C B Γ W ra)) (hb : PE X b (tB C B Γ W rb)) (hm : okx b = true)
    (hg : ∀ F H x y dx dy (Q : VK) Ex, Fits C F H → RpB C F H x dx → RpB C F H y dy → Po C RpT F H (g dx dy) (fun k H' => Q (.bl k) H') Ex → r x y H Q) :
    PE X (.Compare a [op] [b] pos) (tD C B Γ W (ra.bind fun x => rb.bind fun y => (g x y).bind fun k => .ok (.bl k))) ∧
    PT X (.Compare a [op] [b] pos) (tT C B Γ W (ra.bind fun x => rb.bind fun y => g x y)) := by
  refine ⟨?_, ?_⟩
  · refine (pe_cmpR ho ha hb (nomark_ok hm op)).imp fun σ H Q ⟨F, s, p⟩ => ⟨F, s, p.bind.mono fun x H1 ⟨F1, dx, e1, f1, r1, _, p1⟩ => ⟨F1, s.ext_ e1 f1, p1.bind.mono fun y H2 ⟨F2, dy, e2, f2, r2, _, p2⟩ => ?_⟩⟩
    exact hg F2 H2 x y dx dy Q (Wx C W σ) f2 (r1.ext e2) r2 (p2.bind.mono fun k H3 ⟨F3, k', e3, f3, ek, _, p3⟩ => by cases ek; exact p3.now f3 rfl)
  · refine (pt_cmpR ho ha hb (nomark_ok hm op)).imp fun σ H Q ⟨F, s, p⟩ => ⟨F, s, p.bind.mono fun x H1 ⟨F1, dx, e1, f1, r1, _, p1⟩ => ⟨F1, s.ext_ e1 f1, p1.bind.mono fun y H2 ⟨F2, dy, e2, f2, r2, _, p2⟩ => ?_⟩⟩
    exact hg F2 H2 x y dx dy (fun z H' => ∃ k, z = .bl k ∧ Q k H') _ f2 (r1.ext e2) r2 (p2.mono fun k H3 q => ⟨k, rfl, q⟩)
end
end G
namespace G
open PySem L2
theorem line_eq : sizeLine = LINE := by rw [sizeLine_eq]
theorem laid {C : Cfg} {F : Wd} {H : Hp} {p : Addr} {u : HO} (f : Fits C F H) (hp : H p = none) : Ext F H (updW F p (.o u)) (upd H p u) ∧ Fits C (updW F p (.o u)) (upd H p u) :=
  ⟨((Ext.refl F H).fresh hp).adopt (f.free hp) hp, (f.fresh hp).adopt (f.free hp) upd_same⟩
theorem laid_le {C : Cfg} {F : Wd} {H : Hp} {p : Addr} {u : HO} (f : Fits C F H) (hp : H p = none) : ∀ b x, F b = some x → updW F p (.o u) b = some x := le_upd (f.free hp)
theorem Sx_len (s : List Nat) : (Sx s).length = s.length := by simp [Sx, Str.length]
theorem Sx_cps (s : List Nat) : (Sx s).cps.toList = s := by simp [Sx]
theorem Sx_app (s t : List Nat) : Sx s ++ Sx t = Sx (s ++ t) := by
  show Str.append (Sx s) (Sx t) = _
  simp [Sx, Str.append]
theorem Sx_inj {s t : List Nat} (h : Sx s = Sx t) : s = t := by
  have := congrArg (fun z => z.cps.toList) h
  simpa [Sx] using this
section
variable {C : Cfg} {F : Wd} {H : Hp} {K : PySem.W.Frag}
mutual
theorem Rep.dp (f : Fits C F H) : ∀ (d : D) (n : Nat) (v : V), Rep C F v d → d.flat n = true → Dp K H v d.py
  | .non, n, v, q, _ => by rw [show v = _ from q, D.py]; exact .non
  | .bl b, n, v, q, _ => by rw [show v = _ from q, D.py]; exact .bl b
  | .int i, n, v, q, _ => by rw [show v = _ from q, D.py]; exact .int i
  | .str s, n, v, q, _ => by rw [show v = _ from q, D.py]; exact .str _
  | .tup l, 0, v, q, h => by simp [D.flat] at h
  | .tup l, n + 1, v, q, h => by
    obtain ⟨a, xs, rfl, e, r⟩ := q
    rw [D.py]
    exact .tup (SqT.of (f a _ e)) (RepL.dp f l n xs r (by simpa [D.flat] using h))
  | .lst l, 0, v, q, h => by simp [D.flat] at h
  | .lst l, n + 1, v, q, h => by
    obtain ⟨a, xs, rfl, e, r⟩ := q
    rw [D.py]
    exact .lst (SqL.of (f a _ e)) (RepL.dp f l n xs r (by simpa [D.flat] using h))
  | .byt _, n, v, q, h => by cases n <;> simp [D.flat] at h
  | .obj _ _, n, v, q, h => by cases n <;> simp [D.flat] at h
  | .scr _, n, v, q, h => by cases n <;> simp [D.flat] at h
  | .dict _ _ _, n, v, q, h => by cases n <;> simp [D.flat] at h
  | .cache _, n, v, q, h => by cases n <;> simp [D.flat] at h
  | .cls _, n, v, q, h => by cases n <;> simp [D.flat] at h
theorem RepL.dp (f : Fits C F H) : ∀ (l : List D) (n : Nat) (vs : List V), RepL C F vs l → D.flatL n l = true → DpAll K H vs (D.pyL l)
  | [], n, vs, q, _ => by rw [show vs = [] from q, D.pyL]; exact .nil
  | d :: ds, n, vs, q, h => by
    obtain ⟨v, r, rfl, q1, q2⟩ := q
    rw [D.flatL, Bool.and_eq_true] at h
    rw [D.pyL]
    exact .cons (Rep.dp f d n v q1 h.1) (RepL.dp f ds n r q2 h.2)
end
theorem RpB.dp (f : Fits C F H) {d : D} {n : Nat} {v : V} (q : RpB C F H v d) (h : d.flat n = true) : Dp K H v d.py := by
  rcases q with q | ⟨a, xs, l, rfl, rfl, fa, ha, r⟩ | ⟨_, _, _, _, _, _, rfl, _⟩ | ⟨_, _, _, _, _, _, _, rfl, _⟩
  · exact Rep.dp f d n v q h
  · cases n with
    | zero => simp [D.flat] at h
    | succ n =>
      rw [D.py]
      exact .lst (SqL.of ha) (RepL.dp f l n xs r (by simpa [D.flat] using h))
  · cases n <;> simp [D.flat] at h
  · cases n <;> simp [D.flat] at h
end
mutual
theorem eqv_py : ∀ (a b : D) (n m : Nat), a.flat n = true → b.flat m = true → PyData.eqv a.py b.py = a.eqv b
  | .tup l, .tup k, n, m, h1, h2 => by
    cases n with
    | zero => simp [D.flat] at h1
    | succ n =>
      cases m with
      | zero => simp [D.flat] at h2
      | succ m =>
        simp only [D.py, PyData.eqv, D.eqv]
        exact eqv_pyL l k n m (by simpa [D.flat] using h1) (by simpa [D.flat] using h2)
  | .lst l, .lst k, n, m, h1, h2 => by
    cases n with
    | zero => simp [D.flat] at h1
    | succ n =>
      cases m with
      | zero => simp [D.flat] at h2
      | succ m =>
        simp only [D.py, PyData.eqv, D.eqv]
        exact eqv_pyL l k n m (by simpa [D.flat] using h1) (by simpa [D.flat] using h2)
  | .str s, .str t, n, m, h1, h2 => by
    simp only [D.py, PyData.eqv, D.eqv]
    by_cases e : s = t
    · subst e; simp
    · have : Sx s ≠ Sx t := fun z => e (Sx_inj z)
      rw [beq_eq_false_iff_ne.mpr this, beq_eq_false_iff_ne.mpr e]
  | .non, b, n, m, h1, h2 => by cases b <;> first | (cases m <;> simp [D.flat] at h2 <;> done) | (simp only [D.py, PyData.eqv, D.eqv])
  | .bl _, b, n, m, h1, h2 => by cases b <;> first | (cases m <;> simp [D.flat] at h2 <;> done) | (simp only [D.py, PyData.eqv, D.eqv])
  | .int _, b, n, m, h1, h2 => by cases b <;> first | (cases m <;> simp [D.flat] at h2 <;> done) | (simp only [D.py, PyData.eqv, D.eqv])
  | .str _, .non, n, m, h1, h2 => by simp only [D.py, PyData.eqv, D.eqv]
  | .str _, .bl _, n, m, h1, h2 => by simp only [D.py, PyData.eqv, D.eqv]
  | .str _, .int _, n, m, h1, h2 => by simp only [D.py, PyData.eqv, D.eqv]
  | .str _, .tup _, n, m, h1, h2 => by simp only [D.py, PyData.eqv, D.eqv]
  | .str _, .lst _, n, m, h1, h2 => by simp only [D.py, PyData.eqv, D.eqv]
  | .tup _, .non, n, m, h1, h2 => by simp only [D.py, PyData.eqv, D.eqv]
  | .tup _, .bl _, n, m, h1, h2 => by simp only [D.py, PyData.eqv, D.eqv]
  | .tup _, .int _, n, m, h1, h2 => by simp only [D.py, PyData.eqv, D.eqv]
  | .tup _, .str _, n, m, h1, h2 => by simp only [D.py, PyData.eqv, D.eqv]
  | .tup _, .lst _, n, m, h1, h2 => by simp only [D.py, PyData.eqv, D.eqv]
  | .lst _, .non, n, m, h1, h2 => by simp only [D.py, PyData.eqv, D.eqv]
  | .lst _, .bl _, n, m, h1, h2 => by simp only [D.py, PyData.eqv, D.eqv]
  | .lst _, .int _, n, m, h1, h2 => by simp only [D.py, PyData.eqv, D.eqv]
  | .lst _, .str _, n, m, h1, h2 => by simp only [D.py, PyData.eqv, D.eqv]
  | .lst _, .tup _, n, m, h1, h2 => by simp only [D.py, PyData.eqv, D.eqv]
  | .byt _, _, n, m, h1, h2 => by cases n <;> simp [D.flat] at h1
  | .obj _ _, _, n, m, h1, h2 => by cases n <;> simp [D.flat] at h1
  | .scr _, _, n, m, h1, h2 => by cases n <;> simp [D.flat] at h1
  | .dict _ _ _, _, n, m, h1, h2 => by cases n <;> simp [D.flat] at h1
  | .cache _, _, n, m, h1, h2 => by cases n <;> simp [D.flat] at h1
  | .cls _, _, n, m, h1, h2 => by cases n <;> simp [D.flat] at h1
  | _, .byt _, n, m, h1, h2 => by cases m <;> simp [D.flat] at h2
  | _, .obj _ _, n, m, h1, h2 => by cases m <;> simp [D.flat] at h2
  | _, .scr _, n, m, h1, h2 => by cases m <;> simp [D.flat] at h2
  | _, .dict _ _ _, n, m, h1, h2 => by cases m <;> simp [D.flat] at h2
  | _, .cache _, n, m, h1, h2 => by cases m <;> simp [D.flat] at h2
  | _, .cls _, n, m, h1, h2 => by cases m <;> simp [D.flat] at h2
theorem eqv_pyL : ∀ (a b : List D) (n m : Nat), D.flatL n a = true → D.flatL m b = true → PyData.eqvAll (D.pyL a) (D.pyL b) = D.eqvL a b
  | [], [], _, _, _, _ => by simp only [D.pyL, PyData.eqvAll, D.eqvL]
  | [], _ :: _, _, _, _, _ => by simp only [D.pyL, PyData.eqvAll, D.eqvL]
  | _ :: _, [], _, _, _, _ => by simp only [D.pyL, PyData.eqvAll, D.eqvL]
  | x :: xs, y :: ys, n, m, h1, h2 => by
    rw [D.flatL, Bool.and_eq_true] at h1 h2
    simp only [D.pyL, PyData.eqvAll, D.eqvL]
    rw [eqv_py x y n m h1.1 h2.1, eqv_pyL xs ys n m h1.2 h2.2]
end
mutual
theorem flat_lay : ∀ (d : D) (n : Nat), d.flat n = true → d.py.canLay0 = true ∧ d.py.depth ≤ n
  | .non, n, _ => by simp [D.py, PyData.canLay0, PyData.depth]
  | .bl _, n, _ => by simp [D.py, PyData.canLay0, PyData.depth]
  | .int _, n, _ => by simp [D.py, PyData.canLay0, PyData.depth]
  | .str s, n, h => by
    simp only [D.flat, Bool.and_eq_true, List.all_eq_true, decide_eq_true_eq] at h
    refine ⟨?_, by simp [D.py, PyData.depth]⟩
    simp only [D.py, PyData.canLay0, PyData.strOk]
    rw [Array.all_eq_true']
    intro x hx
    have : x ∈ s := by simpa [Sx] using hx
    have := h.1 x this
    simp; omega
  | .tup l, 0, h => by simp [D.flat] at h
  | .lst l, 0, h => by simp [D.flat] at h
  | .tup l, n + 1, h => by
    obtain ⟨h1, h2⟩ := flat_layL l n (by simpa [D.flat] using h)
    simp only [D.py, PyData.canLay0, PyData.depth]
    exact ⟨h1, by omega⟩
  | .lst l, n + 1, h => by
    obtain ⟨h1, h2⟩ := flat_layL l n (by simpa [D.flat] using h)
    simp only [D.py, PyData.canLay0, PyData.depth]
    exact ⟨h1, by omega⟩
  | .byt _, n, h => by cases n <;> simp [D.flat] at h
  | .obj _ _, n, h => by cases n <;> simp [D.flat] at h
  | .scr _, n, h => by cases n <;> simp [D.flat] at h
  | .dict _ _ _, n, h => by cases n <;> simp [D.flat] at h
  | .cache _, n, h => by cases n <;> simp [D.flat] at h
  | .cls _, n, h => by cases n <;> simp [D.flat] at h
theorem flat_layL : ∀ (l : List D) (n : Nat), D.flatL n l = true → PyData.canLayAll0 (D.pyL l) = true ∧ PyData.depthAll (D.pyL l) ≤ n
  | [], n, _ => by simp [D.pyL, PyData.canLayAll0, PyData.depthAll]
  | d :: ds, n, h => by
    rw [D.flatL, Bool.and_eq_true] at h
    obtain ⟨h1, h2⟩ := flat_lay d n h.1
    obtain ⟨h3, h4⟩ := flat_layL ds n h.2
    simp only [D.pyL, PyData.canLayAll0, PyData.depthAll, Bool.and_eq_true]
    exact ⟨⟨h1, h3⟩, by omega⟩
end
theorem flat_shaped {d : D} (h : d.flat 60 = true) : SeqAt.shaped d.py = true := by
  obtain ⟨h1, h2⟩ := flat_lay d 60 h
  show (d.py.canLay0 && decide (d.py.depth ≤ 64)) = true
  rw [Bool.and_eq_true]
  exact ⟨h1, decide_eq_true (by omega)⟩
theorem flatL_shaped {l : List D} (h : D.flatL 60 l = true) : SeqAt.shaped (.list (D.pyL l)) = true := by
  obtain ⟨h1, h2⟩ := flat_layL l 60 h
  show (PyData.canLay0 (.list _) && decide (PyData.depth (.list _) ≤ 64)) = true
  simp only [PyData.canLay0, PyData.depth]
  rw [Bool.and_eq_true]
  exact ⟨h1, decide_eq_true (by omega)⟩
theorem any_pyL (x : D) (n m : Nat) (hx : x.flat m = true) : ∀ (l : List D), D.flatL n l = true → ((D.pyL l).any fun z => PyData.eqv z x.py) = l.any fun y => y.eqv x
  | [], _ => by simp [D.pyL]
  | d :: ds, h => by
    rw [D.flatL, Bool.and_eq_true] at h
    rw [D.pyL, List.any_cons, List.any_cons, eqv_py d x n m h.1 hx, any_pyL x n m hx ds h.2]
section
variable {C : Cfg} {X : Cx} {F : Wd} {H : Hp} {x y : V} {dx dy : D} {Q : VK} {Ex : Ec → Hp → Prop}
abbrev r3Add (X : Cx) : R2 := fun x y H Q => (fun x y H Q => (fun x y H Q => (rI0 fun i j => .int (i + j)) x y H Q ∨ (fun x y H Q => ∃ i j, x = V.str i ∧ y = V.str j ∧ i.length + j.length ≤ sizeLine ∧ Q (.str (i ++ j)) H) x y H Q) x y H Q ∨ rCatA X.K x y H Q) x y H Q ∨ rCat x y H Q
theorem op_add3 : OpR X (binaryOp .Add) (r3Add X) := ((op_add.or op_add_str).or op_catA).or op_cat
theorem wt_add (H0 : Hp) (hf : ∀ p, H p = none → H0 p = none) (f : Fits C F H) (rx : RpB C F H x dx) (ry : RpB C F H y dy) (p : Po C (RpN C H0) F H (addD dx dy) Q Ex) : r3Add X x y H Q := by
  unfold addD at p
  split at p
  · rename_i a b
    exact .inl (.inl (.inl ⟨a, b, rx.notlst rfl, ry.notlst rfl, p.now f rfl⟩))
  · rename_i a b
    split at p
    · rename_i hl
      refine .inl (.inl (.inr ⟨Sx a, Sx b, rx.notlst rfl, ry.notlst rfl, by rw [Sx_len, Sx_len, line_eq]; exact hl, ?_⟩))
      rw [Sx_app]
      exact p.now f rfl
    · exact False.elim p
  · rename_i a b
    split at p
    · rename_i hl
      have rx := rx.notlst rfl
      have ry := ry.notlst rfl
      obtain ⟨p1, xs, rfl, h1, r1⟩ := rx.tup_ f
      obtain ⟨p2, ys, rfl, h2, r2⟩ := ry.tup_ f
      have l1 := r1.len
      have l2 := r2.len
      refine .inl (.inr ⟨p1, p2, xs, ys, rfl, rfl, SqT.of h1, SqT.of h2, by rw [line_eq]; omega, fun e => ?_, fun e1 e2 => ?_, fun e1 e2 q hq => ?_⟩)
      · have : a = [] := List.length_eq_zero_iff.mp (by rw [← l1, e]; rfl)
        subst this
        exact p.now f ry
      · have : b = [] := List.length_eq_zero_iff.mp (by rw [← l2, e2]; rfl)
        subst this
        refine p.now f ?_
        rw [List.append_nil]; exact rx
      · obtain ⟨e, f'⟩ := laid (u := .tup (xs ++ ys)) f hq
        have le := laid_le (u := .tup (xs ++ ys)) f hq
        exact p _ _ _ e f' ⟨q, _, rfl, updW_same, RepL.app (RepL.le le _ _ r1) (RepL.le le _ _ r2)⟩
    · exact False.elim p
  · rename_i a b
    split at p
    · rename_i hl
      obtain ⟨p1, xs, rfl, h1, r1⟩ := rx.lst f
      obtain ⟨p2, ys, rfl, h2, r2⟩ := ry.lst f
      have l1 := r1.len
      have l2 := r2.len
      refine .inr ⟨p1, p2, xs, ys, rfl, rfl, h1, h2, by rw [line_eq]; omega, fun q hq => ?_⟩
      exact p _ _ _ ((Ext.refl F H).fresh hq) (f.fresh hq) ⟨q, _, rfl, hf q hq, f.free hq, upd_same, RepL.app r1 r2⟩
    · exact False.elim p
  · exact False.elim p
theorem wt_sub (H0 : Hp) (f : Fits C F H) (rx : RpB C F H x dx) (ry : RpB C F H y dy) (p : Po C (RpN C H0) F H (subD dx dy) Q Ex) : rI0 (fun i j => .int (i - j)) x y H Q := by
  unfold subD at p
  split at p
  · rename_i a b
    have rx := rx.notlst rfl
    have ry := ry.notlst rfl
    exact ⟨a, b, rx, ry, p.now f rfl⟩
  · exact False.elim p
theorem int_rmul_t1 (a : Int) (t : Tok) (l : Addr) (items : Array Value) (n : Nat) (dd : Option Addr) (sl : Array (Option Value)) (u : Tok) :
    Meets (Builtin.«tuple.__mul__» ⟨[.ref l, .int 1 u], []⟩) (fun _ R s => s.heap.get? l = some { cls := .type "tuple", dict := dd, data := .seq items n, slots := sl } ∧ R (.ok (.ret (.ref l))) s) :=
  .of_wp fun prog w A R s h => by
    obtain ⟨hp, g, d, tk, os⟩ := s
    obtain ⟨hl, h⟩ := h
    have f1 := AutoSeq1.idx_int
    wp_walk using AutoSeq1.wpAny_loadPart' hl
    repeat (first
      | (refine wpAny_ite_false (by decide) ?_; wp_walk using AutoSeq1.wpAny_loadPart' hl)
      | (refine wpAny_ite_true (by simp) ?_; wp_walk using AutoSeq1.wpAny_loadPart' hl))
    exact ⟨_, rfl, h⟩
def rRepT1 (K : PySem.W.Frag) : R2 := fun x y H Q => ∃ l xs, x = .ref l ∧ y = .int 1 ∧ SqT K H l xs ∧ Q (.ref l) H
theorem op_repT1 : OpR X (binaryOp .Mult) (rRepT1 X.K) := by
  intro pins s σ H x y v u Q I rx ry h
  obtain ⟨l, xs, rfl, rfl, hT, q⟩ := h
  cases rx
  obtain ⟨t, rfl⟩ := ry
  obtain ⟨its, r, ⟨⟨cls, dd, data, sl⟩, ho, hc, n, hd⟩, hs⟩ := I.tuple hT
  simp only at hc hd
  subst hc hd
  refine wpAny_binaryOp_repeat_ref (T := "tuple") (U := "int") (by decide) ⟨_, ho, rfl⟩ (fun s' => typeIs_int s' 1 t) noFill_tuple_mul PySem.F.fills_int_mul PySem.F.slot_int_rmul repeat_tuple PySem.F.slot_int_index.lookup
    (call_meets PySem.F.slot_int_rmul (typeIs_int s 1 t) PySem.F.entry_int_rmul (PySem.F.args_int_rmul_2 _ _) (int_rmul_tuple 1 t l its.toArray n dd sl)
      ⟨ho, rfl, ⟨_, ho, rfl⟩, call_meets PySem.F.slot_tuple_mul ⟨_, ho, rfl⟩ PySem.F.entry_tuple_mul (PySem.F.args_tuple_mul_2 _ _) (int_rmul_t1 1 t l its.toArray n dd sl t) ⟨ho, ?_⟩⟩)
  exact ⟨.ref l, H, I, rfl, q⟩
abbrev r3Mul (X : Cx) : R2 := fun x y H Q => (fun x y H Q => rI CMul (fun i j => .int (i * j)) x y H Q ∨ rRepT X.K x y H Q) x y H Q ∨ rRepT1 X.K x y H Q
theorem op_mul3 : OpR X (binaryOp .Mult) (r3Mul X) := (op_mul.or op_repT).or op_repT1
theorem RepL.rep {F : Wd} {l : List D} {xs : List V} (r : RepL C F xs l) : ∀ n : Nat, RepL C F (List.replicate n xs).flatten (List.replicate n l).flatten
  | 0 => rfl
  | n + 1 => by
    rw [List.replicate_succ, List.replicate_succ, List.flatten_cons, List.flatten_cons]
    exact r.app (RepL.rep r n)
theorem wt_mul (H0 : Hp) (f : Fits C F H) (rx : RpB C F H x dx) (ry : RpB C F H y dy) (p : Po C (RpN C H0) F H (mulD dx dy) Q Ex) : r3Mul X x y H Q := by
  unfold mulD at p
  split at p
  · rename_i a b
    have rx := rx.notlst rfl
    have ry := ry.notlst rfl
    split at p
    · rename_i hl
      exact .inl (.inl ⟨a, b, rx, ry, hl.imp (fun z => ⟨by omega, by omega⟩) (fun z => ⟨by omega, by omega⟩), p.now f rfl⟩)
    · exact False.elim p
  · rename_i l b
    have rx := rx.notlst rfl
    have ry := ry.notlst rfl
    split at p
    · rename_i hl
      obtain ⟨h1, h2, h3, h4⟩ := hl
      obtain ⟨q, xs, rfl, hq, r⟩ := rx.tup_ f
      have ry : y = .int b := ry
      by_cases hb : b = 1
      · subst hb
        refine .inr ⟨q, xs, rfl, ry, SqT.of hq, p.now f ?_⟩
        have e : (List.replicate (1 : Int).toNat l).flatten = l := by simp
        rw [e]
        exact rx
      · refine .inl (.inr ⟨q, b, xs, rfl, ry, SqT.of hq, ?_, by omega, h4, by rw [r.len]; exact h2, fun t ht => ?_⟩)
        · intro e
          have := r.len
          rw [e] at this
          simp at this
          omega
        · obtain ⟨e', f'⟩ := laid (u := .tup (List.replicate b.toNat xs).flatten) f ht
          exact p _ _ _ e' f' ⟨t, _, rfl, updW_same, RepL.le (laid_le f ht) _ _ (r.rep _)⟩
    · exact False.elim p
  · exact False.elim p
theorem wt_fdiv (H0 : Hp) (f : Fits C F H) (rx : RpB C F H x dx) (ry : RpB C F H y dy) (p : Po C (RpN C H0) F H (fdivD dx dy) Q Ex) : rI CDiv (fun i j => .int (i / j)) x y H Q := by
  unfold fdivD at p
  split at p
  · rename_i a b
    have rx := rx.notlst rfl
    have ry := ry.notlst rfl
    split at p
    · rename_i hl
      exact ⟨a, b, rx, ry, hl, p.now f rfl⟩
    · exact False.elim p
  · exact False.elim p
theorem wt_mod (H0 : Hp) (f : Fits C F H) (rx : RpB C F H x dx) (ry : RpB C F H y dy) (p : Po C (RpN C H0) F H (modD dx dy) Q Ex) : rI (fun _ j => 0 < j) (fun i j => .int (i % j)) x y H Q := by
  unfold modD at p
  split at p
  · rename_i a b
    have rx := rx.notlst rfl
    have ry := ry.notlst rfl
    split at p
    · rename_i hl
      exact ⟨a, b, rx, ry, hl, p.now f rfl⟩
    · exact False.elim p
  · exact False.elim p
theorem wt_pow (H0 : Hp) (f : Fits C F H) (rx : RpB C F H x dx) (ry : RpB C F H y dy) (p : Po C (RpN C H0) F H (powD dx dy) Q Ex) : rI CPow (fun i j => .int (i ^ j.toNat)) x y H Q := by
  unfold powD at p
  split at p
  · rename_i a b
    have rx := rx.notlst rfl
    have ry := ry.notlst rfl
    split at p
    · rename_i hl
      exact ⟨a, b, rx, ry, ⟨hl.1, hl.2.1, by omega⟩, p.now f rfl⟩
    · exact False.elim p
  · exact False.elim p
theorem wt_shr (H0 : Hp) (f : Fits C F H) (rx : RpB C F H x dx) (ry : RpB C F H y dy) (p : Po C (RpN C H0) F H (shrD dx dy) Q Ex) : rI (fun _ j => 0 ≤ j) (fun i j => .int (i / 2 ^ j.toNat)) x y H Q := by
  unfold shrD at p
  split at p
  · rename_i a b
    have rx := rx.notlst rfl
    have ry := ry.notlst rfl
    split at p
    · rename_i hl
      exact ⟨a, b, rx, ry, hl, p.now f rfl⟩
    · exact False.elim p
  · exact False.elim p
abbrev rEqB : R2 := fun x y H Q => ∃ c b : Array UInt8, x = .byt c ∧ y = .byt b ∧ Q (.bl (decide (c = b))) H
abbrev rNeB : R2 := fun x y H Q => ∃ c b : Array UInt8, x = .byt c ∧ y = .byt b ∧ Q (.bl (!decide (c = b))) H
theorem op_eqB : OpR X (compareOp .Eq) rEqB := fun pins s σ H x y v u Q I rx ry ⟨c, b, e1, e2, q⟩ => by
  subst e1 e2
  refine op_eq pins s σ H _ _ v u Q I rx ry ⟨rfl, ?_⟩
  have e : decide (V.byt c = V.byt b) = decide (c = b) := by by_cases z : c = b <;> simp [z]
  rw [e]; exact q
theorem op_neB : OpR X (compareOp .NotEq) rNeB := fun pins s σ H x y v u Q I rx ry ⟨c, b, e1, e2, q⟩ => by
  subst e1 e2
  refine op_ne pins s σ H _ _ v u Q I rx ry ⟨rfl, ?_⟩
  have e : decide (V.byt c = V.byt b) = decide (c = b) := by by_cases z : c = b <;> simp [z]
  rw [e]; exact q
abbrev r2Eq (X : Cx) : R2 := fun x y H Q => rEqD X.K x y H Q ∨ rEqB x y H Q
abbrev r2Ne (X : Cx) : R2 := fun x y H Q => rNeD X.K x y H Q ∨ rNeB x y H Q
theorem byt_dec (s t : List UInt8) : decide (s.toArray = t.toArray) = (s == t) := by
  by_cases e : s = t
  · subst e; simp
  · have : s.toArray ≠ t.toArray := fun z => e (by simpa using z)
    rw [decide_eq_false this, beq_eq_false_iff_ne.mpr e]
theorem wt_eq (f : Fits C F H) (rx : RpB C F H x dx) (ry : RpB C F H y dy) (p : Po C RpT F H (eqD dx dy) (fun k H' => Q (.bl k) H') Ex) : r2Eq X x y H Q := by
  unfold eqD at p
  split at p
  · rename_i h
    rw [Bool.and_eq_true] at h
    refine .inl ⟨dx.py, dy.py, rx.dp f h.1, ry.dp f h.2, flat_shaped h.1, flat_shaped h.2, ?_⟩
    rw [eqv_py _ _ _ _ h.1 h.2]
    exact p.now f rfl
  · split at p
    · refine .inr ⟨_, _, rx.notlst rfl, ry.notlst rfl, ?_⟩
      rw [byt_dec]
      exact p.now f rfl
    · exact p.elim
theorem wt_ne (f : Fits C F H) (rx : RpB C F H x dx) (ry : RpB C F H y dy) (p : Po C RpT F H ((eqD dx dy).bind fun c => .ok (!c)) (fun k H' => Q (.bl k) H') Ex) : r2Ne X x y H Q := by
  unfold eqD at p
  split at p
  · rename_i h
    rw [Bool.and_eq_true] at h
    refine .inl ⟨dx.py, dy.py, rx.dp f h.1, ry.dp f h.2, flat_shaped h.1, flat_shaped h.2, ?_⟩
    rw [eqv_py _ _ _ _ h.1 h.2]
    exact p.now f rfl
  · split at p
    · refine .inr ⟨_, _, rx.notlst rfl, ry.notlst rfl, ?_⟩
      rw [byt_dec]
      exact p.now f rfl
    · exact p.elim
abbrev r2Lt : R2 := fun x y H Q => (rI0 fun i j => .bl (decide (i < j))) x y H Q ∨ (fun x y H Q => ∃ i j, x = V.str i ∧ y = V.str j ∧ Q (.bl (decide (i.cps.toList < j.cps.toList))) H) x y H Q
abbrev r2Gt : R2 := fun x y H Q => (rI0 fun i j => .bl (decide (j < i))) x y H Q ∨ (fun x y H Q => ∃ i j, x = V.str i ∧ y = V.str j ∧ Q (.bl (decide (j.cps.toList < i.cps.toList))) H) x y H Q
abbrev r2Le : R2 := fun x y H Q => (rI0 fun i j => .bl (decide (i ≤ j))) x y H Q ∨ (fun x y H Q => ∃ i j, x = V.str i ∧ y = V.str j ∧ Q (.bl (!decide (j.cps.toList < i.cps.toList))) H) x y H Q
abbrev r2Ge : R2 := fun x y H Q => (rI0 fun i j => .bl (decide (j ≤ i))) x y H Q ∨ (fun x y H Q => ∃ i j, x = V.str i ∧ y = V.str j ∧ Q (.bl (!decide (i.cps.toList < j.cps.toList))) H) x y H Q
theorem op_lt2 : OpR X (compareOp .Lt) r2Lt := op_lt.or op_lt_str
theorem op_gt2 : OpR X (compareOp .Gt) r2Gt := op_gt.or op_gt_str
theorem op_le2 : OpR X (compareOp .LtE) r2Le := op_le.or op_le_str
theorem op_ge2 : OpR X (compareOp .GtE) r2Ge := op_ge.or op_ge_str
end
end G
namespace G
open PySem L2
mutual
theorem hk_depth : ∀ (d : D) (n : Nat), d.hk n = true → d.nk.depth ≤ n
  | .non, n, _ => by simp [D.nk, NestedKey.depth]
  | .bl _, n, _ => by simp [D.nk, NestedKey.depth]
  | .int _, n, _ => by simp [D.nk, NestedKey.depth]
  | .str _, n, _ => by simp [D.nk, NestedKey.depth]
  | .tup l, 0, h => by simp [D.hk] at h
  | .tup l, n + 1, h => by
    have := hk_depthL l n (by simpa [D.hk] using h)
    simp only [D.nk, NestedKey.depth]
    omega
  | .byt _, n, h => by cases n <;> simp [D.hk] at h
  | .lst _, n, h => by cases n <;> simp [D.hk] at h
  | .obj _ _, n, h => by cases n <;> simp [D.hk] at h
  | .scr _, n, h => by cases n <;> simp [D.hk] at h
  | .dict _ _ _, n, h => by cases n <;> simp [D.hk] at h
  | .cache _, n, h => by cases n <;> simp [D.hk] at h
  | .cls _, n, h => by cases n <;> simp [D.hk] at h
theorem hk_depthL : ∀ (l : List D) (n : Nat), D.hkL n l = true → NestedKey.depthAll (D.nkL l) ≤ n
  | [], n, _ => by simp [D.nkL, NestedKey.depthAll]
  | d :: ds, n, h => by
    rw [D.hkL, Bool.and_eq_true] at h
    have h1 := hk_depth d n h.1
    have h2 := hk_depthL ds n h.2
    simp only [D.nkL, NestedKey.depthAll]
    omega
end
section
variable {C : Cfg} {F : Wd} {H : Hp} {P : Program} {w : World} {h : Heap}
mutual
theorem Rep.nested (ok : HOk P w H h) (f : Fits C F H) : ∀ (d : D) (n : Nat) (v : V) (u : Value), Rep C F v d → d.hk n = true → RelV v u → NestedIs h d.nk u
  | .non, n, v, u, q, _, r => by
    rw [show v = _ from q] at r
    rw [show u = _ from r]
    exact .none
  | .bl b, n, v, u, q, _, r => by
    rw [show v = _ from q] at r
    rw [show u = _ from r]
    exact .bool rfl
  | .int i, n, v, u, q, _, r => by
    rw [show v = _ from q] at r
    obtain ⟨t, rfl⟩ := r
    exact .int _ _
  | .str s, n, v, u, q, _, r => by
    rw [show v = _ from q] at r
    obtain ⟨t, rfl⟩ := r
    exact .text _ _
  | .tup l, 0, v, u, q, h, r => by simp [D.hk] at h
  | .tup l, n + 1, v, u, q, h, r => by
    obtain ⟨a, xs, rfl, e, rl⟩ := q
    rw [show u = _ from r]
    obtain ⟨_, its, rs, ob, h1, h2, m, h3⟩ := (show ObjOk P w H _ a (.tup xs) from ok a _ (f a _ e))
    exact .tup h1 h2 h3 (by simpa using RepL.nested ok f l n xs its rl (by simpa [D.hk] using h) rs)
  | .byt _, n, v, u, q, h, r => by cases n <;> simp [D.hk] at h
  | .lst _, n, v, u, q, h, r => by cases n <;> simp [D.hk] at h
  | .obj _ _, n, v, u, q, h, r => by cases n <;> simp [D.hk] at h
  | .scr _, n, v, u, q, h, r => by cases n <;> simp [D.hk] at h
  | .dict _ _ _, n, v, u, q, h, r => by cases n <;> simp [D.hk] at h
  | .cache _, n, v, u, q, h, r => by cases n <;> simp [D.hk] at h
  | .cls _, n, v, u, q, h, r => by cases n <;> simp [D.hk] at h
theorem RepL.nested (ok : HOk P w H h) (f : Fits C F H) : ∀ (l : List D) (n : Nat) (vs : List V) (us : List Value), RepL C F vs l → D.hkL n l = true → Vals vs us → NestedAll h (D.nkL l) us
  | [], n, vs, us, q, _, r => by
    rw [show vs = [] from q] at r
    cases r
    exact .nil
  | d :: ds, n, vs, us, q, h, r => by
    obtain ⟨v, r', rfl, q1, q2⟩ := q
    rw [D.hkL, Bool.and_eq_true] at h
    cases r with
    | cons r1 r2 => exact .cons (Rep.nested ok f d n v _ q1 h.1 r1) (RepL.nested ok f ds n r' _ q2 h.2 r2)
end
end
theorem nkL_len : ∀ l : List D, (D.nkL l).length = l.length
  | [] => rfl
  | d :: ds => by simp [D.nkL, nkL_len ds]
theorem nkL_map : ∀ l : List D, D.nkL l = l.map D.nk
  | [] => rfl
  | d :: ds => by simp [D.nkL, nkL_map ds]
theorem dGet_rel {C : Cfg} {F : Wd} : ∀ {ks : List D} {xs : List V} {vs : List D} (x : D), RepL C F xs vs → (dGet ks vs x = none → dGet ks xs x = none) ∧ ∀ d, dGet ks vs x = some d → ∃ v, dGet ks xs x = some v ∧ Rep C F v d
  | [], xs, vs, x, _ => ⟨fun _ => rfl, fun d h => (by cases h)⟩
  | k :: ks, xs, [], x, r => by
    rw [show xs = [] from r]
    exact ⟨fun _ => rfl, fun d h => (by cases h)⟩
  | k :: ks, xs, v :: vs, x, r => by
    obtain ⟨u, r', rfl, r1, r2⟩ := r
    unfold dGet
    by_cases e : k.nk = x.nk
    · rw [if_pos e, if_pos e]
      exact ⟨fun h => (by cases h), fun d h => (by cases h; exact ⟨u, rfl, r1⟩)⟩
    · rw [if_neg e, if_neg e]
      exact dGet_rel x r2
theorem dHas_get {α : Type} : ∀ {ks : List D} {xs : List α} (x : D), ks.length = xs.length → (dGet ks xs x).isSome = dHas ks x
  | [], [], x, _ => rfl
  | [], _ :: _, x, h => by cases h
  | _ :: _, [], x, h => by cases h
  | k :: ks, v :: xs, x, h => by
    have ih := dHas_get (ks := ks) (xs := xs) x (by simpa using h)
    unfold dHas at ih ⊢
    unfold dGet
    rw [List.any_cons]
    by_cases e : k.nk = x.nk
    · rw [if_pos e]; simp [e]
    · rw [if_neg e, ih]; simp [e]
theorem dPut_len {α : Type} : ∀ {ks : List D} {xs : List α} (x : D) (y : α), ks.length = xs.length → (dPut ks xs x y).length = xs.length
  | [], [], x, y, _ => rfl
  | [], _ :: _, x, y, h => by cases h
  | _ :: _, [], x, y, h => by cases h
  | k :: ks, v :: xs, x, y, h => by
    unfold dPut
    rw [List.length_cons, List.length_cons, dPut_len x y (by simpa using h)]
theorem dPut_rel {C : Cfg} {F : Wd} {v : V} {d : D} (rv : Rep C F v d) : ∀ {ks : List D} {xs : List V} {vs : List D} (x : D), RepL C F xs vs → ks.length = vs.length → RepL C F (dPut ks xs x v) (dPut ks vs x d)
  | [], xs, [], x, r, _ => by unfold dPut; rfl
  | [], xs, _ :: _, x, r, h => by cases h
  | k :: ks, xs, [], x, r, h => by cases h
  | k :: ks, xs, v0 :: vs, x, r, h => by
    obtain ⟨u, r', rfl, r1, r2⟩ := r
    unfold dPut
    by_cases e : k.nk = x.nk
    · rw [if_pos e, if_pos e]; exact ⟨_, _, rfl, rv, dPut_rel rv x r2 (by simpa using h)⟩
    · rw [if_neg e, if_neg e]; exact ⟨_, _, rfl, r1, dPut_rel rv x r2 (by simpa using h)⟩
theorem kk_nk {d : D} {k : Key} (h : d.kk = some k) : d.nk = (match k with | .inl i => .num i | .inr s => .text s) := by
  cases d <;> cases h <;> rfl
theorem kk_iff {d e : D} {k j : Key} (h : d.kk = some k) (h' : e.kk = some j) : k = j ↔ d.nk = e.nk := by
  rw [kk_nk h, kk_nk h']
  cases k <;> cases j <;> simp
theorem kk_len : ∀ {ks : List D}, ks.all (D.isKey true) = true → (ks.filterMap D.kk).length = ks.length
  | [], _ => rfl
  | d :: ds, h => by
    rw [List.all_cons, Bool.and_eq_true] at h
    have h1 : d.kk.isSome = true := h.1
    obtain ⟨k, hk⟩ := Option.isSome_iff_exists.mp h1
    rw [List.filterMap_cons_some hk, List.length_cons, List.length_cons, kk_len h.2]
theorem kk_get {x : D} {j : Key} (hx : x.kk = some j) : ∀ {ks : List D} {xs : List V}, ks.all (D.isKey true) = true → ks.length = xs.length → valV ((ks.filterMap D.kk).zip xs) j = dGet ks xs x
  | [], [], _, _ => rfl
  | [], _ :: _, _, h => by cases h
  | _ :: _, [], _, h => by cases h
  | d :: ds, v :: vs, h, hl => by
    rw [List.all_cons, Bool.and_eq_true] at h
    have h1 : d.kk.isSome = true := h.1
    obtain ⟨k, hk⟩ := Option.isSome_iff_exists.mp h1
    rw [List.filterMap_cons_some hk, List.zip_cons_cons]
    unfold dGet
    by_cases e : k = j
    · rw [valV_pos (p := (k, v)) e, if_pos ((kk_iff hk hx).mp e)]
    · rw [valV_neg (p := (k, v)) e, if_neg (fun z => e ((kk_iff hk hx).mpr z))]
      exact kk_get hx h.2 (by simpa using hl)
theorem kk_repl {x : D} {j : Key} {y : V} (hx : x.kk = some j) : ∀ {ks : List D} {xs : List V}, ks.all (D.isKey true) = true → ks.length = xs.length →
    (((ks.filterMap D.kk).zip xs).map fun kv => if kv.1 = j then (kv.1, y) else kv) = ((ks.filterMap D.kk).zip (dPut ks xs x y))
  | [], [], _, _ => rfl
  | [], _ :: _, _, h => by cases h
  | _ :: _, [], _, h => by cases h
  | d :: ds, v :: vs, h, hl => by
    rw [List.all_cons, Bool.and_eq_true] at h
    have h1 : d.kk.isSome = true := h.1
    obtain ⟨k, hk⟩ := Option.isSome_iff_exists.mp h1
    unfold dPut
    rw [List.filterMap_cons_some hk, List.zip_cons_cons, List.zip_cons_cons, List.map_cons, kk_repl hx h.2 (by simpa using hl)]
    by_cases e : k = j
    · rw [if_pos ((kk_iff hk hx).mp e)]; simp [e]
    · rw [if_neg (fun z => e ((kk_iff hk hx).mpr z))]; simp [e]
theorem kk_put {x : D} {j : Key} {y : V} (hx : x.kk = some j) {ks : List D} {xs : List V} (h : ks.all (D.isKey true) = true) (hl : ks.length = xs.length) :
    putK ((ks.filterMap D.kk).zip xs) j y = if dHas ks x then ((ks.filterMap D.kk).zip (dPut ks xs x y)) else (((ks ++ [x]).filterMap D.kk).zip (xs ++ [y])) := by
  have e : (((ks.filterMap D.kk).zip xs).any fun kv => decide (kv.1 = j)) = dHas ks x := by rw [valV_any, kk_get hx h hl, dHas_get x hl]
  unfold putK
  rw [e]
  cases hd : dHas ks x with
  | true => rw [if_pos rfl, if_pos rfl, kk_repl hx h hl]
  | false =>
    rw [if_neg Bool.false_ne_true, if_neg Bool.false_ne_true, List.filterMap_append, List.filterMap_cons_some hx, List.filterMap_nil, List.zip_append (by rw [kk_len h, hl])]
    rfl
section
variable {C : Cfg} {F : Wd} {H : Hp} {h : Heap} {a : Addr} {ks vs : List D} {kas : List Addr} {xs : List V} {po : Option Obj}
theorem zip3 {α β γ : Type} : ∀ {l : List α} {m : List β} {n : List γ}, l.length = m.length → m.length = n.length → (l.zip (m.zip n)).map (·.1) = l ∧ (l.zip (m.zip n)).map (·.2.1) = m ∧ (l.zip (m.zip n)).map (·.2.2) = n
  | [], [], [], _, _ => ⟨rfl, rfl, rfl⟩
  | x :: l, y :: m, z :: n, h1, h2 => by
    obtain ⟨e1, e2, e3⟩ := zip3 (l := l) (m := m) (n := n) (by simpa using h1) (by simpa using h2)
    simp [List.zip_cons_cons, e1, e2, e3]
  | [], _ :: _, _, h1, _ => by cases h1
  | _ :: _, [], _, h1, _ => by cases h1
  | [], [], _ :: _, _, h2 => by cases h2
  | _ :: _, _ :: _, [], _, h2 => by cases h2
structure View (P : Program) (w : World) (h : Heap) (a : Addr) (ks : List D) (kas : List Addr) (xs : List V) (zs : List (NestedKey × Addr × Value)) : Prop where
  k1 : zs.map (·.1) = D.nkL ks
  k2 : zs.map (·.2.1) = kas
  k3 : Vals xs (zs.map (·.2.2))
  sys : (a == sysModules) = false
  sz : ks.length ≤ sizeLine
  dd : h.DictOfH (nestedKind P w) a zs
theorem paired3 {kvs : List (NestedKey × Addr × V)} {zs : List (NestedKey × Addr × Value)} (r : Paired (fun (p : NestedKey × Addr × V) (q : NestedKey × Addr × Value) => p.1 = q.1 ∧ p.2.1 = q.2.1 ∧ RelV p.2.2 q.2.2) kvs zs) :
    zs.map (·.1) = kvs.map (·.1) ∧ zs.map (·.2.1) = kvs.map (·.2.1) ∧ Vals (kvs.map (·.2.2)) (zs.map (·.2.2)) := by
  induction r with
  | nil => exact ⟨rfl, rfl, .nil⟩
  | cons h t ih =>
    obtain ⟨h1, h2, h3⟩ := h
    obtain ⟨i1, i2, i3⟩ := ih
    simp only [List.map_cons]
    exact ⟨by rw [i1, h1], by rw [i2, h2], .cons h3 i3⟩
theorem keys_ok {P : Program} {w : World} (ok : HOk P w H h) (f : Fits C F H) : ∀ {ks : List D} {kas : List Addr} {zs : List (NestedKey × Addr × Value)}, ks.all (D.isKey false) = true → RepL C F (kas.map V.ref) ks → zs.map (·.1) = D.nkL ks → zs.map (·.2.1) = kas →
    ∀ z ∈ zs, (nestedKind P w).is h z.1 z.2.1
  | _, _, [], _, _, _, _ => fun z hz => nomatch hz
  | [], _, z :: zs, _, _, k1, _ => by cases k1
  | d :: ds, [], z :: zs, _, _, _, k2 => by cases k2
  | d :: ds, b :: kas, z :: zs, ha, r, k1, k2 => by
    obtain ⟨v, r', e, r1, r2⟩ := r
    rw [List.map_cons] at e
    injection e with e1 e2
    subst e1 e2
    rw [List.map_cons] at k1 k2
    rw [D.nkL] at k1
    injection k1 with k1 k1'
    injection k2 with k2 k2'
    rw [List.all_cons, Bool.and_eq_true] at ha
    have hd : (d.isTup && d.hk 8) = true := ha.1
    rw [Bool.and_eq_true] at hd
    intro y hy
    rcases List.mem_cons.mp hy with rfl | hy
    · rw [k1, k2]
      exact ⟨Rep.nested ok f d 8 _ _ r1 hd.2 rfl, hk_depth d 8 hd.2⟩
    · exact keys_ok ok f ha.2 r2 k1' k2' y hy
theorem view_of {P : Program} {w : World} (hP : P = C.P) (hw : w = C.w) (ok : HOk P w H h) (f : Fits C F H) (e : H a = some (dictO C a false ks kas xs po)) (d : DOk C F false ks kas xs vs) : ∃ zs, View P w h a ks kas xs zs := by
  obtain ⟨d1, d2, d3, d4, d5⟩ := d
  have e' : H a = some (.ext (NdP po a (NdOk P w a ((D.nkL ks).zip (kas.zip xs))))) := by rw [hP, hw]; exact e
  have q0 : NdOk P w a ((D.nkL ks).zip (kas.zip xs)) h := by
    have q := (show ObjOk P w H h a (.ext _) from ok a _ e').1
    cases po with
    | none => exact q
    | some o => exact q.2
  obtain ⟨hs, hl, hn, zs, r, o, es, ep, h1, h2, h3, h4⟩ := q0
  have lx : xs.length = vs.length := d5.len
  obtain ⟨z1, z2, z3⟩ := zip3 (l := D.nkL ks) (m := kas) (n := xs) (by rw [nkL_len, d2]) (by omega)
  obtain ⟨p1, p2, p3⟩ := paired3 r
  rw [z1] at p1 hn
  rw [z2] at p2
  rw [z3] at p3
  refine ⟨zs, p1, p2, p3, hs, ?_, o, es, ep, h1, h2, h3, h4, keys_ok ok f d1 (d4 rfl) p1 p2, by rw [p1]; exact hn⟩
  rw [List.length_zip, List.length_zip, nkL_len] at hl
  omega
theorem View.get {zs : List (NestedKey × Addr × Value)} (x : D) : ∀ {ks : List D} {xs : List V} {zs : List (NestedKey × Addr × Value)}, zs.map (·.1) = D.nkL ks → Vals xs (zs.map (·.2.2)) → RelO (dGet ks xs x) ((atKey zs x.nk).map (·.2))
  | [], xs, [], _, r => by
    have : xs = [] := by cases r; rfl
    subst this
    exact True.intro
  | [], _, z :: zs, h, _ => by cases h
  | _ :: _, _, [], h, _ => by cases h
  | k :: ks, [], z :: zs, _, r => by cases r
  | k :: ks, v :: xs, z :: zs, h, r => by
    rw [List.map_cons, D.nkL] at h
    injection h with h1 h2
    cases r with
    | cons r1 r2 =>
      unfold dGet
      by_cases e : k.nk = x.nk
      · have e' : z.1 = x.nk := h1.trans e
        have b : atKey (z :: zs) x.nk = some z.2 := by simp [atKey, List.find?_cons, e']
        rw [if_pos e, b]
        exact r1
      · have e' : ¬ z.1 = x.nk := fun q => e (h1.symm.trans q)
        have b : atKey (z :: zs) x.nk = atKey zs x.nk := by simp [atKey, List.find?_cons, e']
        rw [if_neg e, b]
        exact View.get (zs := zs) x h2 r2
end
theorem Rep.kv {C : Cfg} {F : Wd} {v : V} {d : D} {k : Key} (r : Rep C F v d) (h : d.kk = some k) : v = kV k := by
  cases d <;> cases h <;> exact r
theorem isKey_t {d : D} (h : d.isKey true = true) : ∃ k, d.kk = some k := Option.isSome_iff_exists.mp h
theorem isKey_f {C : Cfg} {F : Wd} {v : V} {d : D} (r : Rep C F v d) (h : d.isKey false = true) : d.hk 8 = true ∧ ∃ b, v = .ref b := by
  have h : (d.isTup && d.hk 8) = true := h
  rw [Bool.and_eq_true] at h
  refine ⟨h.2, ?_⟩
  cases d <;> first | (cases h.1; done) | (obtain ⟨b, _, e, _⟩ := r; exact ⟨b, e⟩)
section
variable {C : Cfg} {N : List Str} {sc : Scope} {top : Bool} {X : Cx} {pins : List (Addr × Obj)} {σ : L2.St} {F : Wd} {H : Hp} {s : Shared} {a : Addr} {k : Bool} {ks vs : List D} {kas : List Addr} {xs : List V} {dx dy : D} {x y : V} {u w : Value} {A : Around} {E : Value → Shared → Prop} {po : Option Obj}
theorem View.size {P : Program} {w : World} {h : Heap} {zs : List (NestedKey × Addr × Value)} (v : View P w h a ks kas xs zs) : zs.length = ks.length := by
  rw [← nkL_len ks, ← v.k1, List.length_map]
theorem d2_in (hP : X.prog = C.P) (hw : X.w = C.w) {Q : Value → Shared → Prop} (hu : A.units + 9 < cLine) (I : Inv X pins σ H s) (f : Fits C F H) (e : H a = some (dictO C a k ks kas xs po)) (d : DOk C F k ks kas xs vs) (r : Rep C F x dx) (hk : dx.isKey k = true) (rx : RelV x u)
    (h : ∀ s', Inv X pins σ H s' → Q (.bool (dHas ks dx)) s') : wpAny (model X.prog X.w) A (compareOp .In u (.ref a)) Q E s := by
  have hl : ks.length = xs.length := by rw [d.2.2.1, d.2.2.2.2.len]
  cases k with
  | true =>
    obtain ⟨j, hj⟩ := isKey_t hk
    refine d_in (by omega) I (DGet.k (k := j) e) (by rw [← r.kv hj]; exact rx) fun s' I' => ?_
    rw [kk_get hj d.1 hl, dHas_get dx hl]
    exact h s' I'
  | false =>
    obtain ⟨hd, b, rfl⟩ := isKey_f r hk
    cases rx
    obtain ⟨zs, v⟩ := view_of hP hw I.hok f e d
    refine wpAny_in_heap (knd := nestedKind X.prog X.w) (k := dx.nk) (show A.in1.units + 8 < cLine by rw [Around.in1_units]; omega) ⟨Rep.nested I.hok f dx 8 _ _ r hd rfl, hk_depth _ _ hd⟩ v.sys v.dd ?_
    have e2 := (View.get (zs := zs) dx v.k1 v.k3).isSome_eq
    rw [Option.isSome_map] at e2
    rw [← e2, dHas_get dx hl]
    exact h _ (I.tok _)
theorem d2_notIn (hP : X.prog = C.P) (hw : X.w = C.w) {Q : Value → Shared → Prop} (hu : A.units + 9 < cLine) (I : Inv X pins σ H s) (f : Fits C F H) (e : H a = some (dictO C a k ks kas xs po)) (d : DOk C F k ks kas xs vs) (r : Rep C F x dx) (hk : dx.isKey k = true) (rx : RelV x u)
    (h : ∀ s', Inv X pins σ H s' → Q (.bool (!dHas ks dx)) s') : wpAny (model X.prog X.w) A (compareOp .NotIn u (.ref a)) Q E s := by
  have hl : ks.length = xs.length := by rw [d.2.2.1, d.2.2.2.2.len]
  cases k with
  | true =>
    obtain ⟨j, hj⟩ := isKey_t hk
    refine d_notIn (by omega) I (DGet.k (k := j) e) (by rw [← r.kv hj]; exact rx) fun s' I' => ?_
    rw [kk_get hj d.1 hl, dHas_get dx hl]
    exact h s' I'
  | false =>
    obtain ⟨hd, b, rfl⟩ := isKey_f r hk
    cases rx
    obtain ⟨zs, v⟩ := view_of hP hw I.hok f e d
    refine PyProof.Rows.wpAny_notIn_heap (knd := nestedKind X.prog X.w) (k := dx.nk) (show A.in1.units + 8 < cLine by rw [Around.in1_units]; omega) ⟨Rep.nested I.hok f dx 8 _ _ r hd rfl, hk_depth _ _ hd⟩ v.sys v.dd ?_
    have e2 := (View.get (zs := zs) dx v.k1 v.k3).isSome_eq
    rw [Option.isSome_map] at e2
    rw [← e2, dHas_get dx hl]
    exact h _ (I.tok _)
theorem d2_get (hP : X.prog = C.P) (hw : X.w = C.w) {Q : Value → Shared → Prop} (hu : A.units + 9 < cLine) (I : Inv X pins σ H s) (f : Fits C F H) (e : H a = some (dictO C a k ks kas xs po)) (d : DOk C F k ks kas xs vs) (r : Rep C F x dx) (hk : dx.isKey k = true) (rx : RelV x u) (hg : dGet ks vs dx = some dy)
    (h : ∀ v w' s', Inv X pins σ H s' → Rep C F v dy → RelV v w' → Q w' s') : wpAny (model X.prog X.w) A (getItem (.ref a) u) Q E s := by
  have hl : ks.length = xs.length := by rw [d.2.2.1, d.2.2.2.2.len]
  obtain ⟨v, hv, rv⟩ := (dGet_rel (ks := ks) dx d.2.2.2.2).2 dy hg
  cases k with
  | true =>
    obtain ⟨j, hj⟩ := isKey_t hk
    exact d_getItem (v := v) (by omega) I (by rw [← hv, ← kk_get hj d.1 hl]; exact DGet.k (k := j) e) (by rw [← r.kv hj]; exact rx) fun w' s' I' rw' => h v w' s' I' rv rw'
  | false =>
    obtain ⟨hd, b, rfl⟩ := isKey_f r hk
    cases rx
    obtain ⟨zs, vw⟩ := view_of hP hw I.hok f e d
    have e2 := View.get (zs := zs) dx vw.k1 vw.k3
    rw [hv] at e2
    obtain ⟨w', hw', rw'⟩ := RelO.some_of (v := v) (o := (atKey zs dx.nk).map (·.2)) e2
    obtain ⟨p, hp, hp2⟩ := Option.map_eq_some_iff.mp hw'
    refine wpAny_getItem_heap (knd := nestedKind X.prog X.w) (k := dx.nk) (show A.in1.units + 8 < cLine by rw [Around.in1_units]; omega) ⟨Rep.nested I.hok f dx 8 _ _ r hd rfl, hk_depth _ _ hd⟩ vw.dd hp ?_
    rw [hp2]
    exact h v w' _ (I.tok _) rv rw'
theorem d2_get2 (hP : X.prog = C.P) (hw : X.w = C.w) {Q : Value → Shared → Prop} (hu : A.units + 9 < cLine) (I : Inv X pins σ H s) (f : Fits C F H) (e : H a = some (dictO C a k ks kas xs po)) (d : DOk C F k ks kas xs vs) (r : Rep C F x dx) (hk : dx.isKey k = true) (rx : RelV x u) (ry : Rep C F y dy) (rr : RelV y w)
    (h : ∀ v w' s', Inv X pins σ H s' → Rep C F v ((dGet ks vs dx).getD dy) → RelV v w' → Q w' s') : wpAny (model X.prog X.w) A (call (.builtin "dict.get") [.ref a, u, w]) Q E s := by
  have hl : ks.length = xs.length := by rw [d.2.2.1, d.2.2.2.2.len]
  have hrep : Rep C F ((dGet ks xs dx).getD y) ((dGet ks vs dx).getD dy) := by
    have g := dGet_rel (ks := ks) dx d.2.2.2.2
    cases hg : dGet ks vs dx with
    | none => rw [g.1 hg]; exact ry
    | some dz =>
      obtain ⟨v, hv, rv⟩ := g.2 dz hg
      rw [hv]
      exact rv
  cases k with
  | true =>
    obtain ⟨j, hj⟩ := isKey_t hk
    refine L2.d_get2 (by omega) I (DGet.k (k := j) e) (by rw [← r.kv hj]; exact rx) rr fun w' s' I' rw' => ?_
    rw [kk_get hj d.1 hl] at rw'
    exact h _ w' s' I' hrep rw'
  | false =>
    obtain ⟨hd, b, rfl⟩ := isKey_f r hk
    cases rx
    obtain ⟨zs, vw⟩ := view_of hP hw I.hok f e d
    have e2 := View.get (zs := zs) dx vw.k1 vw.k3
    refine call_meetsIn PySem.F.slot_dict_get vw.dd.typeIs PySem.F.entry_dict_get (PySem.F.args_dict_get_3 _ _ _) (meetsH_dict_get_default (nestedKind X.prog X.w) a b vw.sys w)
      ⟨show A.in1.units + 8 < cLine by rw [Around.in1_units]; omega, dx.nk, zs, ⟨Rep.nested I.hok f dx 8 _ _ r hd rfl, hk_depth _ _ hd⟩, vw.dd, h _ _ _ (I.tok _) hrep (e2.getD rr)⟩
theorem NdOk.stay {P : Program} {w : World} {kvs : List (NestedKey × Addr × V)} : ∀ h1 h2 : Heap, NdOk P w a kvs h1 → (∀ o, h1.get? a = some o → h2.get? a = some o) → NdOk P w a kvs h2 :=
  fun h1 h2 ⟨q1, q2, q3, xs, r, o, es, ep, e, c⟩ k => ⟨q1, q2, q3, xs, r, o, es, ep, k _ e, c⟩
theorem paired3_inv : ∀ {l : List NestedKey} {m : List Addr} {n : List V} {zs : List (NestedKey × Addr × Value)}, zs.map (·.1) = l → zs.map (·.2.1) = m → Vals n (zs.map (·.2.2)) →
    Paired (fun (p : NestedKey × Addr × V) (q : NestedKey × Addr × Value) => p.1 = q.1 ∧ p.2.1 = q.2.1 ∧ RelV p.2.2 q.2.2) (l.zip (m.zip n)) zs
  | _, _, n, [], h1, h2, r => by
    subst h1 h2
    cases r
    exact .nil
  | _, _, n, z :: zs, h1, h2, r => by
    subst h1 h2
    cases r with
    | cons r1 r2 => exact .cons ⟨rfl, rfl, r1⟩ (paired3_inv rfl rfl r2)
theorem nd_new {P : Program} {w0 : World} (hP : P = C.P) (hw : w0 = C.w) {H' : Hp} {h' : Heap} {zs : List (NestedKey × Addr × Value)} (k1 : zs.map (·.1) = D.nkL ks) (k2 : zs.map (·.2.1) = kas) (k3 : Vals xs (zs.map (·.2.2))) (hs : (a == sysModules) = false) (hl : ks.length ≤ sizeLine) (dd : h'.DictOfH (nestedKind P w0) a zs) :
    ObjOk P w0 H' h' a (dictO C a false ks kas xs) := by
  subst hP hw
  obtain ⟨o, es, ep, h1, h2, h3, h4, _, h5⟩ := dd
  have lz : zs.length = ks.length := by rw [← nkL_len ks, ← k1, List.length_map]
  obtain ⟨z1, z2, z3⟩ := zip3 (l := D.nkL ks) (m := kas) (n := xs) (by rw [nkL_len, ← k2, List.length_map, lz]) (by rw [← k2, List.length_map, k3.length, List.length_map])
  have lk : ((D.nkL ks).zip (kas.zip xs)).length = ks.length := by
    have := congrArg List.length z1
    rw [List.length_map, nkL_len] at this
    exact this
  exact ⟨⟨hs, by rw [lk]; exact hl, by rw [z1, ← k1]; exact h5, zs, paired3_inv k1 k2 k3, o, es, ep, h1, h2, h3, h4⟩, ⟨o, h1⟩, NdOk.stay⟩
theorem nkL_app (l m : List D) : D.nkL (l ++ m) = D.nkL l ++ D.nkL m := by rw [nkL_map, nkL_map, nkL_map, List.map_append]
theorem vals_put {v : V} (rv : RelV v w) (nk : NestedKey) (hn : dx.nk = nk) : ∀ {ks : List D} {xs : List V} {zs : List (NestedKey × Addr × Value)}, zs.map (·.1) = D.nkL ks → Vals xs (zs.map (·.2.2)) → Vals (dPut ks xs dx v) ((zs.map (putAt nk w)).map (·.2.2))
  | [], xs, [], _, r => by
    have : xs = [] := by cases r; rfl
    subst this
    exact .nil
  | [], _, _ :: _, h, _ => by cases h
  | _ :: _, _, [], h, _ => by cases h
  | k :: ks, [], z :: zs, _, r => by cases r
  | k :: ks, y :: xs, z :: zs, h, r => by
    rw [List.map_cons, D.nkL] at h
    injection h with h1 h2
    cases r with
    | cons r1 r2 =>
      unfold dPut
      rw [List.map_cons, List.map_cons]
      refine .cons ?_ (vals_put rv nk hn h2 r2)
      unfold putAt
      by_cases e : z.1 = nk
      · rw [if_pos (by rw [← h1, e, hn]), if_pos e]; exact rv
      · rw [if_neg (by rw [← h1, hn]; exact e), if_neg e]; exact r1
theorem map_putAt_2 (nk : NestedKey) : ∀ zs : List (NestedKey × Addr × Value), (zs.map (putAt nk w)).map (·.2.1) = zs.map (·.2.1)
  | [] => rfl
  | z :: zs => by
    rw [List.map_cons, List.map_cons, List.map_cons, map_putAt_2 nk zs]
    unfold putAt
    split <;> rfl
theorem DOk.put {v : V} (d : DOk C F k ks kas xs vs) (rv : Rep C F v dy) : DOk C F k ks kas (dPut ks xs dx v) (dPut ks vs dx dy) :=
  ⟨d.1, d.2.1, by rw [dPut_len dx dy d.2.2.1]; exact d.2.2.1, d.2.2.2.1, dPut_rel rv dx d.2.2.2.2 d.2.2.1⟩
theorem DOk.snoc {v : V} {b : Addr} (d : DOk C F k ks kas xs vs) (hk : dx.isKey k = true) (rb : k = false → Rep C F (.ref b) dx) (rv : Rep C F v dy) : DOk C F k (ks ++ [dx]) (kas ++ [b]) (xs ++ [v]) (vs ++ [dy]) := by
  obtain ⟨d1, d2, d3, d4, d5⟩ := d
  refine ⟨?_, by simp [d2], by simp [d3], fun h => ?_, d5.snoc rv⟩
  · rw [List.all_append, d1]
    simp [hk]
  · rw [List.map_append]
    exact (d4 h).snoc (rb h)
theorem d2_set (hP : X.prog = C.P) (hw : X.w = C.w) {v : V} {Q : Unit → Shared → Prop} (hu : A.units + 9 < cLine) (I : Inv X pins σ H s) (f : Fits C F H) (e : H a = some (dictO C a k ks kas xs)) (d : DOk C F k ks kas xs vs) (r : Rep C F x dx) (hk : dx.isKey k = true) (rx : RelV x u) (rv : Rep C F v dy) (rw' : RelV v w)
    (h1 : dHas ks dx = true → ∀ s', DOk C F k ks kas (dPut ks xs dx v) (dPut ks vs dx dy) → Inv X pins σ (upd H a (dictO C a k ks kas (dPut ks xs dx v))) s' → Q () s')
    (h2 : dHas ks dx = false → ks.length < sizeLine ∧ ∀ b s', DOk C F k (ks ++ [dx]) (kas ++ [b]) (xs ++ [v]) (vs ++ [dy]) → Inv X pins σ (upd H a (dictO C a k (ks ++ [dx]) (kas ++ [b]) (xs ++ [v]))) s' → Q () s') :
    wpAny (model X.prog X.w) A (setItem (.ref a) u w) Q E s := by
  have hl : ks.length = xs.length := by rw [d.2.2.1, d.2.2.2.2.len]
  cases k with
  | true =>
    obtain ⟨j, hj⟩ := isKey_t hk
    have e' : H a = some (.dK ((ks.filterMap D.kk).zip xs)) := e
    have lz : ((ks.filterMap D.kk).zip xs).length = ks.length := by rw [List.length_zip, kk_len d.1, hl, Nat.min_self]
    cases hd : dHas ks dx with
    | true =>
      obtain ⟨z, hds, vs', rel, dd⟩ := dk_of I.hok e'
      have hz : vs'.length ≤ sizeLine := by rw [← rel.length]; exact z
      have hp : putK ((ks.filterMap D.kk).zip xs) j v = (ks.filterMap D.kk).zip (dPut ks xs dx v) := by rw [kk_put hj d.1 hl, hd]; rfl
      refine wpAny_setItem_pairs (hsz := hz) (kV_is (by rw [← r.kv hj]; exact rx)) dd fun h' dd' hs => h1 hd _ (d.put rv) ?_
      have he : ∃ q, h'.get? a = some q := let ⟨q, _, _, hq, _⟩ := dd'; ⟨q, hq⟩
      refine d_write I (by rw [e']; exact True.intro) hs he ?_
      show ObjOk _ _ _ _ _ (.dK _)
      rw [← hp]
      refine dk_new ?_ hds (rel.put j rw') dd'
      rw [hp, List.length_zip, kk_len d.1, dPut_len dx v hl, hl, Nat.min_self, ← hl, ← lz]
      exact z
    | false =>
      obtain ⟨hlt, h2⟩ := h2 hd
      have hp : putK ((ks.filterMap D.kk).zip xs) j v = ((ks ++ [dx]).filterMap D.kk).zip (xs ++ [v]) := by rw [kk_put hj d.1 hl, hd]; rfl
      refine d_setItem (v := v) (by omega) I (DPut.k (k := j) e' (by rw [lz]; exact hlt)) (by rw [← r.kv hj]; exact rx) rw' fun s' I' => h2 0 s' (d.snoc hk (fun z => by cases z) rv) ?_
      show Inv X pins σ (upd H a (.dK _)) s'
      rw [hp] at I'
      exact I'
  | false =>
    obtain ⟨hdk, b, rfl⟩ := isKey_f r hk
    cases rx
    obtain ⟨zs, vw⟩ := view_of hP hw I.hok f e d
    have e2 := (View.get (zs := zs) dx vw.k1 vw.k3).isSome_eq
    rw [Option.isSome_map, dHas_get dx hl] at e2
    have hz : zs.length ≤ sizeLine := by rw [vw.size]; exact vw.sz
    have mu : Mut (H a) := by rw [e]; exact True.intro
    refine wpAny_setItem_heap (hsz := hz) (knd := nestedKind X.prog X.w) (k := dx.nk) (show A.in1.units + 8 < cLine by rw [Around.in1_units]; omega) ⟨Rep.nested I.hok f dx 8 _ _ r hdk rfl, hk_depth _ _ hdk⟩ vw.dd fun h' dd' hs => ?_
    have he : ∃ q, h'.get? a = some q := let ⟨q, _, _, hq, _⟩ := dd'; ⟨q, hq⟩
    cases hd : dHas ks dx with
    | true =>
      rw [hd] at e2
      have es : storedH zs dx.nk b w = zs.map (putAt dx.nk w) := by unfold storedH; rw [if_pos e2.symm]
      rw [es] at dd'
      refine h1 hd _ (d.put rv) (d_write I mu hs he (nd_new hP hw (by rw [keys_map_putAt]; exact vw.k1) (by rw [map_putAt_2]; exact vw.k2) (vals_put rw' dx.nk rfl vw.k1 vw.k3) vw.sys vw.sz dd'))
    | false =>
      rw [hd] at e2
      have es : storedH zs dx.nk b w = zs ++ [(dx.nk, b, w)] := by unfold storedH; rw [if_neg (by rw [← e2]; exact Bool.false_ne_true)]
      rw [es] at dd'
      obtain ⟨hlt, h2⟩ := h2 hd
      refine h2 b _ (d.snoc hk (fun _ => r) rv) (d_write I mu hs he (nd_new hP hw ?_ ?_ ?_ vw.sys (by simp; omega) dd'))
      · rw [List.map_append, vw.k1, nkL_app]; rfl
      · rw [List.map_append, vw.k2]; rfl
      · rw [List.map_append]; exact vw.k3.append (.cons rw' .nil)
end
end G
namespace G
open PySem L2
def rInDict (C : Cfg) (neg : Bool) : R2 := fun x y H Q => ∃ F dx k ks vs, Fits C F H ∧ Rep C F x dx ∧ RpB C F H y (.dict k ks vs) ∧ dx.isKey k = true ∧ Q (.bl (if neg then !dHas ks dx else dHas ks dx)) H
def rIxDict (C : Cfg) : R2 := fun x y H Q => ∃ F dx dy k ks vs, Fits C F H ∧ Rep C F y dx ∧ RpB C F H x (.dict k ks vs) ∧ dx.isKey k = true ∧ dGet ks vs dx = some dy ∧ ∀ v, Rep C F v dy → Q v H
section
variable {C : Cfg} {N : List Str} {sc : Scope} {top : Bool} {X : Cx} {pins : List (Addr × Obj)} {σ : L2.St} {F : Wd} {H : Hp} {s : Shared} {a : Addr} {k : Bool} {ks vs : List D} {kas : List Addr} {xs : List V} {dx dy : D}
theorem XOk.nine (h : XOk C N sc top X) : X.A.units + 9 < cLine := by have := h.un; omega
theorem op_inDict (h : XOk C N sc top X) : OpR X (compareOp .In) (rInDict C false) := by
  intro pins s σ H x y v u Q I rx ry ⟨F, dx, k, ks, vs, f, r1, r2, hk, q⟩
  obtain ⟨a, kas, xs, po, rfl, e, d⟩ := r2.dict f
  cases ry
  exact d2_in h.eP h.eW h.nine I f e d r1 hk rx fun s' I' => ⟨.bl _, H, I', rfl, q⟩
theorem op_notInDict (h : XOk C N sc top X) : OpR X (compareOp .NotIn) (rInDict C true) := by
  intro pins s σ H x y v u Q I rx ry ⟨F, dx, k, ks, vs, f, r1, r2, hk, q⟩
  obtain ⟨a, kas, xs, po, rfl, e, d⟩ := r2.dict f
  cases ry
  exact d2_notIn h.eP h.eW h.nine I f e d r1 hk rx fun s' I' => ⟨.bl _, H, I', rfl, q⟩
theorem dict_type (hP : X.prog = C.P) (hw : X.w = C.w) (I : Inv X pins σ H s) {po : Option Obj} (f : Fits C F H) (e : H a = some (dictO C a k ks kas xs po)) (d : DOk C F k ks kas xs vs) :
    s.TypeIs (.ref a) "dict" ∧ (∀ b, Value.ref a = .ref b → ∃ ob, s.heap.get? b = some ob ∧ ob.dict = none) ∧ (a == sysModules) = false := by
  cases k with
  | true =>
    have e' : H a = some (.dK ((ks.filterMap D.kk).zip xs)) := e
    exact isD_at I (.inl ⟨_, .inl e'⟩)
  | false =>
    obtain ⟨zs, v⟩ := view_of hP hw I.hok f e d
    refine ⟨v.dd.typeIs, fun b q => ?_, v.sys⟩
    cases q
    obtain ⟨ob, _, _, h1, h2, _⟩ := v.dd
    exact ⟨ob, h1, h2.2.1⟩
theorem ix_dict (h : XOk C N sc top X) : IxR X (rIxDict C) := by
  intro value slice pins s σ H x y v u Q I rx ry ⟨F, dx, dy, k, ks, vs, f, r1, r2, hk, hg, q⟩ hs
  obtain ⟨a, kas, xs, po, rfl, e, d⟩ := r2.dict f
  cases rx
  exact PyProof.Rows.tail_any (dict_type h.eP h.eW I f e d).1 PySem.F.slot_dict_getitem.lookup (d2_get h.eP h.eW h.nine I f e d r1 hk ry hg fun w w' s' I' rw rw' => ⟨w, H, I', rw', q w rw⟩) hs
def IsD2 (C : Cfg) (H : Hp) (a : Addr) : Prop := ∃ F k ks kas xs vs po, Fits C F H ∧ H a = some (dictO C a k ks kas xs po) ∧ DOk C F k ks kas xs vs
def tGet2 (C : Cfg) (td ty tx : TE) : TE := fun σ H Q => td σ H fun x H1 => ∃ a, x = .ref a ∧ IsD2 C H1 a ∧ ty σ H1 fun y H2 => tx σ H2 fun z H3 =>
  ∃ F k ks kas xs vs dx dz po, Fits C F H3 ∧ H3 a = some (dictO C a k ks kas xs po) ∧ DOk C F k ks kas xs vs ∧ Rep C F y dx ∧ Rep C F z dz ∧ dx.isKey k = true ∧ ∀ v, Rep C F v ((dGet ks vs dx).getD dz) → Q v H3
theorem pe_get2 {o e f : Expr} {apos cpos : Pos} {td ty tx : TE} (h : XOk C N sc top X) (ho : PE X o td) (he : PE X e ty) (hf : PE X f tx) (m : M2 X o "get" apos e f cpos) : PE X (.Call (.Attribute o "get" apos) [e, f] [] cpos) (tGet2 C td ty tx) := by
  refine ⟨fun pins s σ H Q I q => ?_⟩
  refine wpAny_Call_method m.base m.few m.line PySem.F.plainAttrs_dict PySem.F.slot_dict_get PySem.F.type_dict_get (thn (ho.run pins s σ H _ I q) fun u s1 ⟨x, H1, I1, rx, a, ex, ⟨F, k, ks, kas, xs, vs, po, ff, e1, d1⟩, q1⟩ => ?_)
  subst ex
  obtain rfl : u = Value.ref a := rx
  obtain ⟨t1, t2, _⟩ := dict_type h.eP h.eW I1 ff e1 d1
  refine ⟨t1, t2, ?_⟩
  rw [m.trees]
  refine Calls.callWith_builtin rfl (Calls.evalArgs_plain (Calls.spliced_cons (thn (he.run pins s1 σ H1 _ I1 q1) fun iv s2 ⟨y, H2, I2, ry, q2⟩ =>
    Calls.spliced_cons (thn (hf.run pins s2 σ H2 _ I2 q2) fun fv s3 ⟨z, H3, I3, rz, F3, k3, ks3, kas3, xs3, vs3, dx, dz, po3, f3, e3, d3, r3, r4, hk, q3⟩ => Calls.spliced_nil ?_))))
  exact d2_get2 h.eP h.eW h.nine I3 f3 e3 d3 r3 hk ry r4 rz fun v w' s' I' rv rw' => ⟨v, H3, I', rw', q3 v rv⟩
def tPut (C : Cfg) (td ty tv : TE) : TS := fun D σ H => tv σ H fun v H1 => td σ H1 fun x H2 => ty σ H2 fun y H3 =>
  ∃ a F k ks kas xs vs dx dy, x = .ref a ∧ Fits C F H3 ∧ H3 a = some (dictO C a k ks kas xs) ∧ DOk C F k ks kas xs vs ∧ Rep C F y dx ∧ Rep C F v dy ∧ dx.isKey k = true ∧
  (dHas ks dx = true → DOk C F k ks kas (dPut ks xs dx v) (dPut ks vs dx dy) → D.nx σ (upd H3 a (dictO C a k ks kas (dPut ks xs dx v)))) ∧
  (dHas ks dx = false → ks.length < sizeLine ∧ ∀ b, DOk C F k (ks ++ [dx]) (kas ++ [b]) (xs ++ [v]) (vs ++ [dy]) → D.nx σ (upd H3 a (dictO C a k (ks ++ [dx]) (kas ++ [b]) (xs ++ [v]))))
theorem ps_put {o i value : Expr} {pos pos' : Pos} {td ty tv : TE} (h : XOk C N sc top X) (ho : PE X o td) (hi : PE X i ty) (hv : PE X value tv) (hs : swapsWith value (some (.Subscript o i pos')) pos.line X.env = pure false) :
    PS X (.Assign [.Subscript o i pos'] value pos) (tPut C td ty tv) := by
  refine ⟨fun pins s σ H D I q => ?_⟩
  refine wpAny_Assign_Subscript (thn (hv.run pins s σ H _ I q) fun r s1 ⟨v, H1, I1, rv, q1⟩ => thn (ho.run pins s1 σ H1 _ I1 q1) fun u s2 ⟨x, H2, I2, rx, q2⟩ => thn (hi.run pins s2 σ H2 _ I2 q2) fun iv s3
    ⟨y, H3, I3, ry, a, F, k, ks, kas, xs, vs, dx, dy, ex, f, e, d, r1, r2, hk, q3, q4⟩ => ?_) hs
  subst ex
  obtain rfl : u = Value.ref a := rx
  refine d2_set h.eP h.eW h.nine I3 f e d r1 hk ry r2 rv (fun hd s' d' I' => ⟨σ, _, I', q3 hd d'⟩) fun hd => ⟨(q4 hd).1, fun b s' d' I' => ⟨σ, _, I', (q4 hd).2 b d'⟩⟩
theorem nd_empty {P : Program} {w : World} (hP : P = C.P) (hw : w = C.w) {H' : Hp} (h : Heap) (hb : sysModules < h.objs.size) : ObjOk P w H' (h.push { cls := .type "dict", data := .dict #[] }) h.objs.size (dictO C h.objs.size false [] [] []) := by
  subst hP hw
  have hn : (h.objs.size == sysModules) = false := beq_eq_false_iff_ne.mpr (Ne.symm (Nat.ne_of_lt hb))
  exact ⟨⟨hn, Nat.zero_le _, List.nodup_nil, [], .nil, _, #[], 0, Heap.get?_push_size _ rfl, ⟨rfl, rfl, rfl⟩, rfl, rfl⟩, ⟨_, Heap.get?_push_size _ rfl⟩, NdOk.stay⟩
def tNewD (C : Cfg) (k : Bool) : TE := fun _ H Q => ∀ p, H p = none → Q (.ref p) (upd H p (dictO C p k [] [] []))
theorem pe_newD {pos : Pos} (h : XOk C N sc top X) (k : Bool) : PE X (.Dict [] [] pos) (tNewD C k) := by
  cases k with
  | true => exact pe_dnewK
  | false => exact ⟨fun pins s σ H Q I q =>
      wpAny_Dict_empty ⟨.ref s.heap.objs.size, _, I.laid (a := s.heap.objs.size) (o := dictO C s.heap.objs.size false [] [] []) (t' := s.toks) (fun _ _ q => Heap.get?_push_of_some _ q) (Nat.le_refl _) (nd_empty h.eP h.eW s.heap I.big), rfl, q _ (I.hok.fresh (Nat.le_refl _))⟩⟩
theorem DOk.nil : DOk C F k [] [] [] [] := ⟨rfl, rfl, rfl, fun _ => rfl, rfl⟩
def tDisp1 (C : Cfg) (tk tv : TE) : TE := fun σ H Q => ∀ p, H p = none → tk σ (upd H p (dictO C p false [] [] [])) fun x H1 => tv σ H1 fun y H2 =>
  ∃ F dx dy, Fits C F H2 ∧ H2 p = some (dictO C p false [] [] []) ∧ Rep C F x dx ∧ Rep C F y dy ∧ dx.isKey false = true ∧ ∀ b, DOk C F false [dx] [b] [y] [dy] → Q (.ref p) (upd H2 p (dictO C p false [dx] [b] [y]))
theorem pe_disp1 {ek ev : Expr} {pos : Pos} {tk tv : TE} (h : XOk C N sc top X) (hk : PE X ek tk) (hv : PE X ev tv) : PE X (.Dict [some ek] [ev] pos) (tDisp1 C tk tv) := by
  refine ⟨fun pins s σ H Q I q => ?_⟩
  have hn := I.hok.fresh (Nat.le_refl s.heap.objs.size)
  have I1 := I.laid (a := s.heap.objs.size) (o := dictO C s.heap.objs.size false [] [] []) (h' := s.heap.push { cls := .type "dict", data := .dict #[] }) (t' := s.toks) (fun _ _ q => Heap.get?_push_of_some _ q) (Nat.le_refl _) (nd_empty h.eP h.eW s.heap I.big)
  have hr : (nestedKind X.prog X.w).room X.A := by show X.A.units + 8 < cLine; have := h.un; omega
  have hz := zip_pairTrees [some ek] [ev] X.env pos rfl rfl
  rw [arm_eval_Dict, hz, dictDisplay_pairs _ (by intro z; cases z) (by show 1 < 17; decide)]
  refine wpAny_bind (wpAny_standAt (wpAny_bind (wpAny_subDictH (knd := nestedKind X.prog X.w) hr (by show 1 ≤ 15; decide) ?_)))
  refine pairTrees_cons_walk (thn (hk.run pins _ σ _ _ I1 (q _ hn)) fun u s1 ⟨x, H1, I2, rx, q1⟩ => thn (hv.run pins s1 σ H1 _ I2 q1) fun w2 s2 ⟨y, H2, I3, ry, F, dx, dy, f, e, r1, r2, hkk, q2⟩ => pairTrees_nil_walk ?_)
  obtain ⟨hd, b, rfl⟩ := isKey_f r1 hkk
  cases rx
  obtain ⟨zs, vw⟩ := view_of (vs := []) h.eP h.eW I3.hok f e DOk.nil
  have ez : zs = [] := by have := vw.size; exact List.eq_nil_of_length_eq_zero this
  subst ez
  refine ⟨[(dx.nk, b, w2)], ⟨rfl, rfl, ⟨Rep.nested I3.hok f dx 8 _ _ r1 hd rfl, hk_depth _ _ hd⟩, trivial⟩, vw.dd, fun h' tk' dd' hs => wpAny_pure ?_⟩
  have dd2 : h'.DictOfH (nestedKind X.prog X.w) s.heap.objs.size [(dx.nk, b, w2)] := dd'
  have he : ∃ q, h'.get? s.heap.objs.size = some q := let ⟨q, _, _, hq, _⟩ := dd'; ⟨q, hq⟩
  have d' : DOk C F false [dx] [b] [y] [dy] := ⟨by rw [List.all_cons, hkk]; rfl, rfl, rfl, fun _ => RepL.one r1, RepL.one r2⟩
  refine ⟨.ref s.heap.objs.size, _, d_write (t' := tk') I3 (by rw [e]; exact True.intro) hs he (nd_new (ks := [dx]) (kas := [b]) (xs := [y]) (zs := [(dx.nk, b, w2)]) h.eP h.eW rfl rfl (show Vals [y] [w2] from .cons ry .nil) vw.sys (by rw [sizeLine_eq]; show 1 ≤ _; decide) dd2), rfl, q2 b d'⟩
end
end G
namespace G
open PySem L2
section
variable {C : Cfg} {N : List Str} {sc : Scope} {top : Bool} {X : Cx} {F : Wd} {H : Hp} {x y : V} {dx dy : D} {Q : VK} {Ex : Ec → Hp → Prop}
def rOrd (K : PySem.W.Frag) (g : PyData → PyData → Bool) : R2 := fun x y H Q => ∃ da db, Dp K H x da ∧ Dp K H y db ∧ PySem.W.alike da db = true ∧ da ≠ .none ∧ da.depth ≤ 60 ∧ Q (.bl (g da db)) H
theorem ordU (h : XOk C N sc top X) {d e : PyData} (hd : d.depth ≤ 60) : X.A.units + min d.depth e.depth < cLine := by
  have := h.un
  omega
theorem op_ltO (h : XOk C N sc top X) : OpR X (compareOp .Lt) (rOrd X.K fun a b => PySem.W.dataLt a b) := fun pins s σ H x y v u Q I rx ry ⟨da, db, r1, r2, ha, hn, hd, q⟩ => by
  obtain ⟨as, q1⟩ := r1.reads I da x v rx
  obtain ⟨bs, q2⟩ := r2.reads I db y u ry
  exact PySem.W.lt_data q1 q2 ha hn (ordU h hd) ⟨.bl _, H, I, rfl, q⟩
theorem op_gtO (h : XOk C N sc top X) : OpR X (compareOp .Gt) (rOrd X.K fun a b => PySem.W.dataLt b a) := fun pins s σ H x y v u Q I rx ry ⟨da, db, r1, r2, ha, hn, hd, q⟩ => by
  obtain ⟨as, q1⟩ := r1.reads I da x v rx
  obtain ⟨bs, q2⟩ := r2.reads I db y u ry
  exact PySem.W.gt_data q1 q2 ha hn (ordU h hd) ⟨.bl _, H, I, rfl, q⟩
theorem op_leO (h : XOk C N sc top X) : OpR X (compareOp .LtE) (rOrd X.K fun a b => !PySem.W.dataLt b a) := fun pins s σ H x y v u Q I rx ry ⟨da, db, r1, r2, ha, hn, hd, q⟩ => by
  obtain ⟨as, q1⟩ := r1.reads I da x v rx
  obtain ⟨bs, q2⟩ := r2.reads I db y u ry
  exact PySem.W.le_data q1 q2 ha hn (ordU h hd) ⟨.bl _, H, I, rfl, q⟩
theorem op_geO (h : XOk C N sc top X) : OpR X (compareOp .GtE) (rOrd X.K fun a b => !PySem.W.dataLt a b) := fun pins s σ H x y v u Q I rx ry ⟨da, db, r1, r2, ha, hn, hd, q⟩ => by
  obtain ⟨as, q1⟩ := r1.reads I da x v rx
  obtain ⟨bs, q2⟩ := r2.reads I db y u ry
  exact PySem.W.ge_data q1 q2 ha hn (ordU h hd) ⟨.bl _, H, I, rfl, q⟩
abbrev r3Lt (X : Cx) : R2 := fun x y H Q => r2Lt x y H Q ∨ rOrd X.K (fun a b => PySem.W.dataLt a b) x y H Q
abbrev r3Gt (X : Cx) : R2 := fun x y H Q => r2Gt x y H Q ∨ rOrd X.K (fun a b => PySem.W.dataLt b a) x y H Q
abbrev r3Le (X : Cx) : R2 := fun x y H Q => r2Le x y H Q ∨ rOrd X.K (fun a b => !PySem.W.dataLt b a) x y H Q
abbrev r3Ge (X : Cx) : R2 := fun x y H Q => r2Ge x y H Q ∨ rOrd X.K (fun a b => !PySem.W.dataLt a b) x y H Q
theorem op_lt3 (h : XOk C N sc top X) : OpR X (compareOp .Lt) (r3Lt X) := op_lt2.or (op_ltO h)
theorem op_gt3 (h : XOk C N sc top X) : OpR X (compareOp .Gt) (r3Gt X) := op_gt2.or (op_gtO h)
theorem op_le3 (h : XOk C N sc top X) : OpR X (compareOp .LtE) (r3Le X) := op_le2.or (op_leO h)
theorem op_ge3 (h : XOk C N sc top X) : OpR X (compareOp .GtE) (r3Ge X) := op_ge2.or (op_geO h)
theorem cmp_ok {a b : D} (h : D.cmp a b = true) : a.flat 60 = true ∧ b.flat 60 = true ∧ PySem.W.alike a.py b.py = true ∧ a.py ≠ .none := by
  unfold D.cmp at h
  simp only [Bool.and_eq_true, Bool.not_eq_true'] at h
  obtain ⟨⟨⟨h1, h2⟩, h3⟩, h4⟩ := h
  refine ⟨h1, h2, h3, fun z => ?_⟩
  cases a <;> first | (cases h4; done) | (simp [D.py] at z; done) | (simp [D.flat] at h1; done)
theorem alike_swap {a b : D} (h : D.cmp a b = true) : PySem.W.alike b.py a.py = true ∧ b.py ≠ .none := by
  obtain ⟨h1, h2, h3, h4⟩ := cmp_ok h
  have h5 : PySem.W.alike b.py a.py = true := by rw [PySem.W.alike_comm]; exact h3
  exact ⟨h5, PySem.W.ne_none_both h3 h4⟩
theorem wt_lt (f : Fits C F H) (rx : RpB C F H x dx) (ry : RpB C F H y dy) (p : Po C RpT F H (ltD dx dy) (fun k H' => Q (.bl k) H') Ex) : r3Lt X x y H Q := by
  unfold ltD at p
  split at p
  · rename_i a b
    exact .inl (.inl ⟨a, b, rx.notlst rfl, ry.notlst rfl, p.now f rfl⟩)
  · rename_i a b
    refine .inl (.inr ⟨Sx a, Sx b, rx.notlst rfl, ry.notlst rfl, ?_⟩)
    rw [Sx_cps, Sx_cps]
    exact p.now f rfl
  · rename_i a b
    unfold ltT at p
    split at p
    · rename_i hc
      obtain ⟨h1, h2, h3, h4⟩ := cmp_ok hc
      exact .inr ⟨_, _, rx.dp f h1, ry.dp f h2, h3, h4, (flat_lay _ 60 h1).2, p.now f rfl⟩
    · exact p.elim
  · exact p.elim
theorem wt_gt (f : Fits C F H) (rx : RpB C F H x dx) (ry : RpB C F H y dy) (p : Po C RpT F H (ltD dy dx) (fun k H' => Q (.bl k) H') Ex) : r3Gt X x y H Q := by
  unfold ltD at p
  split at p
  · rename_i a b
    exact .inl (.inl ⟨b, a, rx.notlst rfl, ry.notlst rfl, p.now f rfl⟩)
  · rename_i a b
    refine .inl (.inr ⟨Sx b, Sx a, rx.notlst rfl, ry.notlst rfl, ?_⟩)
    rw [Sx_cps, Sx_cps]
    exact p.now f rfl
  · rename_i a b
    unfold ltT at p
    split at p
    · rename_i hc
      obtain ⟨h1, h2, h3, h4⟩ := cmp_ok hc
      exact .inr ⟨_, _, rx.dp f h2, ry.dp f h1, (alike_swap hc).1, (alike_swap hc).2, (flat_lay _ 60 h2).2, p.now f rfl⟩
    · exact p.elim
  · exact p.elim
theorem wt_le (f : Fits C F H) (rx : RpB C F H x dx) (ry : RpB C F H y dy) (p : Po C RpT F H (leD dx dy) (fun k H' => Q (.bl k) H') Ex) : r3Le X x y H Q := by
  unfold leD at p
  split at p
  · rename_i a b
    exact .inl (.inl ⟨a, b, rx.notlst rfl, ry.notlst rfl, p.now f rfl⟩)
  · rename_i a b
    refine .inl (.inr ⟨Sx a, Sx b, rx.notlst rfl, ry.notlst rfl, ?_⟩)
    rw [Sx_cps, Sx_cps]
    exact p.now f rfl
  · rename_i a b
    unfold leT at p
    split at p
    · rename_i hc
      obtain ⟨h1, h2, h3, h4⟩ := cmp_ok hc
      exact .inr ⟨_, _, rx.dp f h1, ry.dp f h2, h3, h4, (flat_lay _ 60 h1).2, p.now f rfl⟩
    · exact p.elim
  · exact p.elim
theorem wt_ge (f : Fits C F H) (rx : RpB C F H x dx) (ry : RpB C F H y dy) (p : Po C RpT F H (leD dy dx) (fun k H' => Q (.bl k) H') Ex) : r3Ge X x y H Q := by
  unfold leD at p
  split at p
  · rename_i a b
    exact .inl (.inl ⟨b, a, rx.notlst rfl, ry.notlst rfl, p.now f rfl⟩)
  · rename_i a b
    refine .inl (.inr ⟨Sx b, Sx a, rx.notlst rfl, ry.notlst rfl, ?_⟩)
    rw [Sx_cps, Sx_cps]
    exact p.now f rfl
  · rename_i a b
    unfold leT at p
    split at p
    · rename_i hc
      obtain ⟨h1, h2, h3, h4⟩ := cmp_ok hc
      exact .inr ⟨_, _, rx.dp f h2, ry.dp f h1, (alike_swap hc).1, (alike_swap hc).2, (flat_lay _ 60 h2).2, p.now f rfl⟩
    · exact p.elim
  · exact p.elim
def Stand (C : Cfg) (F : Wd) (u : Value) (d : D) : Prop := ∃ v, RelV v u ∧ Rep C F v d
theorem stand_list : ∀ {us : List Value} {ds : List D}, PySem.W.EachIs (Stand C F) us ds → ∃ vs, Vals vs us ∧ RepL C F vs ds
  | _, _, .nil => ⟨[], .nil, rfl⟩
  | _, _, .cons h t => by
    obtain ⟨v, h1, h2⟩ := h
    obtain ⟨vs, h3, h4⟩ := stand_list t
    exact ⟨v :: vs, .cons h1 h3, v, vs, rfl, h2, h4⟩
theorem each_stand : ∀ {us : List Value} {vs : List V} {ds : List D}, Vals vs us → RepL C F vs ds → PySem.W.EachIs (Stand C F) us ds
  | _, _, [], r, q => by
    rw [show _ = [] from q] at r
    cases r
    exact .nil
  | _, _, d :: ds, r, q => by
    obtain ⟨v, r', rfl, q1, q2⟩ := q
    cases r with
    | cons r1 r2 => exact .cons ⟨v, r1, q1⟩ (each_stand r2 q2)
theorem each_reads {pins : List (Addr × Obj)} {σ : L2.St} {s : Shared} (I : Inv X pins σ H s) (f : Fits C F H) : ∀ {us : List Value} {vs : List V} {ds : List D}, Vals vs us → RepL C F vs ds → D.flatL 60 ds = true → PySem.W.EachIs (fun v d => ∃ as, Reads s.heap v (D.py d) as) us ds
  | _, _, [], r, q, _ => by
    rw [show _ = [] from q] at r
    cases r
    exact .nil
  | _, _, d :: ds, r, q, h => by
    obtain ⟨v, r', rfl, q1, q2⟩ := q
    rw [D.flatL, Bool.and_eq_true] at h
    cases r with
    | cons r1 r2 => exact .cons ((Rep.dp (K := X.K) f d 60 v q1 h.1).reads I _ _ _ r1) (each_reads I f r2 q2 h.2)
theorem flatL_mem : ∀ {ds : List D} {n : Nat}, D.flatL n ds = true → ∀ d ∈ ds, d.flat n = true
  | d :: ds, n, h, e, he => by
    rw [D.flatL, Bool.and_eq_true] at h
    rcases List.mem_cons.mp he with rfl | he
    · exact h.1
    · exact flatL_mem h.2 e he
structure ShpOk (l : List D) : Prop where
  flat : D.flatL 60 l = true
  al : ∀ a ∈ l, ∀ b ∈ l, PySem.W.alike a.py b.py = true
  so : PySem.W.Sortable (l.map D.py)
theorem oneShp_ok {l : List D} (h : oneShp l = true) : ShpOk l := by
  unfold oneShp at h
  simp only [Bool.and_eq_true, List.all_eq_true, Bool.or_eq_true, Bool.not_eq_true'] at h
  obtain ⟨⟨h1, h2⟩, h3⟩ := h
  refine ⟨h1, h2, ?_⟩
  rcases h3 with h3 | h3
  · refine .inl fun d hd => ?_
    obtain ⟨e, he, rfl⟩ := List.mem_map.mp hd
    have := h3 e he
    cases e <;> first | (cases this; done) | skip
    rename_i l'
    cases l' with
    | nil => cases this
    | cons x r => exact ⟨_, _, by simp only [D.py, D.pyL]; rfl⟩
  · refine .inr fun d hd => ?_
    obtain ⟨e, he, rfl⟩ := List.mem_map.mp hd
    have h4 := h3 e he
    have h5 := flatL_mem h1 e he
    cases e <;> first | (cases h4.1; done) | (cases h4.2; done) | (simp [D.flat] at h5; done) | (simp [D.py]; done)
theorem ShpOk.alike {l : List D} (h : ShpOk l) : PySem.W.AllAlike (l.map D.py) := by
  intro d hd d' hd'
  obtain ⟨a, ha, rfl⟩ := List.mem_map.mp hd
  obtain ⟨b, hb, rfl⟩ := List.mem_map.mp hd'
  exact h.al a ha b hb
def rSrt (C : Cfg) (K : PySem.W.Frag) : List V → Hp → VK → Prop := fun xs H Q => ∃ (p : Addr) (ys : List V) (F : Wd) (ds : List D), xs = [V.ref p] ∧ SqL K H p ys ∧ Fits C F H ∧ RepL C F ys ds ∧ oneShp ds = true ∧
  ∀ zs l, RepL C F zs (srtD ds) → H l = none → Q (.ref l) (upd H l (.lst zs))
theorem call_srt (h : XOk C N sc top X) : CallR X (.builtin "sorted") (rSrt C X.K) := by
  intro pins s σ H xs us Q I r ⟨p, ys, F, ds, e, hq, f, rl, ho, q⟩
  subst e
  obtain ⟨u, rfl, ru⟩ := vals1 r
  cases ru
  have so := oneShp_ok ho
  obtain ⟨its, ri, pl, hz⟩ := I.list hq
  have hl : its.length = ys.length := ri.length.symm
  have hd : ys.length = ds.length := rl.len
  refine PySem.W.sorted_data (R := Stand C F) (enc := D.py) (bs := ds) (vs := its) pl.isList (each_stand ri rl) (each_reads I f ri rl so.flat) so.alike so.so (by rw [← hd]; exact hz) (fun b hb => ?_) fun out ho hout => ?_
  · have := (flat_lay b 60 (flatL_mem so.flat b hb)).2
    have := h.un
    omega
  · obtain ⟨zs, z1, z2⟩ := stand_list hout
    have hzl : zs.length ≤ sizeLine := by rw [z1.length, ho, ← hd]; exact hz
    have hp : H (s.heap.objs.size + 1) = none := I.hok.fresh (Nat.le_succ _)
    obtain ⟨ep, hat⟩ := PyProof.Rows.sortedAll_at s.heap its (List.toArray out)
    exact ⟨.ref (s.heap.objs.size + 1), _, I.laid (o := .lst zs) (fun b ob e => PyProof.Rows.sortedAll_old e) (Nat.le_succ _) ⟨hzl, out, ep, z1, hat⟩, rfl, q zs _ z2 hp⟩
theorem each_len {α β : Type} {R : α → β → Prop} : ∀ {as : List α} {bs : List β}, PySem.W.EachIs R as bs → as.length = bs.length
  | _, _, .nil => rfl
  | _, _, .cons _ t => by simp [each_len t]
theorem each_at {α β : Type} {R : α → β → Prop} : ∀ {as : List α} {bs : List β}, PySem.W.EachIs R as bs → ∀ (i : Nat) (a : α), as[i]? = some a → ∃ b, bs[i]? = some b ∧ R a b
  | _, _, .nil, i, a, h => by simp at h
  | _, _, .cons h t, 0, a, e => by simp at e; subst e; exact ⟨_, rfl, h⟩
  | _, _, .cons h t, i + 1, a, e => by
    obtain ⟨b, h1, h2⟩ := each_at t i a (by simpa using e)
    exact ⟨b, by simpa using h1, h2⟩
theorem each_of {α β : Type} {R : α → β → Prop} : ∀ {as : List α} {bs : List β}, as.length = bs.length → (∀ (i : Nat) (a : α) (b : β), as[i]? = some a → bs[i]? = some b → R a b) → PySem.W.EachIs R as bs
  | [], [], _, _ => .nil
  | a :: as, b :: bs, hl, h => .cons (h 0 a b rfl rfl) (each_of (by simpa using hl) fun i x y e1 e2 => h (i + 1) x y (by simpa using e1) (by simpa using e2))
  | [], _ :: _, hl, _ => by simp at hl
  | _ :: _, [], hl, _ => by simp at hl
structure Raw2 (C : Cfg) (F : Wd) (h : Heap) (a : Addr) (ks : List D) (o : Obj) (es : Array DictEntry) (ep : Nat) : Prop where
  at_ : h.get? a = some o
  ex : o.ExactDict
  dt : o.data = .dict es ep
  sys : (a == sysModules) = false
  sz : ks.length ≤ sizeLine
  keys : PySem.W.EachIs (fun (e : DictEntry) d => Stand C F e.key d) es.toList ks
theorem raw_keysN {kas : List Addr} {P : Program} {w : World} : ∀ {ks : List D} {zs : List (NestedKey × Addr × Value)}, zs.map (·.2.1) = kas → zs.length = ks.length → RepL C F (kas.map V.ref) ks → PySem.W.EachIs (fun (e : DictEntry) d => Stand C F e.key d) (zs.map (entryOfKey (nestedKind P w))) ks
  | [], [], _, _, _ => .nil
  | [], _ :: _, _, h, _ => by simp at h
  | _ :: _, [], _, h, _ => by simp at h
  | d :: ds, z :: zs, h1, h2, r => by
    subst h1
    obtain ⟨v, r', e, r1, r2⟩ := r
    injection e with e1 e2
    subst e1
    refine .cons ⟨V.ref z.2.1, rfl, r1⟩ (raw_keysN (kas := zs.map (·.2.1)) rfl (by simpa using h2) ?_)
    rw [← e2] at r2; exact r2
theorem raw_keysK : ∀ {ks : List D} {xs : List V} {vs : List (Key × Value)} {es : List DictEntry} {P : Program} {w : World}, ks.all (D.isKey true) = true → ks.length = xs.length → KV ((ks.filterMap D.kk).zip xs) vs → Pairs (mixKind P w) es vs → PySem.W.EachIs (fun (e : DictEntry) d => Stand C F e.key d) es ks
  | [], xs, vs, es, P, w, _, hl, r, p => by
    have : xs = [] := List.eq_nil_of_length_eq_zero (by simpa using hl.symm)
    subst this
    cases r
    cases p
    exact .nil
  | d :: ds, [], vs, es, P, w, _, hl, r, p => by simp at hl
  | d :: ds, x :: xs, vs, es, P, w, ha, hl, r, p => by
    rw [List.all_cons, Bool.and_eq_true] at ha
    obtain ⟨k, hk⟩ := isKey_t ha.1
    rw [List.filterMap_cons_some hk, List.zip_cons_cons] at r
    cases r with
    | cons r1 r2 =>
      cases p with
      | cons p1 p2 p3 =>
        refine .cons ?_ (raw_keysK ha.2 (by simpa using hl) r2 p3)
        rw [← r1.1] at p1
        have e := keyIs_rel p1
        refine ⟨kV k, e, ?_⟩
        cases d <;> first | (cases hk; rfl) | (cases hk; done)
theorem raw_of (hP : X.prog = C.P) (hw : X.w = C.w) {pins : List (Addr × Obj)} {σ : L2.St} {s : Shared} {a : Addr} {k : Bool} {ks vs : List D} {kas : List Addr} {xs : List V} {po : Option Obj} (I : Inv X pins σ H s) (f : Fits C F H) (e : H a = some (dictO C a k ks kas xs po)) (d : DOk C F k ks kas xs vs) :
    ∃ o es ep, Raw2 C F s.heap a ks o es ep := by
  cases k with
  | true =>
    have e' : H a = some (.dK ((ks.filterMap D.kk).zip xs)) := e
    have hl : ks.length = xs.length := by rw [d.2.2.1, d.2.2.2.2.len]
    obtain ⟨z, lo, vs', rel, o, es, ep, h1, h2, h3, _, h5, _⟩ := dk_of I.hok e'
    rw [List.length_zip, kk_len d.1, hl, Nat.min_self, ← hl] at z
    exact ⟨o, es, ep, h1, h2, h3, lo, z, raw_keysK d.1 hl rel h5⟩
  | false =>
    obtain ⟨zs, v⟩ := view_of hP hw I.hok f e d
    obtain ⟨o, es, ep, h1, h2, h3, h4, _, _⟩ := v.dd
    exact ⟨o, es, ep, h1, h2, h3, v.sys, v.sz, by rw [h4]; exact raw_keysN v.k2 v.size (d.2.2.2.1 rfl)⟩
theorem items_each {h : Heap} {a : Addr} {ks : List D} {o : Obj} {es : Array DictEntry} {ep : Nat} (r : Raw2 C F h a ks o es ep) {acc : Array Value} (it : ItemsOf (fun i v => ∃ en : DictEntry, es[i]? = some en ∧ v = en.key) acc es.size) : PySem.W.EachIs (Stand C F) acc.toList ks := by
  have hl : es.size = ks.length := by rw [← each_len r.keys, Array.length_toList]
  refine each_of (by rw [Array.length_toList, it.1, hl]) fun i v d e1 e2 => ?_
  obtain ⟨en, h1, h2⟩ := it.2 i v (by rw [← Array.getElem?_toList]; exact e1)
  obtain ⟨d', h3, h4⟩ := each_at r.keys i en (by rw [Array.getElem?_toList]; exact h1)
  rw [e2] at h3
  cases h3
  rw [h2]; exact h4
def DictAt (C : Cfg) (F : Wd) (H : Hp) (p : Addr) (ks : List D) : Prop := ∃ k kas xs vs po, H p = some (dictO C p k ks kas xs po) ∧ DOk C F k ks kas xs vs
def rListD (C : Cfg) : List V → Hp → VK → Prop := fun xs H Q => ∃ (p : Addr) (F : Wd) (ks : List D), xs = [V.ref p] ∧ Fits C F H ∧ DictAt C F H p ks ∧ ∀ zs l, RepL C F zs ks → H l = none → Q (.ref l) (upd H l (.lst zs))
theorem call_listD (h : XOk C N sc top X) (hc : X.calm = true) : CallR X (.type "list") (rListD C) := by
  intro pins s σ H xs us Q I r ⟨p, F, ks, e, f, ⟨k, kas, xs', vs, po, e1, d⟩, q⟩
  subst e
  obtain ⟨u, rfl, ru⟩ := vals1 r
  cases ru
  obtain ⟨o, es, ep, rw2⟩ := raw_of h.eP h.eW I f e1 d
  have hl : es.size = ks.length := by rw [← each_len rw2.keys, Array.length_toList]
  refine PySem.W.kdl_call (kdl_raw rw2.sys rw2.ex rw2.dt) (I.ok.hd hc) rw2.at_ (by rw [hl]; exact rw2.sz) fun h' tk acc' c' kp e it => ?_
  obtain ⟨zs, z1, z2⟩ := stand_list (items_each rw2 it)
  have hz : zs.length ≤ sizeLine := by rw [z2.len]; exact rw2.sz
  exact ⟨.ref s.heap.objs.size, _, I.laid (t' := tk) (o := .lst zs) kp (Nat.le_refl _) ⟨hz, acc'.toList, c', z1, by rw [Array.toArray_toList]; exact e⟩, rfl, q zs _ z2 (I.hok.fresh (Nat.le_refl _))⟩
def rSrtD (C : Cfg) : List V → Hp → VK → Prop := fun xs H Q => ∃ (p : Addr) (F : Wd) (ks : List D), xs = [V.ref p] ∧ Fits C F H ∧ DictAt C F H p ks ∧ oneShp ks = true ∧ ∀ zs l, RepL C F zs (srtD ks) → H l = none → Q (.ref l) (upd H l (.lst zs))
theorem call_srtD (h : XOk C N sc top X) (hc : X.calm = true) : CallR X (.builtin "sorted") (rSrtD C) := by
  intro pins s σ H xs us Q I r ⟨p, F, ks, e, f, ⟨k, kas, xs', vs, po, e1, d⟩, ho, q⟩
  subst e
  obtain ⟨u, rfl, ru⟩ := vals1 r
  cases ru
  have so := oneShp_ok ho
  obtain ⟨o, es, ep, rw2⟩ := raw_of h.eP h.eW I f e1 d
  have hl : es.size = ks.length := by rw [← each_len rw2.keys, Array.length_toList]
  refine Calls.call_function_entry PyProof.Rows.kind_sorted PyProof.Rows.plain_sorted PyProof.Rows.entry_sorted (PyProof.Rows.args_sorted1 _) ?_
  unfold Builtin.«sorted»
  refine wpAny_bind (m := checkCount "sorted" 1 1 _) (wpAny_pure ?_)
  refine wpAny_bind (PySem.W.kdu_collect (A := X.A.in1) (kdl_raw rw2.sys rw2.ex rw2.dt) (I.ok.hd hc) rw2.at_ (by rw [hl]; exact rw2.sz) fun h' tk acc hk hacc => ?_)
  have ea := items_each rw2 hacc
  obtain ⟨ys, y1, y2⟩ := stand_list ea
  have hal : acc.toList.length = ks.length := each_len ea
  have I1 : Inv X pins σ H { s with heap := h', toks := tk } := I.kept hk
  refine wpAny_bind (wpAny_newList ?_ (by rw [hal]; exact rw2.sz))
  have hoL : (h'.push (PyProof.Rows.seqObj "list" acc.toList.toArray 0)).get? h'.objs.size = some (PyProof.Rows.seqObj "list" acc.toList.toArray 0) := Heap.get?_push_size _ rfl
  show wpAny _ _ _ _ _ { s with heap := h'.push (PyProof.Rows.seqObj "list" acc.toList.toArray 0), toks := tk }
  have er : PySem.W.EachIs (fun v d => ∃ as, Reads (PySem.W.sortingHeap (h'.push (PyProof.Rows.seqObj "list" acc.toList.toArray 0)) h'.objs.size acc.toList) v (D.py d) as) acc.toList ks :=
    (each_reads I1 f y1 y2 so.flat).mono fun v d ⟨as, r⟩ => ⟨as, PyProof.Rows.Reads.keeps (fun b ob e => PySem.W.sortingHeap_old (Nat.ne_of_lt (Heap.lt_size e)) (Heap.get?_push_of_some _ e)) r⟩
  have hu : ∀ b, b ∈ ks → X.A.in1.in1.units + (D.py b).depth < cLine := fun b hb => by
    have := (flat_lay b 60 (flatL_mem so.flat b hb)).2
    have := h.un
    rw [Around.in1_units, Around.in1_units]
    omega
  refine wpAny_bind (wpAny_holding (wpAny_call_entry PyProof.Rows.slot_list_sort ⟨_, hoL, rfl⟩ PyProof.Rows.entry_list_sort
    (PySem.W.list_sort_vals (s := { s with heap := h'.push (PyProof.Rows.seqObj "list" acc.toList.toArray 0), toks := tk }) (κ := PySem.W.dataKind (PySem.W.sortingHeap (h'.push (PyProof.Rows.seqObj "list" acc.toList.toArray 0)) h'.objs.size acc.toList) (ks.map D.py)) hoL
      (PySem.W.SortsAt.data (s := { s with heap := PySem.W.sortingHeap (h'.push (PyProof.Rows.seqObj "list" acc.toList.toArray 0)) h'.objs.size acc.toList, toks := tk }) (PySem.W.each_map (R := fun v d => ∃ as, Reads (PySem.W.sortingHeap (h'.push (PyProof.Rows.seqObj "list" acc.toList.toArray 0)) h'.objs.size acc.toList) v d as) D.py er) so.alike so.so (PySem.W.bound_map hu)) (by rw [hal]; exact rw2.sz) ⟨.none, rfl, ?_⟩) (PyProof.Rows.args_list_sort _)))
  obtain ⟨zs, z1, z2⟩ := stand_list (PySem.W.sortVals_data (enc := D.py) false ea er so.alike)
  have hlen : zs.length ≤ sizeLine := by rw [z2.len, List.length_mergeSort]; exact rw2.sz
  obtain ⟨e', he'⟩ := PyProof.Rows.sortedHeap_at (vs := acc.toList) (out := List.toArray (PySem.W.sortVals (PySem.W.dataKind (PySem.W.sortingHeap (h'.push (PyProof.Rows.seqObj "list" acc.toList.toArray 0)) h'.objs.size acc.toList) (ks.map D.py)) false acc.toList acc.toList)) hoL
  refine wpAny_pure ⟨_, rfl, .ref h'.objs.size, upd H h'.objs.size (.lst zs), I1.laid (t' := tk) (fun b u e => ?_) (Nat.le_refl _)
    (show ObjOk X.prog X.w _ _ _ (.lst zs) from ⟨hlen, _, e', z1, he'⟩), rfl, q zs _ z2 (I1.hok.fresh (Nat.le_refl _))⟩
  have hb : b < h'.objs.size := Heap.lt_size e
  rw [PyProof.Rows.sortedHeap_old (Nat.ne_of_lt hb) (by rw [PyProof.Rows.size_push']; exact Nat.lt_succ_of_lt hb)]
  exact Heap.get?_push_of_some _ e
end
end G
namespace G
open PySem L2
mutual
theorem py_inj : ∀ (a b : D) (n m : Nat), a.flat n = true → b.flat m = true → a.py = b.py → a = b
  | .non, b, n, m, h1, h2, e => by cases b <;> first | rfl | (simp [D.py] at e; done) | (cases m <;> simp [D.flat] at h2; done)
  | .bl _, b, n, m, h1, h2, e => by cases b <;> first | (simp [D.py] at e; try (subst e; rfl)) | (cases m <;> simp [D.flat] at h2; done)
  | .int _, b, n, m, h1, h2, e => by cases b <;> first | (simp [D.py] at e; try (subst e; rfl)) | (cases m <;> simp [D.flat] at h2; done)
  | .str s, b, n, m, h1, h2, e => by
    cases b <;> first | (simp only [D.py, PyData.str.injEq] at e; rw [Sx_inj e]) | (simp [D.py] at e; done) | (cases m <;> simp [D.flat] at h2; done)
  | .tup l, b, 0, m, h1, h2, e => by simp [D.flat] at h1
  | .lst l, b, 0, m, h1, h2, e => by simp [D.flat] at h1
  | .tup l, b, n + 1, m, h1, h2, e => by
    cases b <;> first
      | (simp [D.py] at e; done)
      | (cases m <;> simp [D.flat] at h2; done)
      | skip
    rename_i k
    cases m with
    | zero => simp [D.flat] at h2
    | succ m =>
      simp only [D.py, PyData.tuple.injEq] at e
      rw [py_injL l k n m (by simpa [D.flat] using h1) (by simpa [D.flat] using h2) e]
  | .lst l, b, n + 1, m, h1, h2, e => by
    cases b <;> first
      | (simp [D.py] at e; done)
      | (cases m <;> simp [D.flat] at h2; done)
      | skip
    rename_i k
    cases m with
    | zero => simp [D.flat] at h2
    | succ m =>
      simp only [D.py, PyData.list.injEq] at e
      rw [py_injL l k n m (by simpa [D.flat] using h1) (by simpa [D.flat] using h2) e]
  | .byt _, b, n, m, h1, h2, e => by cases n <;> simp [D.flat] at h1
  | .obj _ _, b, n, m, h1, h2, e => by cases n <;> simp [D.flat] at h1
  | .scr _, b, n, m, h1, h2, e => by cases n <;> simp [D.flat] at h1
  | .dict _ _ _, b, n, m, h1, h2, e => by cases n <;> simp [D.flat] at h1
  | .cache _, b, n, m, h1, h2, e => by cases n <;> simp [D.flat] at h1
  | .cls _, b, n, m, h1, h2, e => by cases n <;> simp [D.flat] at h1
theorem py_injL : ∀ (a b : List D) (n m : Nat), D.flatL n a = true → D.flatL m b = true → D.pyL a = D.pyL b → a = b
  | [], [], _, _, _, _, _ => rfl
  | [], _ :: _, _, _, _, _, e => by simp [D.pyL] at e
  | _ :: _, [], _, _, _, _, e => by simp [D.pyL] at e
  | x :: xs, y :: ys, n, m, h1, h2, e => by
    rw [D.flatL, Bool.and_eq_true] at h1 h2
    simp only [D.pyL, List.cons.injEq] at e
    rw [py_inj x y n m h1.1 h2.1 e.1, py_injL xs ys n m h1.2 h2.2 e.2]
end
theorem pyL_map : ∀ l : List D, D.pyL l = l.map D.py
  | [] => rfl
  | d :: ds => by rw [D.pyL, pyL_map ds]; rfl
theorem minL_py : ∀ (l : List D) (m : D), (minL l m).py = PySem.W.minD m.py (l.map D.py)
  | [], m => rfl
  | y :: l, m => by
    have ih := minL_py l (if D.ltB y m then y else m)
    have e1 : minL (y :: l) m = minL l (if D.ltB y m then y else m) := rfl
    have e2 : PySem.W.minD m.py ((y :: l).map D.py) = PySem.W.minD (if PySem.W.dataLt y.py m.py then y.py else m.py) (l.map D.py) := rfl
    rw [e1, ih, e2]
    congr 1
    show (if PySem.W.dataLt y.py m.py then y else m).py = _
    split <;> rfl
theorem minL_mem : ∀ (l : List D) (m : D), minL l m ∈ m :: l
  | [], m => List.mem_cons_self
  | y :: l, m => by
    have ih := minL_mem l (if D.ltB y m then y else m)
    have e1 : minL (y :: l) m = minL l (if D.ltB y m then y else m) := rfl
    rw [e1]
    rcases List.mem_cons.mp ih with h | h
    · rw [h]
      by_cases hb : D.ltB y m = true
      · rw [if_pos hb]; exact List.mem_cons_of_mem _ List.mem_cons_self
      · rw [if_neg hb]; exact List.mem_cons_self
    · exact List.mem_cons_of_mem _ (List.mem_cons_of_mem _ h)
theorem depthAll_le {n : Nat} : ∀ {l : List PyData}, (∀ d ∈ l, d.depth ≤ n) → PyData.depthAll l ≤ n
  | [], _ => by simp [PyData.depthAll]
  | d :: ds, h => by
    have h1 := h d List.mem_cons_self
    have h2 := depthAll_le (l := ds) fun e he => h e (List.mem_cons_of_mem _ he)
    simp only [PyData.depthAll]
    omega
section
variable {C : Cfg} {N : List Str} {sc : Scope} {top : Bool} {X : Cx} {F : Wd} {H : Hp} {x y : V} {dx dy : D} {Q : VK} {Ex : Ec → Hp → Prop}
theorem readsAll_of {pins : List (Addr × Obj)} {σ : L2.St} {s : Shared} (I : Inv X pins σ H s) (f : Fits C F H) {us : List Value} {vs : List V} {ds : List D} (r : Vals vs us) (q : RepL C F vs ds) (h : D.flatL 60 ds = true) : ∃ as, ReadsAll s.heap us (ds.map D.py) as := by
  rw [← pyL_map]
  exact Dp.readsAll I _ _ _ (RepL.dp (K := X.K) f ds 60 vs q h) r
def rMinO (C : Cfg) (K : PySem.W.Frag) : List V → Hp → VK → Prop := fun xs H Q => ∃ (p : Addr) (ys : List V) (F : Wd) (d : D) (ds : List D), xs = [V.ref p] ∧ SqL K H p ys ∧ Fits C F H ∧ RepL C F ys (d :: ds) ∧ oneShp (d :: ds) = true ∧
  ∀ z, Rep C F z (minL ds d) → Q z H
theorem call_minO (h : XOk C N sc top X) (hc : X.calm = true) : CallR X (.builtin "min") (rMinO C X.K) := by
  intro pins s σ H xs us Q I r ⟨p, ys, F, d, ds, e, hq, f, rl, ho, q⟩
  subst e
  obtain ⟨u, rfl, ru⟩ := vals1 r
  cases ru
  have so := oneShp_ok ho
  obtain ⟨its, ri, pl, hz⟩ := I.list hq
  obtain ⟨as, hr⟩ := readsAll_of I f ri rl so.flat
  have hr : ReadsAll s.heap its.toArray.toList (d.py :: ds.map D.py) as := by simpa using hr
  have al : PySem.W.AlikeAll (d.py :: ds.map D.py) := by
    refine ⟨fun a ha b hb => so.alike a (by simpa using ha) b (by simpa using hb), fun a ha => ?_⟩
    have ha' : a ∈ (d :: ds).map D.py := by simpa using ha
    obtain ⟨b, hb, rfl⟩ := List.mem_map.mp ha'
    rcases so.so with h1 | h1
    · obtain ⟨x, r', e⟩ := h1 _ (List.mem_map.mpr ⟨b, hb, rfl⟩)
      rw [e]; simp
    · exact (h1 _ (List.mem_map.mpr ⟨b, hb, rfl⟩)).1
  have hdep : PyData.depthAll (d.py :: ds.map D.py) ≤ 60 := depthAll_le fun e he => by
    have he' : e ∈ (d :: ds).map D.py := by simpa using he
    obtain ⟨b, hb, rfl⟩ := List.mem_map.mp he'
    exact (flat_lay b 60 (flatL_mem so.flat b hb)).2
  refine PySem.W.min_list_data (I.ok.hd hc) pl.isList hr al (by have := h.un; omega) fun i v h' tk bs hv hb hk => ?_
  have hv' : its[i]? = some v := by simpa using hv
  obtain ⟨w, hw, rw'⟩ : ∃ w, ys[i]? = some w ∧ RelV w v := by
    cases e : ys[i]? with
    | none => rw [ri.none_of e] at hv'; cases hv'
    | some w =>
      obtain ⟨u, h1, h2⟩ := ri.get e
      rw [hv'] at h1
      cases h1
      exact ⟨w, rfl, h2⟩
  obtain ⟨b, hb1, hb2⟩ := rl.get2 hw
  have hmem := List.mem_of_getElem? hb1
  obtain ⟨cs, hcs⟩ := (Rep.dp (K := X.K) f b 60 w hb2 (flatL_mem so.flat b hmem)).reads I _ _ _ rw'
  have e1 : PySem.W.minD d.py (ds.map D.py) = b.py := (PyProof.Rows.reads_det (fun b o e _ => hk b o e) hcs hb).1
  rw [← minL_py] at e1
  have e2 : minL ds d = b := py_inj _ _ 60 60 (flatL_mem so.flat _ (minL_mem ds d)) (flatL_mem so.flat b hmem) e1
  exact ⟨w, H, I.kept hk, rw', q w (by rw [e2]; exact hb2)⟩
theorem sumI_ints : ∀ {l : List D} {i : Int}, sumI l = some i → ∃ ns : List Int, l = ns.map D.int ∧ i = ns.sum
  | [], i, h => by cases h; exact ⟨[], rfl, rfl⟩
  | d :: ds, i, h => by
    cases d <;> first | (cases h; done) | skip
    rename_i j
    unfold sumI at h
    cases e : sumI ds with
    | none => rw [e] at h; cases h
    | some k =>
      rw [e] at h
      cases h
      obtain ⟨ns, h1, h2⟩ := sumI_ints e
      exact ⟨j :: ns, by rw [h1]; rfl, by rw [h2]; simp⟩
def rSumT (K : PySem.W.Frag) : List V → Hp → VK → Prop := fun vs H Q => ∃ (a : Addr) (ns : List Int), vs = [V.ref a] ∧ SqT K H a (ns.map V.int) ∧ Q (.int ns.sum) H
theorem cr_sumT (hc : X.calm = true) : CallR X (.builtin "sum") (rSumT X.K) := by
  intro pins s σ H vs us Q I r h
  obtain ⟨a, ns, rfl, hs, q⟩ := h
  obtain ⟨its, rv, hl, _⟩ := I.tuple hs
  rw [Vals.ref1 r]
  have hi := rv.ints
  obtain ⟨xs, e⟩ := hi.allInts.items
  have hn : numsOf (intItems xs).toList = ns := by rw [← e]; exact hi.numsOf
  rw [nums_intItems] at hn
  have hl : s.heap.IsTuple a (intItems xs) := by rw [← e]; exact hl
  refine PySem.W.ktm_sumG (I.ok.hd hc) hl fun h' tk t' hk => ?_
  refine ⟨.int ns.sum, H, I.kept hk, ⟨t', ?_⟩, q⟩
  rw [preSum_eq, List.take_of_length_le (by simp), hn]
theorem allB_bls : ∀ {l : List D} {b : Bool}, allB l = some b → ∃ bs : List Bool, l = bs.map D.bl ∧ b = bs.all id
  | [], b, h => by cases h; exact ⟨[], rfl, rfl⟩
  | d :: ds, b, h => by
    cases d <;> first | (cases h; done) | skip
    rename_i j
    unfold allB at h
    cases e : allB ds with
    | none => rw [e] at h; cases h
    | some k =>
      rw [e] at h
      cases h
      obtain ⟨ns, h1, h2⟩ := allB_bls e
      exact ⟨j :: ns, by rw [h1]; rfl, by rw [h2]; simp⟩
def rListS : List V → Hp → VK → Prop := fun vs H Q => ∃ z : Str, vs = [V.str z] ∧ z.length ≤ sizeLine ∧ ∀ p, H p = none → Q (.ref p) (upd H p (.lst (z.cps.toList.map fun c => V.str ⟨#[c]⟩)))
theorem vals_ix {n : Nat} {g : Nat → V} {acc : Array Value} {P : Nat → Value → Prop} {xs : List V} (it : ItemsOf P acc n) (hl : xs.length = n) (hP : ∀ i v, P i v → ∃ x, xs[i]? = some x ∧ RelV x v) : Vals xs acc.toList :=
  vals_of_idx xs acc.toList (by rw [Array.length_toList, it.1, hl]) fun j u hj => hP j u (it.2 j u (by rw [← Array.getElem?_toList]; exact hj))
theorem call_listS (hc : X.calm = true) : CallR X (.type "list") rListS := by
  intro pins s σ H xs us Q I r ⟨z, e, hz, q⟩
  subst e
  obtain ⟨u, rfl, ru⟩ := vals1 r
  obtain ⟨t, rfl⟩ := ru
  refine call_list_str (I.ok.hd hc) z t (hn := hz) fun h' tk acc' c' hk hS hacc => ?_
  have hp : H s.heap.objs.size = none := I.hok.fresh (Nat.le_refl _)
  have hlen : (z.cps.toList.map fun c => V.str ⟨#[c]⟩).length = z.cps.size := by simp
  refine ⟨.ref s.heap.objs.size, _, I.laid (t' := tk) (o := .lst (z.cps.toList.map fun c => V.str ⟨#[c]⟩)) hk (Nat.le_refl _) ⟨by rw [hlen]; exact hz, acc'.toList, c', ?_, by rw [Array.toArray_toList]; exact hS⟩, rfl, q _ hp⟩
  refine vals_ix (n := z.cps.size) (g := fun _ => .non) hacc hlen fun i v ⟨c, t', h1, h2⟩ => ⟨.str ⟨#[c]⟩, ?_, t', h2⟩
  rw [List.getElem?_map, Array.getElem?_toList, h1]
  rfl
def rListB : List V → Hp → VK → Prop := fun vs H Q => ∃ z : List UInt8, vs = [V.byt z.toArray] ∧ z.length ≤ sizeLine ∧ ∀ p, H p = none → Q (.ref p) (upd H p (.lst (z.map fun c => V.int c.toNat)))
theorem call_listB (hc : X.calm = true) : CallR X (.type "list") rListB := by
  intro pins s σ H xs us Q I r ⟨z, e, hz, q⟩
  subst e
  obtain ⟨u, rfl, ru⟩ := vals1 r
  obtain ⟨t, rfl⟩ := ru
  refine ZB.call_list_bytes (I.ok.hd hc) (by simpa using hz) fun h' tk acc' c' hk hS hacc => ?_
  have hp : H s.heap.objs.size = none := I.hok.fresh (Nat.le_refl _)
  have hlen : (z.map fun c => V.int c.toNat).length = z.toArray.size := by simp
  refine ⟨.ref s.heap.objs.size, _, I.laid (t' := tk) (o := .lst (z.map fun c => V.int c.toNat)) hk (Nat.le_refl _) ⟨by rw [List.length_map]; exact hz, acc'.toList, c', ?_, by rw [Array.toArray_toList]; exact hS⟩, rfl, q _ hp⟩
  refine vals_ix (n := z.toArray.size) (g := fun _ => .non) hacc hlen fun i v ⟨c, t', h1, h2⟩ => ⟨.int c.toNat, ?_, t', h2⟩
  have h1' : z[i]? = some c := by simpa using h1
  rw [List.getElem?_map, h1']
  rfl
end
end G
namespace G
open PySem L2
section
variable {C : Cfg} {N : List Str} {sc : Scope} {top : Bool} {X : Cx} {B : Bs} {Γ : Gam} {W : WX} {pos p : Pos} {a b c : Expr} {es : List Expr} {ra rb : R D} {rs : R (List D)}
theorem eqV_py {x y : V} {dx dy : D} {F : Wd} (rx : Rep C F x dx) (ry : Rep C F y dy) (hx : dx.scal = true) (hy : dy.scal = true) : flatV x = true ∧ flatV y = true ∧ eqV y x = dy.eqv dx := by
  cases dx <;> simp [D.scal] at hx <;> cases dy <;> simp [D.scal] at hy <;>
    (have e1 := rx; have e2 := ry; simp only [Rep] at e1 e2; subst e1 e2; refine ⟨rfl, rfl, ?_⟩) <;> try rfl
  rename_i s t
  simp only [eqV, D.eqv]
  by_cases e : t = s
  · subst e; simp
  · have : Sx t ≠ Sx s := fun z => e (Sx_inj z)
    rw [beq_eq_false_iff_ne.mpr e]
    first
      | exact beq_eq_false_iff_ne.mpr this
      | exact decide_eq_false this
theorem inV_py {x : V} {dx : D} {F : Wd} (rx : Rep C F x dx) (hx : dx.scal = true) : ∀ (l : List D) (vs : List V), RepL C F vs l → l.all D.scal = true → vs.all flatV = true ∧ inV x vs = l.any fun y => y.eqv dx
  | [], vs, q, _ => by rw [show vs = [] from q]; exact ⟨rfl, rfl⟩
  | d :: ds, vs, q, h => by
    obtain ⟨v, r, rfl, q1, q2⟩ := q
    rw [List.all_cons, Bool.and_eq_true] at h
    obtain ⟨_, h2, h3⟩ := eqV_py rx q1 hx h.1
    obtain ⟨h4, h5⟩ := inV_py rx hx ds r q2 h.2
    refine ⟨by rw [List.all_cons, h2, h4]; rfl, ?_⟩
    unfold inV at h5 ⊢
    rw [List.any_cons, List.any_cons, h3, h5]
abbrev r3In (X : Cx) : R2 := fun x y H Q => (fun x y H Q => rInD X.K x y H Q ∨ rIn X.K false x y H Q) x y H Q ∨ (fun x y H Q => ∃ (c : Nat) (z : Str), x = V.str ⟨#[c]⟩ ∧ y = V.str z ∧ Q (.bl (decide (c ∈ z.cps.toList))) H) x y H Q
abbrev r3NotIn (X : Cx) : R2 := fun x y H Q => (fun x y H Q => rNotInD X.K x y H Q ∨ rIn X.K true x y H Q) x y H Q ∨ (fun x y H Q => ∃ (c : Nat) (z : Str), x = V.str ⟨#[c]⟩ ∧ y = V.str z ∧ Q (.bl (!decide (c ∈ z.cps.toList))) H) x y H Q
theorem op_in3 (hu : X.A.units + 65 < cLine) : OpR X (compareOp .In) (r3In X) := ((op_inD hu).or op_in_seq).or op_in_sign
theorem op_notin3 (hu : X.A.units + 65 < cLine) : OpR X (compareOp .NotIn) (r3NotIn X) := ((op_notInD hu).or op_notIn_seq).or op_notIn_sign
abbrev r4In (C : Cfg) (X : Cx) : R2 := fun x y H Q => r3In X x y H Q ∨ rInDict C false x y H Q
abbrev r4NotIn (C : Cfg) (X : Cx) : R2 := fun x y H Q => r3NotIn X x y H Q ∨ rInDict C true x y H Q
theorem op_in4 (h : XOk C N sc top X) : OpR X (compareOp .In) (r4In C X) := (op_in3 (by have := h.un; omega)).or (op_inDict h)
theorem op_notin4 (h : XOk C N sc top X) : OpR X (compareOp .NotIn) (r4NotIn C X) := (op_notin3 (by have := h.un; omega)).or (op_notInDict h)
theorem isKey_lo {k : Bool} {d : D} (h : d.isKey k = true) : d.isLO = false := by
  cases k with
  | true =>
    obtain ⟨j, hj⟩ := isKey_t h
    cases d <;> first | rfl | cases hj
  | false =>
    have h : (d.isTup && d.hk 8) = true := h
    cases d <;> first | rfl | (simp [D.isTup] at h; done)
theorem wt_in {F : Wd} {H : Hp} {x y : V} {dx dy : D} {Q : VK} {Ex : Ec → Hp → Prop} (f : Fits C F H) (rx : RpB C F H x dx) (ry : RpB C F H y dy) (p : Po C RpT F H (inD dx dy) (fun k H' => Q (.bl k) H') Ex) : r4In C X x y H Q := by
  unfold inD at p
  split at p
  · rename_i l
    split at p
    · rename_i h
      rw [Bool.and_eq_true] at h
      refine .inl (.inl (.inl ⟨dx.py, D.pyL l, rx.dp f h.1, ry.dp (n := 61) f (by simpa [D.flat] using h.2), flat_shaped h.1, flatL_shaped h.2, ?_⟩))
      rw [any_pyL dx 60 60 h.1 l h.2]
      exact p.now f rfl
    · exact False.elim p
  · rename_i l
    split at p
    · rename_i h
      rw [Bool.and_eq_true] at h
      have rx' := rx.notlst (by have := h.1; cases dx <;> first | rfl | cases this)
      obtain ⟨b, xs, rfl, hb, r⟩ := (ry.notlst rfl).tup_ f
      obtain ⟨h4, h5⟩ := inV_py rx' h.1 l xs r h.2
      refine .inl (.inl (.inr ⟨b, xs, rfl, .inr (SqT.of hb), ?_, h4, ?_⟩))
      · have hs := h.1
        cases dx <;> first | (cases hs; done) | (rw [show x = _ from rx']; rfl)
      · show Q (.bl (if false = true then !inV x xs else inV x xs)) H
        rw [if_neg Bool.false_ne_true, h5]
        exact p.now f rfl
    · exact False.elim p
  · rename_i s
    split at p
    · rename_i c
      refine .inl (.inr ⟨c, Sx s, rx.notlst rfl, ry.notlst rfl, ?_⟩)
      rw [Sx_cps]
      exact p.now f rfl
    · exact False.elim p
  · rename_i k ks vs
    split at p
    · rename_i hk
      refine .inr ⟨F, dx, k, ks, vs, f, rx.notlst (isKey_lo hk), ry, hk, ?_⟩
      exact p.now f rfl
    · exact False.elim p
  · exact False.elim p
theorem wt_notin {F : Wd} {H : Hp} {x y : V} {dx dy : D} {Q : VK} {Ex : Ec → Hp → Prop} (f : Fits C F H) (rx : RpB C F H x dx) (ry : RpB C F H y dy) (p : Po C RpT F H ((inD dx dy).bind fun c => .ok (!c)) (fun k H' => Q (.bl k) H') Ex) : r4NotIn C X x y H Q := by
  unfold inD at p
  split at p
  · rename_i l
    split at p
    · rename_i h
      rw [Bool.and_eq_true] at h
      refine .inl (.inl (.inl ⟨dx.py, D.pyL l, rx.dp f h.1, ry.dp (n := 61) f (by simpa [D.flat] using h.2), flat_shaped h.1, flatL_shaped h.2, ?_⟩))
      rw [any_pyL dx 60 60 h.1 l h.2]
      exact p.now f rfl
    · exact False.elim p
  · rename_i l
    split at p
    · rename_i h
      rw [Bool.and_eq_true] at h
      have rx' := rx.notlst (by have := h.1; cases dx <;> first | rfl | cases this)
      obtain ⟨b, xs, rfl, hb, r⟩ := (ry.notlst rfl).tup_ f
      obtain ⟨h4, h5⟩ := inV_py rx' h.1 l xs r h.2
      refine .inl (.inl (.inr ⟨b, xs, rfl, .inr (SqT.of hb), ?_, h4, ?_⟩))
      · have hs := h.1
        cases dx <;> first | (cases hs; done) | (rw [show x = _ from rx']; rfl)
      · show Q (.bl (if true = true then !inV x xs else inV x xs)) H
        rw [if_pos rfl, h5]
        exact p.now f rfl
    · exact False.elim p
  · rename_i s
    split at p
    · rename_i c
      refine .inl (.inr ⟨c, Sx s, rx.notlst rfl, ry.notlst rfl, ?_⟩)
      rw [Sx_cps]
      exact p.now f rfl
    · exact False.elim p
  · rename_i k ks vs
    split at p
    · rename_i hk
      refine .inr ⟨F, dx, k, ks, vs, f, rx.notlst (isKey_lo hk), ry, hk, ?_⟩
      exact p.now f rfl
    · exact False.elim p
  · exact False.elim p
theorem RepL.at {F : Wd} {l : List D} {xs : List V} {i : Int} {d : D} (r : RepL C F xs l) (h : atI l i = some d) : ∃ v, atI xs i = some v ∧ Rep C F v d := by
  unfold atI at h ⊢
  rw [r.len]
  cases e : ixN l.length i with
  | none => rw [e] at h; cases h
  | some j =>
    rw [e] at h
    exact r.get h
theorem atI_map {l : List Int} {i : Int} {n : Int} (h : atI l i = some n) : atI (l.map V.int) i = some (V.int n) := by
  unfold atI at h ⊢
  rw [List.length_map]
  cases e : ixN l.length i with
  | none => rw [e] at h; cases h
  | some j =>
    rw [e] at h
    show (l.map V.int)[j]? = _
    rw [List.getElem?_map, show l[j]? = some n from h]
    rfl
theorem wt_item (h : XOk C N sc top X) {F2 : Wd} {H2 : Hp} {x y : V} {dx dy : D} {Q : VK} {Ex : Ec → Hp → Prop} (f2 : Fits C F2 H2) (r1 : RpB C F2 H2 x dx) (r2 : Rep C F2 y dy) (p2 : Po C (RpD C) F2 H2 (itemD dx dy) Q Ex) : rIx X.K x y H2 Q ∨ rIxDict C x y H2 Q := by
  unfold itemD at p2
  split at p2
  · rename_i l i
    split at p2
    · rename_i d hd
      obtain ⟨q, xs, rfl, hq, r⟩ := r1.lst f2
      obtain ⟨v, hv, rv⟩ := r.at hd
      exact .inl (.inl ⟨q, xs, i, v, rfl, r2, SqL.of hq, hv, p2.now f2 rv⟩)
    · exact False.elim p2
  · rename_i l i
    split at p2
    · rename_i d hd
      obtain ⟨q, xs, rfl, hq, r⟩ := (r1.notlst rfl).tup_ f2
      obtain ⟨v, hv, rv⟩ := r.at hd
      exact .inl (.inr (.inl ⟨q, xs, i, v, rfl, r2, SqT.of hq, hv, p2.now f2 rv⟩))
    · exact False.elim p2
  · rename_i s i
    split at p2
    · rename_i hl
      split at p2
      · rename_i c hc
        exact .inl (.inr (.inr ⟨Sx s, i, c, r1.notlst rfl, r2, by rw [Sx_len, line_eq]; exact hl, by rw [Sx_cps]; exact hc, p2.now f2 rfl⟩))
      · exact False.elim p2
    · exact False.elim p2
  · rename_i l i
    split at p2
    · rename_i n hn
      obtain ⟨q, rfl, hq⟩ := r1.notlst rfl
      refine .inl (.inl ⟨q, l.map V.int, i, .int n, rfl, r2, ?_, atI_map hn, p2.now f2 rfl⟩)
      rw [h.eK]
      exact SqL.le f2.fo hq
    · exact False.elim p2
  · rename_i k ks vs
    split at p2
    · rename_i hk
      split at p2
      · rename_i d hd
        exact .inr ⟨F2, dy, d, k, ks, vs, f2, r2, r1, hk, hd, fun v rv => p2.now f2 rv⟩
      · exact False.elim p2
    · exact False.elim p2
  · exact False.elim p2
theorem nd_item (h : XOk C N sc top X) (ha : PE X a (tB C B Γ W ra)) (hb : PE X b (tD C B Γ W rb)) (ob : okx b = true) : PE X (.Subscript a b pos) (tD C B Γ W (ra.bind fun x => rb.bind fun y => itemD x y)) :=
  (pe_ix ((ix_seq (X := X)).or (ix_dict h)) ha hb (plainIx_ok ob)).imp fun σ H Q ⟨F, s, p⟩ => ⟨F, s, p.bind.mono fun x H1 ⟨F1, dx, e1, f1, r1, _, p1⟩ => ⟨F1, s.ext_ e1 f1, p1.bind.mono fun y H2 ⟨F2, dy, e2, f2, r2, _, p2⟩ =>
    wt_item h f2 (r1.ext e2) r2 p2⟩⟩
def tP (C : Cfg) (B : Bs) (Γ : Gam) (W : WX) (r : R (Option Int)) : TO := fun σ H Q => ∃ F, SR C B F H σ Γ ∧ Po C (fun _ _ v d => v = d) F H r Q (Wx C W σ)
theorem PO.imp {e : Option Expr} {t t' : TO} (h : PO X e t) (i : ∀ σ H Q, t' σ H Q → t σ H Q) : PO X e t' :=
  ⟨fun pins s σ H Q I q => h.run pins s σ H Q I (i σ H Q q)⟩
theorem wt_part {F1 : Wd} {H1 : Hp} {x : V} {dx : D} {Q : Option Int → Hp → Prop} {Ex : Ec → Hp → Prop} (f1 : Fits C F1 H1) (r1 : Rep C F1 x dx) (p1 : Po C (fun _ _ v d => v = d) F1 H1 (partD dx) Q Ex) : ∃ i, x = .int i ∧ Q (some i) H1 := by
  unfold partD at p1
  split at p1
  · rename_i i
    exact ⟨i, r1, p1.now f1 rfl⟩
  · exact False.elim p1
theorem nd_part (ha : PE X a (tD C B Γ W ra)) : PO X (some a) (tP C B Γ W (ra.bind partD)) :=
  PO.imp (po_some ha) fun σ H Q ⟨F, s, p⟩ => ⟨F, s, p.bind.mono fun x H1 ⟨F1, dx, e1, f1, r1, _, p1⟩ => wt_part f1 r1 p1⟩
theorem nd_nopart : PO X none (tP C B Γ W (.ok none)) := PO.imp po_none fun σ H Q ⟨F, s, p⟩ => p.now s.fits rfl
theorem RepL.cut {F : Wd} {l : List D} {xs : List V} (r : RepL C F xs l) (lo hi : Option Int) : RepL C F (cutV xs lo hi) (cutL l lo hi) := by
  unfold cutV cutL
  rw [r.len]
  exact (r.drop _).take _
theorem cut_whole {α : Type} {l : List α} {lo hi : Option Int} (h : HT.sIx l.length 0 lo = 0 ∧ HT.sIx l.length l.length hi = l.length) : cutL l lo hi = l := by
  unfold cutL
  rw [h.1, h.2]
  simp
theorem wt_slice {H0 : Hp} {F3 : Wd} {H3 : Hp} {x : V} {dx : D} {l u : Option Int} {Q : VK} {Ex : Ec → Hp → Prop} (hf : ∀ p, H3 p = none → H0 p = none) (f3 : Fits C F3 H3) (r1 : RpB C F3 H3 x dx) (p3 : Po C (RpN C H0) F3 H3 (sliceD dx l u) Q Ex) :
    (rSlL X.K x l u H3 Q ∨ rSlA X.K x l u H3 Q) ∨ rSlS x l u H3 Q := by
  unfold sliceD at p3
  split at p3
  · rename_i xs0
    obtain ⟨q, xs, rfl, hq, r⟩ := r1.lst f3
    refine .inl (.inl ⟨q, xs, rfl, SqL.of hq, fun t ht => ?_⟩)
    exact p3 _ _ _ ((Ext.refl F3 H3).fresh ht) (f3.fresh ht) ⟨t, _, rfl, hf t ht, f3.free ht, upd_same, r.cut _ _⟩
  · rename_i xs0
    have rr := r1.notlst rfl
    obtain ⟨q, xs, rfl, hq, r⟩ := rr.tup_ f3
    refine .inl (.inr ⟨q, xs, rfl, SqT.of hq, fun hw => ?_, fun hw t ht => ?_⟩)
    · refine p3.now f3 ?_
      rw [r.len] at hw
      show Rep C F3 _ (.tup _)
      rw [cut_whole hw]
      exact rr
    · obtain ⟨e', f'⟩ := laid (u := .tup (cutV xs l u)) f3 ht
      exact p3 _ _ _ e' f' ⟨t, _, rfl, updW_same, RepL.le (laid_le f3 ht) _ _ (r.cut _ _)⟩
  · rename_i z
    split at p3
    · rename_i hz
      refine .inr ⟨Sx z, r1.notlst rfl, by rw [Sx_len, line_eq]; exact hz, ?_⟩
      refine p3.now f3 ?_
      show V.str (cutS (Sx z) l u) = V.str (Sx (cutL z l u))
      unfold cutS cutL
      rw [Sx_cps, Sx_len]
    · exact False.elim p3
  · exact False.elim p3
theorem nd_slice {lo hi : Option Expr} {rl rh : R (Option Int)} {p2 : Pos} (ha : PE X a (tB C B Γ W ra)) (hl : PO X lo (tP C B Γ W rl)) (hh : PO X hi (tP C B Γ W rh)) :
    PE X (.Subscript a (.Slice lo hi none p2) pos) (tN C B Γ W (ra.bind fun x => rl.bind fun l => rh.bind fun h => sliceD x l h)) := by
  refine (pe_slice ((sl_list (X := X).or sl_tupA).or sl_str) ha hl hh).imp fun σ H Q ⟨F, s, p⟩ => ⟨F, s, p.bind.mono fun x H1 ⟨F1, dx, e1, f1, r1, _, p1⟩ => ⟨F1, s.ext_ e1 f1, p1.bind.mono fun l H2 ⟨F2, l', e2, f2, el, _, p2⟩ =>
    ⟨F2, s.ext_ (e1.trans e2) f2, p2.bind.mono fun u H3 ⟨F3, u', e3, f3, eu, _, p3⟩ => ?_⟩⟩⟩
  cases el
  cases eu
  exact wt_slice (fun t ht => ((e1.trans e2).trans e3).free0 s.fits f3 ht) f3 ((r1.ext e2).ext e3) p3
inductive PL (C : Cfg) (X : Cx) (B : Bs) (Γ : Gam) (W : WX) : List Expr → R (List D) → Prop where
  | nil : PL C X B Γ W [] (.ok [])
  | cons {e : Expr} {es : List Expr} {r : R D} {rs : R (List D)} : okx e = true → PE X e (tD C B Γ W r) → PL C X B Γ W es rs → PL C X B Γ W (e :: es) (r.bind fun x => rs.bind fun xs => .ok (x :: xs))
theorem PL.ok (h : PL C X B Γ W es rs) : es.all okx = true := by
  induction h with
  | nil => rfl
  | cons o _ _ ih => rw [List.all_cons, o, ih]; rfl
theorem PL.pa (h : PL C X B Γ W es rs) : PA X es (tL C B Γ W rs) := by
  induction h with
  | nil => exact pa_nil.imp fun σ H Q ⟨F, s, p⟩ => p.now s.fits rfl
  | cons o he hl ih =>
    refine (pa_cons he ih (star_cons o)).imp fun σ H Q ⟨F, s, p⟩ => ⟨F, s, p.bind.mono fun x H1 ⟨F1, dx, e1, f1, r1, _, p1⟩ => ⟨F1, s.ext_ e1 f1, p1.bind.mono fun xs H2 ⟨F2, ds, e2, f2, r2, _, p2⟩ => ?_⟩⟩
    exact p2.now f2 ⟨_, _, rfl, Rep.le e2.le _ _ r1, r2⟩
theorem nd_tup {k : Nat} (h : PL C X B Γ W es rs) : PE X (.Tuple es k pos) (tD C B Γ W (rs.bind fun ds => if ds.length ≤ LINE then .ok (.tup ds) else .bad)) :=
  (pe_tup h.pa).imp fun σ H Q ⟨F, s, p⟩ => ⟨F, s, p.bind.mono fun xs H1 ⟨F1, ds, e1, f1, r1, _, p1⟩ => by
    split at p1
    · rename_i hl
      refine ⟨by rw [r1.len, line_eq]; exact hl, fun t ht => ?_⟩
      obtain ⟨e', f'⟩ := laid (u := .tup xs) f1 ht
      exact p1 _ _ _ e' f' ⟨t, _, rfl, updW_same, RepL.le (laid_le f1 ht) _ _ r1⟩
    · exact False.elim p1⟩
theorem nd_lst (h : PL C X B Γ W es rs) : PE X (.List es pos) (tN C B Γ W (rs.bind fun ds => if ds.length ≤ LINE then .ok (.lst ds) else .bad)) :=
  (pe_lst h.pa).imp fun σ H Q ⟨F, s, p⟩ => ⟨F, s, p.bind.mono fun xs H1 ⟨F1, ds, e1, f1, r1, _, p1⟩ => by
    split at p1
    · rename_i hl
      refine ⟨by rw [r1.len, line_eq]; exact hl, fun t ht => ?_⟩
      exact p1 _ _ _ ((Ext.refl F1 H1).fresh ht) (f1.fresh ht) ⟨t, _, rfl, e1.free0 s.fits f1 ht, f1.free ht, upd_same, r1⟩
    · exact False.elim p1⟩
theorem pa_one {te : TE} (ha : PE X a te) (o : okx a = true) : PA X [a] (tCons te tNil) := pa_cons ha pa_nil (star_cons o)
theorem one_any {env : Env} : (backTo pos (starEach [] env)).any (·.1) = false := rfl
theorem nd_f1B {id : String} {x : Str} {r : List V → Hp → VK → Prop} {g : D → R D} (h : XOk C N sc top X) (hc : CallR X (.builtin id) r) (hv : bootBuiltins x = some (.builtin id)) (hm : C.mg x = none) (hg : glB sc x = true) (o : okx a = true)
    (ha : PE X a (tB C B Γ W ra)) (hw : ∀ H0 F H v d Q Ex, (∀ p, H p = none → H0 p = none) → Fits C F H → RpB C F H v d → Po C (RpN C H0) F H (g d) Q Ex → r [v] H Q) :
    PE X (.Call (.Name x p) [a] [] pos) (tN C B Γ W (ra.bind g)) :=
  (pe_callB hc (h.gl hg) (by rw [h.eM]; exact hm) hv (pa_one ha o) (nm_n (glB_nm hg)) (nm_d (glB_nm hg)) (star_cons o) one_any).imp fun σ H Q ⟨F, s, q⟩ => ⟨F, s, q.bind.mono fun v H1 ⟨F1, d, e1, f1, r1, _, p1⟩ =>
    hw H F1 H1 v d Q _ (fun t ht => e1.free0 s.fits f1 ht) f1 r1 p1⟩
theorem nd_f1T {T : String} {x : Str} {r : List V → Hp → VK → Prop} {g : D → R D} (h : XOk C N sc top X) (hc : CallR X (.type T) r) (hv : bootBuiltins x = some (.type T)) (hm : C.mg x = none) (hg : glB sc x = true) (o : okx a = true)
    (ha : PE X a (tB C B Γ W ra)) (hw : ∀ H0 F H v d Q Ex, (∀ p, H p = none → H0 p = none) → Fits C F H → RpB C F H v d → Po C (RpN C H0) F H (g d) Q Ex → r [v] H Q) :
    PE X (.Call (.Name x p) [a] [] pos) (tN C B Γ W (ra.bind g)) :=
  (pe_callTy hc (h.gl hg) (by rw [h.eM]; exact hm) hv (pa_one ha o) (nm_n (glB_nm hg)) (nm_d (glB_nm hg)) (star_cons o) one_any).imp fun σ H Q ⟨F, s, q⟩ => ⟨F, s, q.bind.mono fun v H1 ⟨F1, d, e1, f1, r1, _, p1⟩ =>
    hw H F1 H1 v d Q _ (fun t ht => e1.free0 s.fits f1 ht) f1 r1 p1⟩
theorem wt_len (h : XOk C N sc top X) (H0 : Hp) (F : Wd) (H : Hp) (v : V) (d : D) (Q : VK) (Ex : Ec → Hp → Prop) (hf : ∀ p, H p = none → H0 p = none) (f : Fits C F H) (r : RpB C F H v d) (q : Po C (RpN C H0) F H (lenD d) Q Ex) :
    ∃ x n, [v] = [x] ∧ LenV X.K x H n ∧ Q (.int n) H := by
  unfold lenD at q
  split at q
  · rename_i l
    obtain ⟨a, xs, rfl, ha, rl⟩ := r.lst f
    exact ⟨_, _, rfl, .inl ⟨xs, SqL.of ha, rfl⟩, by rw [rl.len]; exact q.now f rfl⟩
  · rename_i l
    obtain ⟨a, xs, rfl, ha, rl⟩ := (r.notlst rfl).tup_ f
    exact ⟨_, _, rfl, .inr ⟨xs, SqT.of ha, rfl⟩, by rw [rl.len]; exact q.now f rfl⟩
  · rename_i s
    split at q
    · rename_i hl
      have e := r.notlst rfl
      rw [show v = _ from e]
      exact ⟨_, _, rfl, ⟨by rw [Sx_len, line_eq]; exact hl, rfl⟩, by rw [Sx_len]; exact q.now f rfl⟩
    · exact False.elim q
  · rename_i l
    obtain ⟨a, rfl, ha⟩ := r.notlst rfl
    refine ⟨_, _, rfl, .inl ⟨l.map V.int, ?_, rfl⟩, by rw [List.length_map]; exact q.now f rfl⟩
    rw [h.eK]
    exact SqL.le f.fo ha
  · rename_i s
    split at q
    · rename_i hl
      have e := r.notlst rfl
      rw [show v = _ from e]
      exact ⟨_, _, rfl, ⟨by rw [line_eq]; simpa using hl, rfl⟩, by rw [List.size_toArray]; exact q.now f rfl⟩
    · exact False.elim q
  · exact False.elim q
theorem wt_int (H0 : Hp) (F : Wd) (H : Hp) (v : V) (d : D) (Q : VK) (Ex : Ec → Hp → Prop) (hf : ∀ p, H p = none → H0 p = none) (f : Fits C F H) (r : RpB C F H v d) (q : Po C (RpN C H0) F H (f1D .int d) Q Ex) :
    (∃ i, [v] = [V.int i] ∧ Q (.int i) H) ∨ ∃ k, [v] = [V.bl k] ∧ Q (.int (if k then 1 else 0)) H := by
  cases d with
  | int i => exact .inl ⟨i, by rw [show v = _ from r.notlst rfl], Po.now q f rfl⟩
  | bl b => exact .inr ⟨b, by rw [show v = _ from r.notlst rfl], Po.now q f rfl⟩
  | _ => exact False.elim q
theorem Sx_itoa (i : Int) : Sx (itoa i) = Str.ofString (toString i) := by unfold Sx itoa; simp
theorem log_lt {i : Int} (h : i.natAbs < 18446744073709551616) : i.natAbs.log2 < 1920 := by
  by_cases z : i.natAbs = 0
  · rw [z]; decide
  · exact Nat.lt_trans ((Nat.log2_lt z).mpr (show i.natAbs < 2 ^ 64 from h)) (by decide)
theorem wt_str (H0 : Hp) (F : Wd) (H : Hp) (v : V) (d : D) (Q : VK) (Ex : Ec → Hp → Prop) (hf : ∀ p, H p = none → H0 p = none) (f : Fits C F H) (r : RpB C F H v d) (q : Po C (RpN C H0) F H (f1D .str d) Q Ex) :
    ∃ i : Int, [v] = [V.int i] ∧ i.natAbs.log2 < 1920 ∧ Q (.str (toString i)) H := by
  cases d with
  | int i =>
    have q : Po C (RpN C H0) F H (if i.natAbs < 18446744073709551616 then .ok (.str (itoa i)) else .bad) Q Ex := q
    split at q
    · rename_i hi
      refine ⟨i, by rw [show v = _ from r.notlst rfl], log_lt hi, Po.now q f ?_⟩
      show V.str _ = V.str _
      rw [Sx_itoa]
    · exact False.elim q
  | _ => exact False.elim q
theorem nd_fmt (ha : PE X a (tD C B Γ W ra)) : PE X (.FormattedValue a (-1) none pos) (tD C B Γ W (ra.bind fmtD)) :=
  (pe_fmt ha).imp fun σ H Q ⟨F, s, q⟩ => ⟨F, s, q.bind.mono fun v H1 ⟨F1, d, e1, f1, r1, _, p1⟩ => by
    cases d with
    | str s =>
      have p1 : Po C (RpD C) F1 H1 (if s.length ≤ 100000 then .ok (.str s) else .bad) Q (Wx C W σ) := p1
      split at p1
      · rename_i hl
        exact .inl ⟨Sx s, r1, by rw [Sx_len, line_eq]; exact Nat.le_trans hl (by decide), p1.now f1 rfl⟩
      · exact False.elim p1
    | int i =>
      have p1 : Po C (RpD C) F1 H1 (if i.natAbs < 18446744073709551616 then .ok (.str (itoa i)) else .bad) Q (Wx C W σ) := p1
      split at p1
      · rename_i hi
        refine .inr ⟨i, r1, log_lt hi, p1.now f1 ?_⟩
        show V.str _ = V.str _
        rw [Sx_itoa]
      · exact False.elim p1
    | _ => exact False.elim p1⟩
theorem wt_tuple (H0 : Hp) (F : Wd) (H : Hp) (v : V) (d : D) (Q : VK) (Ex : Ec → Hp → Prop) (hf : ∀ p, H p = none → H0 p = none) (f : Fits C F H) (r : RpB C F H v d) (q : Po C (RpN C H0) F H (f1D .tuple d) Q Ex) :
    ∃ p ys, [v] = [V.ref p] ∧ ((SqL X.K H p ys ∧ ∀ l, H l = none → Q (.ref l) (upd H l (.tup ys))) ∨ (SqT X.K H p ys ∧ Q (.ref p) H)) := by
  cases d with
  | lst l =>
    obtain ⟨a, xs, rfl, ha, rl⟩ := r.lst f
    refine ⟨a, xs, rfl, .inl ⟨SqL.of ha, fun t ht => ?_⟩⟩
    obtain ⟨e', f'⟩ := laid (u := .tup xs) f ht
    exact q _ _ _ e' f' ⟨t, _, rfl, updW_same, RepL.le (laid_le f ht) _ _ rl⟩
  | tup l =>
    have rr := r.notlst rfl
    obtain ⟨a, xs, rfl, ha, rl⟩ := rr.tup_ f
    exact ⟨a, xs, rfl, .inr ⟨SqT.of ha, Po.now q f rr⟩⟩
  | _ => exact False.elim q
abbrev rList0 (K : PySem.W.Frag) : List V → Hp → VK → Prop := fun vs H Q => ∃ p ys, vs = [V.ref p] ∧ (SqL K H p ys ∨ SqT K H p ys) ∧ ∀ l, H l = none → Q (.ref l) (upd H l (.lst ys))
abbrev rList3 (C : Cfg) (K : PySem.W.Frag) : List V → Hp → VK → Prop := fun vs H Q => (fun vs H Q => (fun vs H Q => rList0 K vs H Q ∨ rListD C vs H Q) vs H Q ∨ rListS vs H Q) vs H Q ∨ rListB vs H Q
theorem call_list3 (h : XOk C N sc top X) (hc : X.calm = true) : CallR X (.type "list") (rList3 C X.K) := (((call_list_of (X := X)).or (call_listD h hc)).or (call_listS hc)).or (call_listB hc)
theorem RpB.dictAt {F : Wd} {H : Hp} {v : V} {k : Bool} {ks vs : List D} (q : RpB C F H v (.dict k ks vs)) (f : Fits C F H) : ∃ a, v = .ref a ∧ DictAt C F H a ks := by
  obtain ⟨a, kas, xs, po, e, h, d⟩ := q.dict f
  exact ⟨a, e, k, kas, xs, vs, po, h, d⟩
theorem RepL.strs {F : Wd} : ∀ (s : List Nat), RepL C F (s.map fun c => V.str ⟨#[c]⟩) (s.map fun c => D.str [c])
  | [] => rfl
  | c :: r => ⟨_, _, rfl, rfl, RepL.strs r⟩
theorem RepL.byts {F : Wd} : ∀ (s : List UInt8), RepL C F (s.map fun c => V.int c.toNat) (s.map fun c => D.int c.toNat)
  | [] => rfl
  | c :: r => ⟨_, _, rfl, rfl, RepL.byts r⟩
theorem wt_list (H0 : Hp) (F : Wd) (H : Hp) (v : V) (d : D) (Q : VK) (Ex : Ec → Hp → Prop) (hf : ∀ p, H p = none → H0 p = none) (f : Fits C F H) (r : RpB C F H v d) (q : Po C (RpN C H0) F H (f1D .list d) Q Ex) : rList3 C X.K [v] H Q := by
  cases d with
  | lst l =>
    obtain ⟨a, xs, rfl, ha, rl⟩ := r.lst f
    exact .inl (.inl (.inl ⟨a, xs, rfl, .inl (SqL.of ha), fun t ht => q _ _ _ ((Ext.refl F H).fresh ht) (f.fresh ht) ⟨t, _, rfl, hf t ht, f.free ht, upd_same, rl⟩⟩))
  | tup l =>
    obtain ⟨a, xs, rfl, ha, rl⟩ := (r.notlst rfl).tup_ f
    exact .inl (.inl (.inl ⟨a, xs, rfl, .inr (SqT.of ha), fun t ht => q _ _ _ ((Ext.refl F H).fresh ht) (f.fresh ht) ⟨t, _, rfl, hf t ht, f.free ht, upd_same, rl⟩⟩))
  | dict k ks vs =>
    obtain ⟨a, rfl, da⟩ := r.dictAt f
    exact .inl (.inl (.inr ⟨a, F, ks, rfl, f, da, fun zs t rz ht => q _ _ _ ((Ext.refl F H).fresh ht) (f.fresh ht) ⟨t, _, rfl, hf t ht, f.free ht, upd_same, rz⟩⟩))
  | str s =>
    have q : Po C (RpN C H0) F H (if s.length ≤ LINE then .ok (.lst (s.map fun c => .str [c])) else .bad) Q Ex := q
    split at q
    · rename_i hl
      refine .inl (.inr ⟨Sx s, by rw [show v = _ from r.notlst rfl], by rw [Sx_len, line_eq]; exact hl, fun t ht => ?_⟩)
      rw [Sx_cps]
      exact q _ _ _ ((Ext.refl F H).fresh ht) (f.fresh ht) ⟨t, _, rfl, hf t ht, f.free ht, upd_same, RepL.strs s⟩
    · exact False.elim q
  | byt s =>
    have q : Po C (RpN C H0) F H (if s.length ≤ LINE then .ok (.lst (s.map fun c => .int c.toNat)) else .bad) Q Ex := q
    split at q
    · rename_i hl
      exact .inr ⟨s, by rw [show v = _ from r.notlst rfl], by rw [line_eq]; exact hl, fun t ht => q _ _ _ ((Ext.refl F H).fresh ht) (f.fresh ht) ⟨t, _, rfl, hf t ht, f.free ht, upd_same, RepL.byts s⟩⟩
    · exact False.elim q
  | _ => exact False.elim q
abbrev rSrt2 (C : Cfg) (K : PySem.W.Frag) : List V → Hp → VK → Prop := fun vs H Q => rSrt C K vs H Q ∨ rSrtD C vs H Q
theorem call_srt2 (h : XOk C N sc top X) (hc : X.calm = true) : CallR X (.builtin "sorted") (rSrt2 C X.K) := (call_srt h).or (call_srtD h hc)
theorem wt_srt (H0 : Hp) (F : Wd) (H : Hp) (v : V) (d : D) (Q : VK) (Ex : Ec → Hp → Prop) (hf : ∀ p, H p = none → H0 p = none) (f : Fits C F H) (r : RpB C F H v d) (q : Po C (RpN C H0) F H (f1D .sorted d) Q Ex) : rSrt2 C X.K [v] H Q := by
  cases d with
  | lst l =>
    have q : Po C (RpN C H0) F H (if oneShp l then .ok (.lst (srtD l)) else .bad) Q Ex := q
    split at q
    · rename_i hl
      obtain ⟨a, xs, rfl, ha, rl⟩ := r.lst f
      exact .inl ⟨a, xs, F, l, rfl, SqL.of ha, f, rl, hl, fun zs t rz ht => q _ _ _ ((Ext.refl F H).fresh ht) (f.fresh ht) ⟨t, _, rfl, hf t ht, f.free ht, upd_same, rz⟩⟩
    · exact False.elim q
  | dict k ks vs =>
    have q : Po C (RpN C H0) F H (if oneShp ks then .ok (.lst (srtD ks)) else .bad) Q Ex := q
    split at q
    · rename_i hl
      obtain ⟨a, rfl, da⟩ := r.dictAt f
      exact .inr ⟨a, F, ks, rfl, f, da, hl, fun zs t rz ht => q _ _ _ ((Ext.refl F H).fresh ht) (f.fresh ht) ⟨t, _, rfl, hf t ht, f.free ht, upd_same, rz⟩⟩
    · exact False.elim q
  | _ => exact False.elim q
theorem RpN.srt {H0 : Hp} {F : Wd} {H : Hp} {v : V} {d : D} (q : Rep C F v d) (n : d.isLO = false) : RpN C H0 F H v d := by
  cases d <;> first | exact q | cases n
theorem wt_min (H0 : Hp) (F : Wd) (H : Hp) (v : V) (d : D) (Q : VK) (Ex : Ec → Hp → Prop) (hf : ∀ p, H p = none → H0 p = none) (f : Fits C F H) (r : RpB C F H v d) (q : Po C (RpN C H0) F H (f1D .min d) Q Ex) : rMinO C X.K [v] H Q := by
  cases d with
  | lst l =>
    cases l with
    | nil => exact False.elim q
    | cons x l =>
      have q : Po C (RpN C H0) F H (if oneShp (x :: l) then (if (minL l x).isLO then .bad else .ok (minL l x)) else .bad) Q Ex := q
      split at q
      · rename_i hl
        split at q
        · exact False.elim q
        · rename_i hlo
          obtain ⟨a, xs, rfl, ha, rl⟩ := r.lst f
          exact ⟨a, xs, F, x, l, rfl, SqL.of ha, f, rl, hl, fun z rz => q.now f (RpN.srt rz (by simpa using hlo))⟩
      · exact False.elim q
  | _ => exact False.elim q
abbrev rSum2 (K : PySem.W.Frag) : List V → Hp → VK → Prop := fun vs H Q => rSum K vs H Q ∨ rSumT K vs H Q
theorem call_sum2 (hc : X.calm = true) : CallR X (.builtin "sum") (rSum2 X.K) := (cr_sum hc).or (cr_sumT hc)
theorem wt_sum (H0 : Hp) (F : Wd) (H : Hp) (v : V) (d : D) (Q : VK) (Ex : Ec → Hp → Prop) (hf : ∀ p, H p = none → H0 p = none) (f : Fits C F H) (r : RpB C F H v d) (q : Po C (RpN C H0) F H (f1D .sum d) Q Ex) : rSum2 X.K [v] H Q := by
  cases d with
  | lst l =>
    have q : Po C (RpN C H0) F H (match sumI l with | some i => .ok (.int i) | none => .bad) Q Ex := q
    split at q
    · rename_i i hi
      obtain ⟨ns, rfl, rfl⟩ := sumI_ints hi
      obtain ⟨a, xs, rfl, ha, rl⟩ := r.lst f
      have := RepL.ints rl
      subst this
      exact .inl ⟨a, ns, rfl, SqL.of ha, q.now f rfl⟩
    · exact False.elim q
  | tup l =>
    have q : Po C (RpN C H0) F H (match sumI l with | some i => .ok (.int i) | none => .bad) Q Ex := q
    split at q
    · rename_i i hi
      obtain ⟨ns, rfl, rfl⟩ := sumI_ints hi
      obtain ⟨a, xs, rfl, ha, rl⟩ := (r.notlst rfl).tup_ f
      have := RepL.ints rl
      subst this
      exact .inr ⟨a, ns, rfl, SqT.of ha, q.now f rfl⟩
    · exact False.elim q
  | _ => exact False.elim q
theorem RepL.bls {F : Wd} {l : List Bool} : ∀ {vs : List V}, RepL C F vs (l.map D.bl) → vs = l.map V.bl := by
  induction l with
  | nil => intro vs q; exact q
  | cons i r ih =>
    intro vs q
    obtain ⟨v, r', rfl, q1, q2⟩ := q
    rw [ih q2, show v = .bl i from q1]; rfl
theorem wt_all (H0 : Hp) (F : Wd) (H : Hp) (v : V) (d : D) (Q : VK) (Ex : Ec → Hp → Prop) (hf : ∀ p, H p = none → H0 p = none) (f : Fits C F H) (r : RpB C F H v d) (q : Po C (RpN C H0) F H (f1D .all d) Q Ex) : rAll X.K [v] H Q := by
  cases d with
  | lst l =>
    have q : Po C (RpN C H0) F H (match allB l with | some i => .ok (.bl i) | none => .bad) Q Ex := q
    split at q
    · rename_i i hi
      obtain ⟨bs, rfl, rfl⟩ := allB_bls hi
      obtain ⟨a, xs, rfl, ha, rl⟩ := r.lst f
      have := RepL.bls rl
      subst this
      exact ⟨a, bs, rfl, SqL.of ha, q.now f rfl⟩
    · exact False.elim q
  | _ => exact False.elim q
theorem tru_of (h : XOk C N sc top X) {F : Wd} {H : Hp} {v : V} {d : D} {k : Bool} (f : Fits C F H) (r : Rep C F v d) (e : truD d = .ok k) : TruV X.K v H k := by
  unfold truD at e
  split at e
  · cases e; rw [show v = _ from r]; rfl
  · cases e; rw [show v = _ from r]; rfl
  · cases e; rw [show v = _ from r]; rfl
  · rename_i s
    split at e
    · rename_i hl
      cases e
      rw [show v = _ from r]
      refine ⟨by rw [Sx_len, line_eq]; exact hl, ?_⟩
      rw [Sx_len]
      cases s with
      | nil => rfl
      | cons c t => simp; omega
    · cases e
  · rename_i l
    cases e
    obtain ⟨a, xs, rfl, ha, rl⟩ := r
    refine .inl ⟨xs, SqL.of (f a _ ha), ?_⟩
    have := rl.len
    cases l <;> cases xs <;> first | rfl | (simp at this)
  · rename_i l
    cases e
    obtain ⟨a, xs, rfl, ha, rl⟩ := r
    refine .inr (.inl ⟨xs, SqT.of (f a _ ha), ?_⟩)
    have := rl.len
    cases l <;> cases xs <;> first | rfl | (simp at this)
  · cases e
theorem nd_truth (h : XOk C N sc top X) (ha : PE X a (tD C B Γ W ra)) (he : ∀ whole, isTrue a X.env whole = (do let v ← whole; standAt a.pos; holding [v] (truthy v))) : PT X a (tT C B Γ W (ra.bind truD)) :=
  (pt_truth ha he).imp fun σ H Q ⟨F, s, q⟩ => ⟨F, s, q.bind.mono fun v H1 ⟨F1, d, e1, f1, r1, _, p1⟩ => by
    cases e : truD d with
    | ok k => rw [e] at p1; exact ⟨k, tru_of h f1 r1 e, p1.now f1 rfl⟩
    | exc c =>
      exfalso
      unfold truD at e
      split at e <;> first | cases e | (split at e <;> cases e)
    | bad => rw [e] at p1; exact False.elim p1⟩
theorem nd_and {rest : List Expr} (ha : PE X a (tD C B Γ W ra)) (hb : PE X (.BoolOp .And (b :: rest) pos) (tD C B Γ W rb)) : PE X (.BoolOp .And (a :: b :: rest) pos) (tD C B Γ W (ra.bind fun x => andD x rb)) :=
  (pe_and ha hb).imp fun σ H Q ⟨F, s, q⟩ => ⟨F, s, q.bind.mono fun v H1 ⟨F1, d, e1, f1, r1, _, p1⟩ => by
    cases d with
    | bl k =>
      refine ⟨k, r1, ?_⟩
      cases k with
      | true => exact ⟨F1, s.ext_ e1 f1, p1⟩
      | false => exact Po.now p1 f1 rfl
    | _ => exact False.elim p1⟩
theorem nd_or {rest : List Expr} (h : XOk C N sc top X) (ha : PE X a (tD C B Γ W ra)) (hb : PE X (.BoolOp .Or (b :: rest) pos) (tD C B Γ W rb)) : PE X (.BoolOp .Or (a :: b :: rest) pos) (tD C B Γ W (ra.bind fun x => orD x rb)) :=
  (pe_orT ha hb).imp fun σ H Q ⟨F, s, q⟩ => ⟨F, s, q.bind.mono fun v H1 ⟨F1, d, e1, f1, r1, _, p1⟩ => by
    cases d with
    | bl k =>
      refine ⟨k, tru_of h f1 r1 rfl, ?_⟩
      cases k with
      | true =>
        have : v = .bl true := r1
        rw [this]
        exact Po.now p1 f1 rfl
      | false => exact ⟨F1, s.ext_ e1 f1, p1⟩
    | str t =>
      have p1 : Po C (RpD C) F1 H1 (if t.length ≤ LINE then (if t.isEmpty then rb else .ok (.str t)) else .bad) Q (Wx C W σ) := p1
      by_cases hz : t.length ≤ LINE
      · rw [if_pos hz] at p1
        refine ⟨!t.isEmpty, tru_of h f1 r1 (if_pos hz), ?_⟩
        cases he : t.isEmpty with
        | true => rw [he, if_pos rfl] at p1; exact ⟨F1, s.ext_ e1 f1, p1⟩
        | false => rw [he, if_neg Bool.false_ne_true] at p1; exact Po.now p1 f1 r1
      · rw [if_neg hz] at p1; exact False.elim p1
    | _ => exact False.elim p1⟩
theorem nd_not (ha : PE X a (tD C B Γ W ra)) : PE X (.UnaryOp .Not a pos) (tD C B Γ W (ra.bind notD)) :=
  (pe_not ha).imp fun σ H Q ⟨F, s, q⟩ => ⟨F, s, q.bind.mono fun v H1 ⟨F1, d, e1, f1, r1, _, p1⟩ => by
    cases d with
    | bl k => exact ⟨k, r1, Po.now p1 f1 rfl⟩
    | _ => exact False.elim p1⟩
theorem bind_bind {α β γ : Type} (r : R α) (f : α → R β) (g : β → R γ) : (r.bind f).bind g = r.bind fun x => (f x).bind g := by cases r <;> rfl
theorem pw_andD {rest : List Expr} (ha : PT X a (tT C B Γ W (ra.bind truD))) (hb : PW X (.BoolOp .And (b :: rest) pos) (tT C B Γ W (rb.bind truD))) : PW X (.BoolOp .And (a :: b :: rest) pos) (tT C B Γ W ((ra.bind fun x => andD x rb).bind truD)) :=
  (pw_and ha hb).imp fun σ H Q ⟨F, s, q⟩ => ⟨F, s, by
    cases ra with
    | ok d =>
      cases d with
      | bl k =>
        cases k with
        | true => exact fun c F1 H1 => fun e1 f1 ec => by cases ec; exact ⟨_, s.ext_ e1 f1, Po.ext q e1⟩
        | false => exact fun c F1 H1 => fun e1 f1 ec => by cases ec; exact q _ _ _ e1 f1 rfl
      | _ => exact False.elim q
    | exc c => exact q
    | bad => exact q⟩
theorem pw_orD {rest : List Expr} (ha : PT X a (tT C B Γ W (ra.bind truD))) (hb : PW X (.BoolOp .Or (b :: rest) pos) (tT C B Γ W (rb.bind truD))) : PW X (.BoolOp .Or (a :: b :: rest) pos) (tT C B Γ W ((ra.bind fun x => orD x rb).bind truD)) :=
  (pw_or ha hb).imp fun σ H Q ⟨F, s, q⟩ => ⟨F, s, by
    cases ra with
    | ok d =>
      cases d with
      | bl k =>
        cases k with
        | true => exact fun c F1 H1 => fun e1 f1 ec => by cases ec; exact q _ _ _ e1 f1 rfl
        | false => exact fun c F1 H1 => fun e1 f1 ec => by cases ec; exact ⟨_, s.ext_ e1 f1, Po.ext q e1⟩
      | str t =>
        have q : Po C RpT F H (R.bind (if t.length ≤ LINE then (if t.isEmpty then rb else .ok (.str t)) else .bad) truD) Q (Wx C W σ) := q
        by_cases hz : t.length ≤ LINE
        · rw [if_pos hz] at q
          show Po C RpT F H (if t.length ≤ LINE then R.ok (!t.isEmpty) else .bad) _ _
          rw [if_pos hz]
          cases he : t.isEmpty with
          | true => rw [he, if_pos rfl] at q; exact fun c F1 H1 => fun e1 f1 ec => by cases ec; exact ⟨_, s.ext_ e1 f1, Po.ext q e1⟩
          | false =>
            rw [he, if_neg Bool.false_ne_true] at q
            have q : Po C RpT F H (if t.length ≤ LINE then R.ok (!t.isEmpty) else .bad) Q (Wx C W σ) := q
            rw [if_pos hz, he] at q
            exact fun c F1 H1 => fun e1 f1 ec => by cases ec; exact q _ _ _ e1 f1 rfl
        · rw [if_neg hz] at q; exact False.elim q
      | _ => exact False.elim q
    | exc c => exact q
    | bad => exact q⟩
theorem pt_notD (ha : PT X a (tT C B Γ W (ra.bind truD))) : PT X (.UnaryOp .Not a pos) (tT C B Γ W ((ra.bind notD).bind truD)) :=
  (pt_not ha).imp fun σ H Q ⟨F, s, q⟩ => ⟨F, s, by
    cases ra with
    | ok d =>
      cases d with
      | bl k => exact fun c F1 H1 => fun e1 f1 ec => by cases ec; exact q _ _ _ e1 f1 rfl
      | _ => exact False.elim q
    | exc c => exact q
    | bad => exact q⟩
theorem nd_ite {rc : R D} (hc : PT X c (tT C B Γ W (rc.bind truD))) (ha : PE X a (tD C B Γ W ra)) (hb : PE X b (tD C B Γ W rb)) : PE X (.IfExp c a b pos) (tD C B Γ W (rc.bind fun x => iteD x ra rb)) :=
  (pe_ifExp hc ha hb).imp fun σ H Q ⟨F, s, q⟩ => ⟨F, s, by
    cases rc with
    | ok d =>
      cases d with
      | bl k =>
        cases k with
        | true => exact fun c F1 H1 => fun e1 f1 ec => by cases ec; exact ⟨_, s.ext_ e1 f1, Po.ext q e1⟩
        | false => exact fun c F1 H1 => fun e1 f1 ec => by cases ec; exact ⟨_, s.ext_ e1 f1, Po.ext q e1⟩
      | _ => exact False.elim q
    | exc c => exact q
    | bad => exact q⟩
theorem isN_eq {F : Wd} {v : V} : ∀ {d : D}, Rep C F v d → decide (v = V.non) = d.isN
  | .non, r => by rw [show v = _ from r]; rfl
  | .bl _, r => by rw [show v = _ from r]; rfl
  | .int _, r => by rw [show v = _ from r]; rfl
  | .str _, r => by rw [show v = _ from r]; rfl
  | .byt _, r => by rw [show v = _ from r]; rfl
  | .tup _, ⟨a, xs, e, _⟩ => by rw [e]; rfl
  | .lst _, ⟨a, xs, e, _⟩ => by rw [e]; rfl
  | .obj _ _, ⟨a, dx, xs, e, _⟩ => by rw [e]; rfl
  | .scr _, ⟨a, e, _⟩ => by rw [e]; rfl
  | .dict _ _ _, ⟨a, kas, xs, po, e, _⟩ => by rw [e]; rfl
  | .cache _, ⟨a, e, _⟩ => by rw [e]; rfl
  | .cls _, ⟨e, _⟩ => by rw [e]; rfl
theorem nd_isN {k : Nat} {pos' : Pos} (ha : PE X a (tD C B Γ W ra)) : PE X (.Compare a [.Is] [.Constant .none k pos'] pos) (tD C B Γ W (ra.bind fun x => .ok (.bl x.isN))) :=
  (pe_cmp (pc_isN ha) rfl).imp fun σ H Q ⟨F, s, q⟩ => ⟨F, s, q.bind.mono fun v H1 ⟨F1, d, e1, f1, r1, _, p1⟩ => by
    rw [isN_eq r1]
    exact p1.now f1 rfl⟩
theorem nd_notN {k : Nat} {pos' : Pos} (ha : PE X a (tD C B Γ W ra)) : PE X (.Compare a [.IsNot] [.Constant .none k pos'] pos) (tD C B Γ W (ra.bind fun x => .ok (.bl (!x.isN)))) :=
  (pe_cmp (pc_notN ha) rfl).imp fun σ H Q ⟨F, s, q⟩ => ⟨F, s, q.bind.mono fun v H1 ⟨F1, d, e1, f1, r1, _, p1⟩ => by
    rw [isN_eq r1]
    exact p1.now f1 rfl⟩
end
end G
namespace G
open PySem L2
def BLT : List Str := ["len", "int", "str", "tuple", "list", "sum", "sorted", "min", "max", "all", "repr", "isinstance", "range", "zip", "bool", "bytes", "ValueError"]
def tyv (C : Cfg) : Ty → Value
  | .b n => .type n
  | .c n => .ref (C.cls n)
  | .x n => .ref (C.exa n)
def tok (C : Cfg) : Ty → Bool
  | .b _ => true
  | .c n => C.has n
  | .x n => C.hasX n
structure ClsOk (C : Cfg) (n : Nat) : Prop where
  cl : Cls C.K (C.cls n)
  ha : PySem.W.findIn C.K (.ref (C.cls n)) "__class__" = some (some (.builtin "object.__class__"))
  hn : PySem.W.specialIn C.K (.builtin "object.__class__") "__get__" = some (some (.builtin "getset_descriptor.__get__"))
  htk : PySem.W.takesIn C.K (.builtin "object.__class__") = some true
  hm : PySem.W.mroIn C.K (C.cls n) (.type "object") = some true
  na : ∀ f ∈ C.flds n, NoAttr C.K (C.cls n) (C.fnm f)
  nd : ((C.flds n).map C.fnm).Nodup
def CbOk (C : Cfg) (args : Scope → Expr → Option (List Expr)) (sem : List D → R D) : Prop :=
  ∀ (N : List Str) (sc : Scope) (top : Bool) (X : Cx), XOk C N sc top X → XCalm C X → ∀ (W : WX), Takes X W → ∀ (B : Bs) (Γ : Gam) (ex : Expr) (es : List Expr) (rs : R (List D)),
    args sc ex = some es → PL C X B Γ W es rs → PE X ex (tD C B Γ W (rs.bind sem)) ∧ PT X ex (tT C B Γ W ((rs.bind sem).bind truD))
def CnOk (C : Cfg) (args : Scope → Expr → Option (List Expr)) (sem : List D → R D) : Prop :=
  ∀ (N : List Str) (sc : Scope) (top : Bool) (X : Cx), XOk C N sc top X → XCalm C X → ∀ (W : WX), Takes X W → ∀ (B : Bs) (Γ : Gam) (ex : Expr) (es : List Expr) (rs : R (List D)),
    args sc ex = some es → PL C X B Γ W es rs → PE X ex (tN C B Γ W (rs.bind sem))
def CmOk (C : Cfg) (args : Scope → Expr → Option (List Expr)) (sem : List D → R D) : Prop :=
  ∀ (N : List Str) (sc : Scope) (top : Bool) (X : Cx), XOk C N sc top X → XCalm C X → ∀ (W : WX), Takes X W → ∀ (B : Bs) (Γ : Gam) (ex : Expr) (es : List Expr) (rs : R (List D)),
    args sc ex = some es → PL C X B Γ W es rs → PE X ex (tD C B Γ W (rs.noexc.bind sem)) ∧ PT X ex (tT C B Γ W ((rs.noexc.bind sem).bind truD))
def OwOk (C : Cfg) (args : List Str → Nat → Scope → Expr → Option (List Expr)) (sem : List D → R D) : Prop :=
  ∀ (N : List Str) (sc : Scope) (top : Bool) (X : Cx), XOk C N sc top X → XCalm C X → ∀ (W : WX), Takes X W → ∀ (B : Bs) (Γ : Gam) (i : Nat) (c : Nat) (fs : List D), Γ[i]? = some (.ownI c fs) → fs.length ≤ (C.flds c).length → ∀ (ex : Expr) (es : List Expr) (rs : R (List D)),
    args N i sc ex = some es → PL C X B Γ W es rs → PE X ex (tD C B Γ W (rs.noexc.bind fun ds => ownR (sem (.obj c fs :: ds)))) ∧ PT X ex (tT C B Γ W ((rs.noexc.bind fun ds => ownR (sem (.obj c fs :: ds))).bind truD))
def CvOk (C : Cfg) (cs : List Nat) (args : List Str → Nat → Scope → Expr → Option (List Expr)) (sem : List D → R D) : Prop :=
  ∀ (N : List Str) (sc : Scope) (top : Bool) (X : Cx), XOk C N sc top X → XCalm C X → ∀ (W : WX), Takes X W → ∀ (B : Bs) (Γ : Gam) (i : Nat) (c : Nat) (fs : List D), Γ[i]? = some (.val (.obj c fs)) → c ∈ cs → ∀ (ex : Expr) (es : List Expr) (rs : R (List D)),
    args N i sc ex = some es → PL C X B Γ W es rs → PE X ex (tD C B Γ W (rs.bind fun ds => sem (.obj c fs :: ds))) ∧ PT X ex (tT C B Γ W ((rs.bind fun ds => sem (.obj c fs :: ds)).bind truD))
def cbArgs (k : Cb) (n : Nat) (sc : Scope) (ex : Expr) : Option (List Expr) :=
  match k with
  | .fn x => match ex with
    | .Call (.Name y _) args [] _ => if y = x ∧ glB sc y = true ∧ args.length = n then some args else none
    | _ => none
  | .meth m => match ex with
    | .Call (.Attribute o m' _) args [] _ => if m' = m ∧ notSuper o = true ∧ okx o = true ∧ args.length + 1 = n then some (o :: args) else none
    | _ => none
  | .prop m => match ex with
    | .Attribute o m' _ => if m' = m ∧ notSuper o = true ∧ n = 1 then some [o] else none
    | _ => none
  | .smeth x m => match ex with
    | .Call (.Attribute (.Name y _) m' _) args [] _ => if y = x ∧ m' = m ∧ glB sc y = true ∧ args.length = n then some args else none
    | _ => none
  | .op o => match ex with
    | .BinOp a o' b _ => if o' = o ∧ n = 2 then some [a, b] else none
    | _ => none
def gNames : List Nat → TGs
  | [] => gNil
  | i :: r => gCons (gName i) (gNames r)
def gX (K : PySem.W.Frag) : List Nat → TG
  | [i] => gName i
  | tg => gTup K tg.length (gNames tg)
abbrev W0 : WX := fun _ _ _ _ => False
def tAny (C : Cfg) (f : Gam → R D) : TE := fun σ H Q => ∃ B Γ, tD C B Γ W0 (f Γ) σ H Q
def Le (F F' : Wd) : Prop := ∀ b x, F b = some x → F' b = some x
def tForG (C : Cfg) (B : Bs) (Γ : Gam) (r : R (List D)) (g : TG) (tb : TS) : TS := fun D σ H => ∃ F, SR C B F H σ Γ ∧ ∃ items, r = .ok items ∧ ∀ F1 H1, Ext F H F1 H1 → Fits C F1 H1 →
  ∃ Wi : Nat → Wd → L2.St → Hp → Prop, Wi 0 F1 σ H1 ∧ (∀ F' σ' H', Wi items.length F' σ' H' → ∀ F2 H2, Ext F' H' F2 H2 → Fits C F2 H2 → D.nx σ' H2) ∧
    ∀ i, i < items.length → ∀ F' σ' H', Wi i F' σ' H' → ∀ x F2 H2, Ext F' H' F2 H2 → Fits C F2 H2 → Rep C F2 x (items.getD i .non) →
      g x σ' H2 fun σ3 H3 => tb { D with nx := (fun σ4 H4 => ∃ F4, Le F2 F4 ∧ Fits C F4 H4 ∧ Wi (i + 1) F4 σ4 H4), ct := (fun σ4 H4 => ∃ F4, Le F2 F4 ∧ Fits C F4 H4 ∧ Wi (i + 1) F4 σ4 H4), bk := D.nx } σ3 H3
structure GaOk (C : Cfg) (args : Scope → Expr → Option (List Expr)) (sem : List D → R D) : Prop where
  co : ∀ (N : List Str) (sc : Scope) (top : Bool) (X : Cx), XOk C N sc top X → XCalm C X → ∀ (W : WX), Takes X W → ∀ (B : Bs) (Γ : Gam) (iter : Expr) (es : List Expr) (rs : R (List D)), args sc iter = some es → PL C X B Γ W es rs → okx iter = true →
    ∀ (tg : List Nat) (etg elt : Expr) (scope : Scope) (pos : Pos) (own : List (Str × Nat)) (fe : Gam → R D), BlkOk X.N X.env.scope scope own → own.map (·.2) = tg → (∀ y ∈ scope.names, y.2 ≠ .cell) → X.N.Nodup →
    (∀ (s : Shared) (H : Hp) (D : Addr) (cl : List (Str × Addr)) (fp : List Addr), PG (X.blk s H scope (compEnvC scope cl D X.env) fp) etg (gX X.K tg)) → (∀ (s : Shared) (H : Hp) (D : Addr) (cl : List (Str × Addr)) (fp : List Addr), PE (X.blk s H scope (compEnvC scope cl D X.env) fp) elt (tAny C fe)) →
    PE X (.ListComp elt [⟨etg, iter, [], 0⟩] scope pos) (tN C B Γ W (((rs.noexc.bind sem).noexc.bind (walkD false)).bind fun items => (compD tg (killG Γ tg) none fe items []).noexc.bind fun ds => .ok (.lst ds)))
  fo : ∀ (N : List Str) (sc : Scope) (top : Bool) (X : Cx), XOk C N sc top X → XCalm C X → PassesOwn (model X.prog X.w) X.A X.env X.xe → ∀ (W : WX), Takes X W → ∀ (B : Bs) (Γ : Gam) (iter : Expr) (es : List Expr) (rs : R (List D)), args sc iter = some es → PL C X B Γ W es rs → okx iter = true →
    ∀ (etg : Expr) (lb : List Stmt) (pos : Pos) (g : TG) (tb : TS), PG (X.tr X.pn fun _ _ => False) etg g → PSs (X.tr X.pn fun _ _ => False) lb tb → PS X (.For etg iter lb [] pos) (tForG C B Γ ((rs.noexc.bind sem).noexc.bind (walkD false)) g tb)
structure Wld (C : Cfg) (T : Tb) : Prop where
  blt : ∀ x ∈ BLT, C.mg x = none
  gl : ∀ n x, T.gname n = some x → ∃ u v, C.mg x = some u ∧ RelV v u ∧ ∀ F, Rep C F v (C.gl n)
  fnm : ∀ n, C.fnm n = T.fname n
  cls : ∀ n, C.has n = true → ClsOk C n
  few : ∀ n, (C.flds n).length ≤ 100
  cnm : ∀ n x, T.cname n = some x → C.mg x = some (.ref (C.cls n)) ∧ C.has n = true
  xnm : ∀ n x, T.ename n = some x → C.mg x = some (.ref (C.exa n)) ∧ C.hasX n = true
  exc : ∀ n, C.hasX n = true → ExcC C.K (C.exa n)
  exm : ∀ n m b, C.hasX n = true → C.hasX m = true → C.sub (.x n) (.x m) = some b → PySem.W.exmOne C.K (.ref (C.exa n)) (.ref (C.exa m)) = some b
  sub : ∀ t u b, tok C t = true → tok C u = true → C.sub t u = some b → PySem.W.kitOne C.K (tyv C t) (tyv C u) = some b
  hot : T.calm = false → (∀ n, T.cb n = none) ∧ (∀ n, T.cm n = none) ∧ ∀ n, T.ow n = none
  cb : ∀ n k, T.cb n = some k → CbOk C k (C.fn n)
  cm : ∀ n k, T.cm n = some k → CmOk C k (C.fn n)
  ow : ∀ n k, T.ow n = some k → OwOk C k (C.fn n)
  cv : ∀ n cs k, T.cv n = some (cs, k) → CvOk C cs k (C.fn n)
  ga : ∀ n k, T.ga n = some k → GaOk C k (C.fn n)
section
variable {C : Cfg} {T : Tb} {N : List Str} {sc : Scope} {top : Bool} {X : Cx} {B : Bs} {Γ : Gam} {W : WX} {pos p : Pos} {a b c : Expr} {es : List Expr} {ra rb : R D} {rs : R (List D)}
theorem tok_of {F : Wd} {v : V} : ∀ {d : D}, Rep C F v d → tok C (tyD d) = true
  | .obj c l, r => by
    obtain ⟨a, dx, xs, e, hc, _⟩ := r
    exact hc
  | .non, _ => rfl
  | .bl _, _ => rfl
  | .int _, _ => rfl
  | .str _, _ => rfl
  | .byt _, _ => rfl
  | .tup _, _ => rfl
  | .lst _, _ => rfl
  | .scr _, _ => rfl
  | .dict _ _ _, _ => rfl
  | .cache _, _ => rfl
  | .cls _, _ => rfl
theorem tyx_of (w : Wld C T) {F : Wd} {H : Hp} {v : V} (f : Fits C F H) : ∀ {d : D}, Rep C F v d → d.isi = true → TyX C.K H v (tyv C (tyD d))
  | .non, r, _ => by rw [show v = _ from r]; exact .base .non
  | .bl b, r, _ => by rw [show v = _ from r]; exact .base (.bl b)
  | .int i, r, _ => by rw [show v = _ from r]; exact .base (.int i)
  | .str s, r, _ => by rw [show v = _ from r]; exact .base (.str _)
  | .byt s, r, _ => by rw [show v = _ from r]; exact .byt _
  | .tup l, r, _ => by
    obtain ⟨a, xs, rfl, h, _⟩ := r
    exact .base (.tup (f a _ h))
  | .lst l, r, _ => by
    obtain ⟨a, xs, rfl, h, _⟩ := r
    exact .base (.lst (f a _ h))
  | .obj c l, r, _ => by
    obtain ⟨a, dx, xs, rfl, hc, h, _⟩ := r
    have q := w.cls c hc
    exact .base (.ins (f a _ h) q.cl q.ha q.hn q.htk q.hm)
  | .scr l, r, _ => by
    obtain ⟨a, rfl, h⟩ := r
    rcases h with (h | ⟨o, h⟩) | ⟨o, its, n, h, h2, _⟩
    · exact .base (.lst (f.fo _ _ h))
    · exact .base (.frz (f.fo _ _ h))
    · exact .kList h h2
  | .dict _ _ _, _, h => absurd h (by intro z; cases z)
  | .cache _, _, h => absurd h (by intro z; cases z)
  | .cls _, _, h => absurd h (by intro z; cases z)
def clsV (C : Cfg) : Ty → V
  | .b n => .ty n
  | .c n => .ref (C.cls n)
  | .x n => .ref (C.exa n)
theorem clsV_ok : ∀ t : Ty, ClsV (clsV C t) (tyv C t)
  | .b n => .ty n
  | .c n => .own _
  | .x n => .own _
theorem isi_kit (w : Wld C T) {t : Ty} (ht : tok C t = true) : ∀ {ts : List Ty} {b : Bool}, ts.all (tok C) = true → isiD C.sub ts t = some b → PySem.W.kitAny C.K (tyv C t) (ts.map (tyv C)) = some b
  | [], b, _, h => by unfold isiD at h; cases h; rfl
  | u :: r, b, ha, h => by
    rw [List.all_cons, Bool.and_eq_true] at ha
    unfold isiD at h
    split at h
    · rename_i e
      cases h
      exact kitAny_cons (w.sub _ _ _ ht ha.1 e) (fun z => by cases z) (fun _ => rfl)
    · rename_i e
      exact kitAny_cons (w.sub _ _ _ ht ha.1 e) (fun _ => isi_kit w ht ha.2 h) (fun z => by cases z)
    · cases h
theorem nd_isi1 {t : Ty} (w : Wld C T) (h : XOk C N sc top X) (ht : tok C t = true) (hg : glB sc "isinstance" = true) (ha : PE X a (tD C B Γ W ra)) (oa : okx a = true) (hb : PE X b (tC (clsV C t))) (ob : okx b = true) :
    PE X (.Call (.Name "isinstance" p) [a, b] [] pos) (tD C B Γ W (ra.bind (isiR C.toMng [t]))) := by
  refine (pe_callB call_isi (h.gl hg) (by rw [h.eM]; exact w.blt _ (by simp [BLT])) PyProof.Rows.boot_isinstance (pa_cons ha (pa_cons hb pa_nil (star_cons ob)) (star_cons oa)) (by decide) (by decide) (star_cons oa)
    (star_any (es := [b]) (by rw [List.all_cons, ob]; rfl))).imp fun σ H Q ⟨F, s, q⟩ => ⟨F, s, q.bind.mono fun v H1 ⟨F1, d, e1, f1, r1, _, p1⟩ => ?_⟩
  unfold isiR at p1
  split at p1
  · rename_i hd
    split at p1
    · rename_i bb hi
      have hs := isi_kit w (tok_of r1) (ts := [t]) (by rw [List.all_cons, ht]; rfl) hi
      have hs : PySem.W.kitOne C.K (tyv C (tyD d)) (tyv C t) = some bb := by
        have hi' := hi
        unfold isiD at hi'
        split at hi'
        · rename_i e; cases hi'; exact w.sub _ _ _ (tok_of r1) ht e
        · rename_i e; unfold isiD at hi'; cases hi'; exact w.sub _ _ _ (tok_of r1) ht e
        · cases hi'
      refine ⟨v, clsV C t, tyv C (tyD d), tyv C t, bb, rfl, clsV_ok t, ?_, ?_, p1.now f1 rfl⟩
      · rw [h.eK]; exact tyx_of w f1 r1 hd
      · rw [h.eK]; exact hs
    · exact False.elim p1
  · exact False.elim p1
theorem nd_isi2 {t u : Ty} {k : Nat} {pos' : Pos} (w : Wld C T) (h : XOk C N sc top X) (ht : tok C t = true) (hu : tok C u = true) (hg : glB sc "isinstance" = true) (ha : PE X a (tD C B Γ W ra)) (oa : okx a = true) (hb : PE X b (tC (clsV C t))) (ob : okx b = true) (hc : PE X c (tC (clsV C u))) (oc : okx c = true) :
    PE X (.Call (.Name "isinstance" p) [a, .Tuple [b, c] k pos'] [] pos) (tD C B Γ W (ra.bind (isiR C.toMng [t, u]))) := by
  refine (pe_callB call_isiT (h.gl hg) (by rw [h.eM]; exact w.blt _ (by simp [BLT])) PyProof.Rows.boot_isinstance (pa_cons ha (pa_cons (pe_tup (pa_cons hb (pa_cons hc pa_nil (star_cons oc)) (star_cons ob))) pa_nil (star_cons rfl)) (star_cons oa)) (by decide) (by decide) (star_cons oa)
    (star_any (es := [.Tuple [b, c] k pos']) rfl)).imp fun σ H Q ⟨F, s, q⟩ => ⟨F, s, q.bind.mono fun v H1 ⟨F1, d, e1, f1, r1, _, p1⟩ => ?_⟩
  refine ⟨by show 2 ≤ sizeLine; rw [line_eq]; decide, fun t1 ht1 => ?_⟩
  obtain ⟨e', f'⟩ := laid (u := .tup [clsV C t, clsV C u]) f1 ht1
  have le := laid_le (u := .tup [clsV C t, clsV C u]) f1 ht1
  unfold isiR at p1
  split at p1
  · rename_i hd
    split at p1
    · rename_i bb hi
      refine ⟨v, t1, [clsV C t, clsV C u], tyv C (tyD d), [tyv C t, tyv C u], bb, rfl, upd_same, .cons (clsV_ok t) (.cons (clsV_ok u) .nil), ?_, ?_, p1 _ _ _ e' f' rfl⟩
      · rw [h.eK]; exact tyx_of w f' (Rep.le le _ _ r1) hd
      · rw [h.eK]; exact isi_kit w (tok_of r1) (ts := [t, u]) (by rw [List.all_cons, List.all_cons, ht, hu]; rfl) hi
    · exact False.elim p1
  · exact False.elim p1
theorem findIx_at {n : Nat} : ∀ {l : List Nat} {k i : Nat}, findIx n l k = some i → k ≤ i ∧ l[i - k]? = some n
  | [], k, i, h => by cases h
  | x :: r, k, i, h => by
    unfold findIx at h
    split at h
    · rename_i e
      cases h
      exact ⟨Nat.le_refl _, by simp [e]⟩
    · obtain ⟨h1, h2⟩ := findIx_at h
      refine ⟨by omega, ?_⟩
      have : i - k = (i - (k + 1)) + 1 := by omega
      rw [this, List.getElem?_cons_succ]
      exact h2
theorem lookup_zip : ∀ {ks : List Str} {vs : List V} {i : Nat} {x : Str} {v : V}, ks.Nodup → ks[i]? = some x → vs[i]? = some v → (ks.zip vs).lookup x = some v
  | [], _, _, _, _, _, h, _ => by simp at h
  | k :: ks, [], i, _, _, _, _, h => by simp at h
  | k :: ks, w :: vs, i, x, v, nd, h1, h2 => by
    rw [List.zip_cons_cons, List.lookup_cons]
    cases i with
    | zero =>
      simp at h1 h2
      subst h1 h2
      simp
    | succ i =>
      have h1 : ks[i]? = some x := by simpa using h1
      have h2 : vs[i]? = some v := by simpa using h2
      have hne : (x == k) = false := by
        refine beq_eq_false_iff_ne.mpr fun e => ?_
        subst e
        exact (List.nodup_cons.mp nd).1 (List.mem_of_getElem? h1)
      rw [hne]
      exact lookup_zip (List.nodup_cons.mp nd).2 h1 h2
theorem lookup_take {ks : List Str} {vs : List V} {n i : Nat} {x : Str} {v : V} (nd : ks.Nodup) (h1 : ks[i]? = some x) (hi : i < n) (h2 : vs[i]? = some v) : ((ks.take n).zip vs).lookup x = some v :=
  lookup_zip (nd.sublist (List.take_sublist n ks)) (by rw [List.getElem?_take, if_pos hi]; exact h1) h2
theorem wt_fld {nm : Nat} {x : Str} (w : Wld C T) (h : XOk C N sc top X) (hx : T.fname nm = x) {F1 : Wd} {H1 : Hp} {v : V} {d : D} {Q : VK} {Ex : Ec → Hp → Prop} (f1 : Fits C F1 H1) (r1 : RpB C F1 H1 v d) (p1 : Po C (RpD C) F1 H1 (fldD C.toMng nm d) Q Ex) :
    ∃ o Cl dx fs u, v = V.ref o ∧ H1 o = some (.ins Cl dx fs) ∧ Cls X.K Cl ∧ NoAttr X.K Cl x ∧ fs.lookup x = some u ∧ Q u H1 := by
  unfold fldD at p1
  split at p1
  · rename_i c l
    split at p1
    · rename_i i hi
      split at p1
      · rename_i d hd
        obtain ⟨_, h2⟩ := findIx_at hi
        rw [Nat.sub_zero] at h2
        have hname : C.fnm nm = x := by rw [w.fnm, hx]
        have hn : ((C.flds c).map C.fnm)[i]? = some x := by rw [List.getElem?_map, h2, ← hname]; rfl
        rcases r1 with ⟨o, dx, xs, rfl, hc, ho, hl, r⟩ | ⟨_, _, _, _, z, _⟩ | ⟨o, dx, xs, c', l', rfl, z, fo, ho, r, hc⟩ | ⟨_, _, _, _, _, _, _, z, _⟩
        · have q := w.cls c hc
          obtain ⟨v, hv, rv⟩ := r.get hd
          refine ⟨o, C.cls c, dx, _, v, rfl, f1 _ _ ho, by rw [h.eK]; exact q.cl, by rw [h.eK, ← hname]; exact q.na nm (List.mem_of_getElem? h2), ?_, p1.now f1 rv⟩
          unfold fieldsN
          rw [List.map_take]
          exact lookup_take q.nd hn (List.getElem?_eq_some_iff.mp hd).1 hv
        · cases z
        · cases z
          have q := w.cls c hc
          obtain ⟨v, hv, rv⟩ := r.get hd
          refine ⟨o, C.cls c, dx, _, v, rfl, ho, by rw [h.eK]; exact q.cl, by rw [h.eK, ← hname]; exact q.na nm (List.mem_of_getElem? h2), ?_, p1.now f1 rv⟩
          unfold fieldsN
          rw [List.map_take]
          exact lookup_take q.nd hn (List.getElem?_eq_some_iff.mp hd).1 hv
        · cases z
      · exact False.elim p1
    · exact False.elim p1
  · exact False.elim p1
theorem nd_fld {nm : Nat} {x : Str} (w : Wld C T) (h : XOk C N sc top X) (hx : T.fname nm = x) (ha : PE X a (tB C B Γ W ra)) (na : notSuper a = true) : PE X (.Attribute a x pos) (tD C B Γ W (ra.bind (fldD C.toMng nm))) :=
  (pe_fld ha (attr_ok na)).imp fun σ H Q ⟨F, s, q⟩ => ⟨F, s, q.bind.mono fun v H1 ⟨F1, d, e1, f1, r1, _, p1⟩ => wt_fld w h hx f1 r1 p1⟩
def IterOk (C : Cfg) (F0 : Wd) (J : It) (ds : List D) : Prop := ∀ F H, (∀ b x, F0 b = some x → F b = some x) → Fits C F H →
  (∀ (i : Nat) (d : D), ds[i]? = some d → J.go i H ∧ ∀ x H', J.yld i H x H' → ∃ F', Ext F H F' H' ∧ Fits C F' H' ∧ Rep C F' x d) ∧ ∀ i : Nat, ds.length ≤ i → J.stop i H
def tI (C : Cfg) (B : Bs) (Γ : Gam) (W : WX) (r : R (List D)) : TI := fun σ H R => ∃ F, SR C B F H σ Γ ∧ Po C (fun F _ J ds => IterOk C F J ds) F H r R (Wx C W σ)
theorem pi_or {tg : Expr} {w1 w2 : TI} (h1 : PI X tg a w1) (h2 : PI X tg a w2) : PI X tg a (fun σ H R => w1 σ H R ∨ w2 σ H R) :=
  ⟨fun pins s σ H R I h => h.elim (fun q => h1.run pins s σ H R I q) fun q => h2.run pins s σ H R I q⟩
theorem pi_imp {tg : Expr} {w1 w2 : TI} (h1 : PI X tg a w1) (i : ∀ σ H R, w2 σ H R → w1 σ H R) : PI X tg a w2 := ⟨fun pins s σ H R I h => h1.run pins s σ H R I (i σ H R h)⟩
theorem iter_lst {F : Wd} {q : Addr} {xs : List V} {l : List D} (hq : F q = some (.o (.lst xs))) (r : RepL C F xs l) : IterOk C F (Itl C.K q) l := by
  intro F' H le f
  have hH : H q = some (.lst xs) := f q _ (le _ _ hq)
  refine ⟨fun i d hd => ?_, fun i hi => ⟨xs, SqL.of hH, by rw [r.len]; exact hi⟩⟩
  obtain ⟨v, hv, rv⟩ := r.get hd
  refine ⟨⟨xs, v, SqL.of hH, hv⟩, fun x H' ⟨e, y⟩ => ?_⟩
  subst e
  have := y xs (SqL.of hH)
  rw [hv] at this
  cases this
  exact ⟨F', Ext.refl _ _, f, Rep.le le _ _ rv⟩
theorem iter_tup {F : Wd} {q : Addr} {xs : List V} {l : List D} (hq : F q = some (.o (.tup xs))) (r : RepL C F xs l) : IterOk C F (Itt C.K q) l := by
  intro F' H le f
  have hH : H q = some (.tup xs) := f q _ (le _ _ hq)
  refine ⟨fun i d hd => ?_, fun i hi => ⟨xs, SqT.of hH, by rw [r.len]; exact hi⟩⟩
  obtain ⟨v, hv, rv⟩ := r.get hd
  refine ⟨⟨xs, v, SqT.of hH, hv⟩, fun x H' ⟨e, y⟩ => ?_⟩
  subst e
  have := y xs (SqT.of hH)
  rw [hv] at this
  cases this
  exact ⟨F', Ext.refl _ _, f, Rep.le le _ _ rv⟩
theorem iter_str {F : Wd} (s : List Nat) : IterOk C F (Its (Sx s)) (s.map fun c => .str [c]) := by
  intro F' H le f
  refine ⟨fun i d hd => ?_, fun i hi => by show (Sx s).cps.size ≤ i; simpa [Sx] using hi⟩
  rw [List.getElem?_map] at hd
  cases e : s[i]? with
  | none => rw [e] at hd; cases hd
  | some c =>
    rw [e] at hd
    cases hd
    refine ⟨by show i < (Sx s).cps.size; have := (List.getElem?_eq_some_iff.mp e).1; simpa [Sx] using this, fun x H' ⟨e1, c', hc, hx⟩ => ?_⟩
    subst e1
    have : (Sx s).cps[i]? = s[i]? := by simp [Sx]
    rw [this, e] at hc
    cases hc
    exact ⟨F', Ext.refl _ _, f, hx⟩
theorem iter_rng {F : Wd} (lo : Int) (n : Nat) : IterOk C F (Itr lo n) ((List.range n).map fun k => .int (lo + (k : Nat))) := by
  intro F' H le f
  refine ⟨fun i d hd => ?_, fun i hi => by show n ≤ i; simpa using hi⟩
  rw [List.getElem?_map] at hd
  by_cases hi : i < n
  · rw [List.getElem?_range hi] at hd
    cases hd
    refine ⟨hi, fun x H' ⟨e1, hx⟩ => ?_⟩
    subst e1
    exact ⟨F', Ext.refl _ _, f, hx⟩
  · rw [List.getElem?_eq_none (by simpa using hi)] at hd
    cases hd
theorem iter_byt {F : Wd} (s : List UInt8) : IterOk C F (Itb s.toArray) (s.map fun c => .int c.toNat) := by
  intro F' H le f
  refine ⟨fun i d hd => ?_, fun i hi => by show s.toArray.size ≤ i; simpa using hi⟩
  rw [List.getElem?_map] at hd
  cases e : s[i]? with
  | none => rw [e] at hd; cases hd
  | some c =>
    rw [e] at hd
    cases hd
    refine ⟨by show i < s.toArray.size; have := (List.getElem?_eq_some_iff.mp e).1; simpa using this, fun x H' ⟨e1, c', hc, hx⟩ => ?_⟩
    subst e1
    have : s.toArray[i]? = s[i]? := by simp
    rw [this, e] at hc
    cases hc
    exact ⟨F', Ext.refl _ _, f, hx⟩
def Itkn (P : Program) (w : World) (d : Addr) (o : Obj) (kvs : List (NestedKey × Addr × V)) : It :=
  ⟨fun i H => H d = some (.ext (NdP (some o) d (NdOk P w d kvs))) ∧ i < kvs.length, fun i H x H' => H' = H ∧ ∃ p, kvs[i]? = some p ∧ x = .ref p.2.1, fun i H => H d = some (.ext (NdP (some o) d (NdOk P w d kvs))) ∧ kvs.length ≤ i⟩
theorem Inv.frzN {pins : List (Addr × Obj)} {σ : L2.St} {H : Hp} {s : Shared} {d : Addr} {o : Obj} {kvs : List (NestedKey × Addr × V)} (I : Inv X pins σ H s) (h : H d = some (.ext (NdP (some o) d (NdOk X.prog X.w d kvs)))) :
    (d == sysModules) = false ∧ s.heap.get? d = some o ∧ o.ExactDict ∧ ∃ (es : Array DictEntry) (ep : Nat), o.data = .dict es ep ∧ es.size = kvs.length ∧
      ∀ (i : Nat) (p : NestedKey × Addr × V), kvs[i]? = some p → ∃ en : DictEntry, es[i]? = some en ∧ en.key = .ref p.2.1 := by
  obtain ⟨hd, hs, hl, hn, zs, r, o', es, ep, ho, hx, hdt, he⟩ := (show ObjOk X.prog X.w H s.heap d (.ext _) from I.hok d _ h).1
  rw [hd] at ho
  cases ho
  refine ⟨hs, hd, hx, es, ep, hdt, ?_, fun i p e => ?_⟩
  · have l1 : es.size = zs.length := by have := congrArg List.length he; simpa using this
    have l2 : kvs.length = zs.length := Paired.length r
    omega
  · obtain ⟨b, hb, e1, e2, _⟩ := paired_get r e
    have q : es[i]? = some (entryOfKey (nestedKind X.prog X.w) b) := by
      rw [← Array.getElem?_toList, he, List.getElem?_map, hb]; rfl
    exact ⟨_, q, by rw [e2]; rfl⟩
theorem turn_keysN {P : Program} {w : World} {K : PySem.W.Frag} {tg : Expr} {d : Addr} {o : Obj} {es : Array DictEntry} {ep : Nat} {kvs : List (NestedKey × Addr × V)} (it : Addr) (hod : o.data = .dict es ep) : Turn P w K tg (Itkn P w d o kvs) [it] it (fun i h => h.IsKeyIter it d i kvs.length ep) where
  mem := by simp
  obj := fun i h st b hb => by
    have e : b = it := by simpa using hb
    subst e
    obtain ⟨oi, e, c, dd⟩ := st
    exact ⟨oi, e, fun v z => by rw [dd] at z; cases z⟩
  keep := fun i h h' st k => st.at fun oi e => k it (by simp) oi e
  item := by
    intro X hP hw hK hc i pins s σ H E I hf st hg
    subst hP hw hK
    obtain ⟨hd, hi⟩ := hg
    obtain ⟨f0, f1, f2, f3, f4, f5⟩ := hf it (by simp)
    obtain ⟨hs, hgd, hx, es', ep', hdt, hsz, ent⟩ := Inv.frzN I hd
    obtain ⟨rfl, rfl⟩ := dict_ep hod hdt
    obtain ⟨p, hkv⟩ : ∃ p, kvs[i]? = some p := ⟨kvs[i], List.getElem?_eq_getElem hi⟩
    obtain ⟨en, hen, hkey⟩ := ent i p hkv
    refine next_key_item st hgd hdt hsz hen fun h' st' sb => ?_
    have I1 : Inv X pins σ H { s with heap := h' } := I.turned (t' := s.toks) (fun b ob hb e => (sb.2 b hb).trans e) f0 f1 f3 f4 f5
    obtain ⟨oi, e, c, dd⟩ := id st'
    exact ⟨en.key, rfl, go_of (s := { s with heap := h' }) e c dd (by decide) ⟨.ref p.2.1, H, I1, hkey, ⟨rfl, p, hkv, rfl⟩, st', fun b hb => (hf b hb).1⟩⟩
  done := by
    intro X hP hw hK hc i pins s σ H E I hf st hg
    subst hP hw hK
    obtain ⟨hd, hi⟩ := hg
    obtain ⟨f0, f1, f2, f3, f4, f5⟩ := hf it (by simp)
    obtain ⟨hs, hgd, hx, es', ep', hdt, hsz, ent⟩ := Inv.frzN I hd
    obtain ⟨rfl, rfl⟩ := dict_ep hod hdt
    exact next_key_end (I.ok.hd hc) st hgd hdt hsz hi fun h' eb => ⟨rfl, I.turned (t' := s.toks) (fun b ob hb e => eb b ob hb e) f0 f1 f3 f4 f5⟩
  self := fun A i s Q E st h => by
    refine wpAny_pyIter_slot st.typeIs PySem.F.slot_dict_keyiterator_iter (wpAny_call_entry PySem.F.slot_dict_keyiterator_iter st.typeIs PySem.F.entry_dict_keyiterator_iter ?_ (PySem.F.args_dict_keyiterator_iter_1 _))
    show wpAny _ _ (ret (.ref it)) _ _ s
    exact wpAny_pure ⟨_, rfl, "dict_keyiterator", _, st.typeIs, PySem.F.slot_dict_keyiterator_next.lookup, h⟩
def iKeysN (P : Program) (w : World) (td : TE) : TI := fun σ H R => td σ H fun x H1 => ∃ d o kvs, x = .ref d ∧ H1 d = some (.ext (NdP (some o) d (NdOk P w d kvs))) ∧ R (Itkn P w d o kvs) H1
theorem pi_keysN {tg e : Expr} {td : TE} (he : PE X e td) : PI X tg e (iKeysN X.prog X.w td) := by
  refine ⟨fun pins s σ H R I h => ?_⟩
  refine thn (he.run pins s σ H _ I h) fun u s1 ⟨x, H1, I1, rx, d, o, kvs, ex, hd, q⟩ => ?_
  subst ex
  obtain rfl : u = Value.ref d := rx
  obtain ⟨hs, hgd, hx, es, ep, hdt, hsz, ent⟩ := Inv.frzN I1 hd
  refine iter_keys hs hgd hx hdt (pi_one (tk := s1.toks) I1 _ (turn_keysN _ hdt) ⟨_, Heap.get?_push_size _ rfl, rfl, ?_⟩ q)
  rw [hsz] <;> rfl
theorem iter_keysN {F : Wd} {q : Addr} {ks vs : List D} {kas : List Addr} {xs : List V} {o : Obj} (hq : F q = some (.o (dictO C q false ks kas xs (some o)))) (h2 : kas.length = ks.length) (h3 : ks.length = vs.length) (h4 : RepL C F (kas.map V.ref) ks) (h5 : RepL C F xs vs) :
    IterOk C F (Itkn C.P C.w q o ((D.nkL ks).zip (kas.zip xs))) ks := by
  have hx : xs.length = vs.length := h5.len
  obtain ⟨z1, z2, z3⟩ := zip3 (l := D.nkL ks) (m := kas) (n := xs) (by rw [nkL_len, h2]) (by omega)
  have hlen : ((D.nkL ks).zip (kas.zip xs)).length = ks.length := by
    have := congrArg List.length z2
    rw [List.length_map] at this
    omega
  intro F' H le f
  have hH : H q = some (.ext (NdP (some o) q (NdOk C.P C.w q ((D.nkL ks).zip (kas.zip xs))))) := f q _ (le _ _ hq)
  refine ⟨fun i d hd => ?_, fun i hi => ⟨hH, by rw [hlen]; exact hi⟩⟩
  have hi : i < ks.length := (List.getElem?_eq_some_iff.mp hd).1
  refine ⟨⟨hH, by rw [hlen]; exact hi⟩, fun x H' ⟨e, p, hp, hx⟩ => ?_⟩
  subst e hx
  refine ⟨F', Ext.refl _ _, f, ?_⟩
  obtain ⟨v, hv, rv⟩ := h4.get hd
  have e2 : kas[i]? = some p.2.1 := by
    have := congrArg (fun l => l[i]?) z2
    rw [List.getElem?_map, hp] at this
    exact this.symm
  rw [List.getElem?_map, e2] at hv
  cases hv
  exact Rep.le le _ _ rv
theorem nd_iter {tg : Expr} (h : XOk C N sc top X) (ha : PE X a (tD C B Γ W ra)) : PI X tg a (tI C B Γ W (ra.bind (walkD false))) := by
  refine pi_imp (pi_or (pi_or (pi_or (pi_or (pi_list ha) (pi_tup ha)) (pi_str ha)) (pi_byt ha)) (pi_keysN ha)) fun σ H R ⟨F, s, p⟩ => ?_
  cases ra with
  | exc c => exact .inl (.inl (.inl (.inl ⟨F, s, p⟩)))
  | bad => exact False.elim p
  | ok d =>
    cases d with
    | byt z =>
      refine .inl (.inr ⟨F, s, fun v F1 H1 e1 f1 r1 => ?_⟩)
      exact ⟨z.toArray, r1, p _ F1 H1 e1 f1 (iter_byt z)⟩
    | lst l =>
      refine .inl (.inl (.inl (.inl ⟨F, s, fun v F1 H1 e1 f1 r1 => ?_⟩)))
      obtain ⟨q, xs, rfl, hq, r⟩ := r1
      exact ⟨q, rfl, ⟨xs, SqL.of (f1 q _ hq)⟩, p _ F1 H1 e1 f1 (by rw [h.eK]; exact iter_lst hq r)⟩
    | tup l =>
      refine .inl (.inl (.inl (.inr ⟨F, s, fun v F1 H1 e1 f1 r1 => ?_⟩)))
      obtain ⟨q, xs, rfl, hq, r⟩ := r1
      exact ⟨q, rfl, ⟨xs, SqT.of (f1 q _ hq)⟩, p _ F1 H1 e1 f1 (by rw [h.eK]; exact iter_tup hq r)⟩
    | str z =>
      refine .inl (.inl (.inr ⟨F, s, fun v F1 H1 e1 f1 r1 => ?_⟩))
      exact ⟨Sx z, r1, p _ F1 H1 e1 f1 (iter_str z)⟩
    | dict k ks vs =>
      cases k with
      | true => exact False.elim p
      | false =>
        refine .inr ⟨F, s, fun v F1 H1 e1 f1 r1 => ?_⟩
        obtain ⟨q, kas, xs, po, rfl, hq, hpo, h1, h2, h3, h4, h5⟩ := r1
        obtain ⟨o, rfl⟩ := Option.isSome_iff_exists.mp (hpo rfl)
        rw [h.eP, h.eW]
        exact ⟨q, o, _, rfl, f1 q _ hq, p _ F1 H1 e1 f1 (iter_keysN hq h2 h3 (h4 rfl) h5)⟩
    | _ => exact False.elim p
theorem wt_rng1 {F1 : Wd} {H1 : Hp} {vs : List V} {ds : List D} {R : It → Hp → Prop} {Ex : Ec → Hp → Prop} (hl : ds.length = 1) (f1 : Fits C F1 H1) (r1 : RepL C F1 vs ds) (p1 : Po C (fun F _ J ds => IterOk C F J ds) F1 H1 (walkD true (.tup ds)) R Ex) :
    ∃ j : Int, vs = [.int j] ∧ -(2 ^ 62) ≤ j ∧ j < 2 ^ 62 ∧ R (Itr 0 j.toNat) H1 := by
  match ds, hl with
  | [d], _ =>
    obtain ⟨v, r, rfl, hv, hr⟩ := r1
    cases d with
    | int j =>
      rw [show v = V.int j from hv, show r = [] from hr]
      have p1 : Po C (fun F _ J ds => IterOk C F J ds) F1 H1 (if -4611686018427387904 ≤ j ∧ j < 4611686018427387904 then .ok ((List.range j.toNat).map fun k => D.int (k : Nat)) else .bad) R Ex := p1
      by_cases hj : -4611686018427387904 ≤ j ∧ j < 4611686018427387904
      · rw [if_pos hj] at p1
        refine ⟨j, rfl, by omega, by omega, p1.now f1 ?_⟩
        have := iter_rng (C := C) (F := F1) 0 j.toNat
        simpa using this
      · rw [if_neg hj] at p1
        exact False.elim p1
    | _ => exact False.elim p1
theorem wt_rng2 {F1 : Wd} {H1 : Hp} {vs : List V} {ds : List D} {R : It → Hp → Prop} {Ex : Ec → Hp → Prop} (hl : ds.length = 2) (f1 : Fits C F1 H1) (r1 : RepL C F1 vs ds) (p1 : Po C (fun F _ J ds => IterOk C F J ds) F1 H1 (walkD true (.tup ds)) R Ex) :
    ∃ i j : Int, vs = [.int i, .int j] ∧ (-(2 ^ 62) ≤ i ∧ i < 2 ^ 62 ∧ -(2 ^ 62) ≤ j ∧ j < 2 ^ 62) ∧ R (Itr i (j - i).toNat) H1 := by
  match ds, hl with
  | [d, e], _ =>
    obtain ⟨v, r, rfl, hv, v2, r2, rfl, hv2, hr⟩ := r1
    cases d with
    | int i =>
      cases e with
      | int j =>
        rw [show v = V.int i from hv, show v2 = V.int j from hv2, show r2 = [] from hr]
        have p1 : Po C (fun F _ J ds => IterOk C F J ds) F1 H1 (if -4611686018427387904 ≤ i ∧ i < 4611686018427387904 ∧ -4611686018427387904 ≤ j ∧ j < 4611686018427387904 then .ok ((List.range (j - i).toNat).map fun k => D.int (i + (k : Nat))) else .bad) R Ex := p1
        by_cases hj : -4611686018427387904 ≤ i ∧ i < 4611686018427387904 ∧ -4611686018427387904 ≤ j ∧ j < 4611686018427387904
        · rw [if_pos hj] at p1
          exact ⟨i, j, rfl, ⟨by omega, by omega, by omega, by omega⟩, p1.now f1 (iter_rng i (j - i).toNat)⟩
        · rw [if_neg hj] at p1
          exact False.elim p1
      | _ => exact False.elim p1
    | _ => exact False.elim p1
theorem PL.cons_inv {e : Expr} (h : PL C X B Γ W (e :: es) rs) : ∃ r rs', rs = r.bind (fun x => rs'.bind fun xs => .ok (x :: xs)) ∧ okx e = true ∧ PE X e (tD C B Γ W r) ∧ PL C X B Γ W es rs' := by
  cases h with
  | cons o he hl => exact ⟨_, _, rfl, o, he, hl⟩
theorem PL.nil_inv (h : PL C X B Γ W [] rs) : rs = .ok [] := by
  cases h; rfl
theorem PL.len (h : PL C X B Γ W es rs) {ds : List D} (e : rs = .ok ds) : ds.length = es.length := by
  induction h generalizing ds with
  | nil => cases e; rfl
  | @cons x xs r rs' o he hl ih =>
    cases r with
    | ok d =>
      cases rs' with
      | ok ds' =>
        cases e
        simp [ih rfl]
      | _ => cases e
    | _ => cases e
theorem nd_range1 {tg : Expr} (w : Wld C T) (h : XOk C N sc top X) (hg : glB sc "range" = true) (ha : PL C X B Γ W [a] rs) :
    PI X tg (.Call (.Name "range" p) [a] [] pos) (tI C B Γ W (rs.bind fun ds => walkD true (.tup ds))) := by
  have oa : okx a = true := by have := ha.ok; simpa using this
  exact pi_imp (pi_range1 (h.gl hg) (by rw [h.eM]; exact w.blt _ (by simp [BLT])) ha.pa (star_cons oa)) fun σ H R ⟨F, s, p⟩ => ⟨F, s, p.bind.mono fun vs H1 ⟨F1, ds, e1, f1, r1, er, p1⟩ => wt_rng1 (ha.len er) f1 r1 p1⟩
theorem nd_range2 {tg : Expr} (w : Wld C T) (h : XOk C N sc top X) (hg : glB sc "range" = true) (ha : PL C X B Γ W [a, b] rs) :
    PI X tg (.Call (.Name "range" p) [a, b] [] pos) (tI C B Γ W (rs.bind fun ds => walkD true (.tup ds))) := by
  have o := ha.ok
  simp only [List.all_cons, List.all_nil, Bool.and_true, Bool.and_eq_true] at o
  exact pi_imp (pi_range2 (h.gl hg) (by rw [h.eM]; exact w.blt _ (by simp [BLT])) ha.pa (by rw [star_cons o.1, star_cons o.2]; rfl) (star_cons o.2)) fun σ H R ⟨F, s, p⟩ => ⟨F, s, p.bind.mono fun vs H1 ⟨F1, ds, e1, f1, r1, er, p1⟩ => wt_rng2 (ha.len er) f1 r1 p1⟩
theorem rgC_up {i j c : Int} (h0 : 0 ≤ i) (h1 : i ≤ j) (h2 : j < 4611686018427387904) (h3 : 0 < c) (h4 : c < 1073741824) : RgC i j c ((j - i + c - 1) / c).toNat := by
  have hq0 : 0 ≤ (j - i + c - 1) / c := Int.ediv_nonneg (by omega) (by omega)
  have hq1 : (j - i + c - 1) / c ≤ j := by
    refine Int.le_trans (Int.ediv_le_ediv (b := j - i + c - 1) h3 (Int.le_refl _)) ?_
    by_cases hz : j = i
    · subst hz
      rw [Int.sub_self, Int.zero_add, Int.ediv_eq_zero_of_lt (by omega) (by omega)]; exact h0
    · have e : j - i + c - 1 = (j - i - 1) + 1 * c := by omega
      rw [e, Int.add_mul_ediv_right _ _ (by omega)]
      have : (j - i - 1) / c ≤ j - i - 1 := Int.ediv_le_self _ (by omega)
      omega
  have hs : Builtin.Range.rangeSize i j c = (((j - i + c - 1) / c).toNat : Int) := by
    rw [Int.toNat_of_nonneg hq0]
    unfold Builtin.Range.rangeSize
    rw [if_pos (by omega)]
    split
    · have e : j - i + c - 1 = (j - i - 1) + 1 * c := by omega
      rw [e, Int.add_mul_ediv_right _ _ (by omega)]
    · have e0 : j = i := by omega
      subst e0
      rw [Int.sub_self, Int.zero_add, Int.ediv_eq_zero_of_lt (by omega) (by omega)]
  refine ⟨by omega, by omega, ?_, hs⟩
  unfold Builtin.Range.small
  rw [hs, Int.toNat_of_nonneg hq0]
  simp only [Builtin.Range.rangeFitsLong, Bool.and_eq_true, Bool.or_eq_true, decide_eq_true_eq, beq_iff_eq, show c > 0 from h3, if_true]
  omega
theorem iter_rng3 {F : Wd} (lo c : Int) (n : Nat) : IterOk C F (Itc lo c n) ((List.range n).map fun k => .int (lo + (k : Nat) * c)) := by
  intro F' H le f
  refine ⟨fun i d hd => ?_, fun i hi => by show n ≤ i; simpa using hi⟩
  rw [List.getElem?_map] at hd
  by_cases hi : i < n
  · rw [List.getElem?_range hi] at hd
    cases hd
    refine ⟨hi, fun x H' ⟨e1, hx⟩ => ?_⟩
    subst e1
    exact ⟨F', Ext.refl _ _, f, hx⟩
  · rw [List.getElem?_eq_none (by simpa using hi)] at hd
    cases hd
theorem wt_rng3 {F1 : Wd} {H1 : Hp} {vs : List V} {ds : List D} {R : It → Hp → Prop} {Ex : Ec → Hp → Prop} (hl : ds.length = 3) (f1 : Fits C F1 H1) (r1 : RepL C F1 vs ds) (p1 : Po C (fun F _ J ds => IterOk C F J ds) F1 H1 (walkD true (.tup ds)) R Ex) :
    ∃ (i j c : Int) (n : Nat), vs = [.int i, .int j, .int c] ∧ RgC i j c n ∧ R (Itc i c n) H1 := by
  match ds, hl with
  | [d, e, g], _ =>
    obtain ⟨v, r, rfl, hv, v2, r2, rfl, hv2, v3, r3, rfl, hv3, hr⟩ := r1
    cases d <;> first | exact False.elim p1 | skip
    cases e <;> first | exact False.elim p1 | skip
    cases g <;> first | exact False.elim p1 | skip
    rename_i i j c _
    rw [show v = V.int i from hv, show v2 = V.int j from hv2, show v3 = V.int c from hv3, show r3 = [] from hr]
    have p1 : Po C (fun F _ J ds => IterOk C F J ds) F1 H1 (if 0 ≤ i ∧ i ≤ j ∧ j < 4611686018427387904 ∧ 0 < c ∧ c < 1073741824 then .ok ((List.range ((j - i + c - 1) / c).toNat).map fun (k : Nat) => D.int (i + (k : Int) * c)) else .bad) R Ex := p1
    by_cases hj : 0 ≤ i ∧ i ≤ j ∧ j < 4611686018427387904 ∧ 0 < c ∧ c < 1073741824
    · rw [if_pos hj] at p1
      exact ⟨i, j, c, _, rfl, rgC_up hj.1 hj.2.1 hj.2.2.1 hj.2.2.2.1 hj.2.2.2.2, p1.now f1 (iter_rng3 i c _)⟩
    · rw [if_neg hj] at p1
      exact False.elim p1
theorem nd_range3 {tg : Expr} (w : Wld C T) (h : XOk C N sc top X) (hg : glB sc "range" = true) (ha : PL C X B Γ W [a, b, c] rs) :
    PI X tg (.Call (.Name "range" p) [a, b, c] [] pos) (tI C B Γ W (rs.bind fun ds => walkD true (.tup ds))) := by
  have o := ha.ok
  simp only [List.all_cons, List.all_nil, Bool.and_true, Bool.and_eq_true] at o
  exact pi_imp (pi_range3 (h.gl hg) (by rw [h.eM]; exact w.blt _ (by simp [BLT])) ha.pa (by rw [star_cons o.1, star_cons o.2.1, star_cons o.2.2]) (star_any (es := [b, c]) (by simp [o.2.1, o.2.2]))) fun σ H R ⟨F, s, p⟩ => ⟨F, s, p.bind.mono fun vs H1 ⟨F1, ds, e1, f1, r1, er, p1⟩ => wt_rng3 (ha.len er) f1 r1 p1⟩
theorem wipe_set {σ : L2.St} {i : Nat} {o : Option V} : ∀ {vs : List Nat}, i ∈ vs → wipe (σ.set i o) vs = wipe σ vs
  | v :: vs, hm => by
    show (wipe (σ.set i o) vs).set v none = (wipe σ vs).set v none
    by_cases h : i ∈ vs
    · rw [wipe_set h]
    · have e : i = v := by
        rcases List.mem_cons.mp hm with e | e
        · exact e
        · exact absurd e h
      subst e
      have key : ∀ (vs : List Nat) (σ : L2.St), i ∉ vs → wipe (σ.set i o) vs = (wipe σ vs).set i o := by
        intro vs
        induction vs with
        | nil => intro σ _; rfl
        | cons w r ih =>
          intro σ hn
          rw [List.mem_cons, not_or] at hn
          show (wipe (σ.set i o) r).set w none = ((wipe σ r).set w none).set i o
          rw [ih σ hn.2, List.set_comm _ _ hn.1]
      rw [key vs σ h, List.set_set]
theorem gNames_ok {F : Wd} {H : Hp} {vs : List Nat} : ∀ {tg : List Nat} {ds : List D} {xs : List V} {σ : L2.St} {Γ Γ' : Gam} {Q : L2.St → Hp → Prop}, SR C B F H σ Γ → RepL C F xs ds → setAll Γ tg ds = .ok Γ' → (∀ i ∈ tg, i ∈ vs) →
    (∀ σ', SR C B F H σ' Γ' → wipe σ' vs = wipe σ vs → Q σ' H) → gNames tg xs σ H Q
  | [], [], xs, σ, Γ, Γ', Q, s, r, e, _, k => by
    cases e
    exact ⟨r, k σ s rfl⟩
  | [], _ :: _, _, _, _, _, _, _, _, e, _, _ => by cases e
  | _ :: _, [], _, _, _, _, _, _, _, e, _, _ => by cases e
  | i :: tg, d :: ds, xs, σ, Γ, Γ', Q, s, r, e, hv, k => by
    obtain ⟨v, rr, rfl, r1, r2⟩ := r
    refine ⟨v, rr, rfl, ?_⟩
    refine gNames_ok (s.put_val r1) r2 e (fun j hj => hv j (List.mem_cons_of_mem _ hj)) fun σ' s' w' => k σ' s' (w'.trans (wipe_set (hv i List.mem_cons_self)))
theorem gX_ok {K : PySem.W.Frag} {F : Wd} {H : Hp} {vs tg : List Nat} {d : D} {v : V} {σ : L2.St} {Γ Γ' : Gam} {Q : L2.St → Hp → Prop} (s : SR C B F H σ Γ) (r : Rep C F v d) (e : tgtD Γ tg d = .ok Γ') (hv : ∀ i ∈ tg, i ∈ vs)
    (k : ∀ σ', SR C B F H σ' Γ' → wipe σ' vs = wipe σ vs → Q σ' H) : gX K tg v σ H Q := by
  match tg, e, hv with
  | [i], e, hv =>
    cases e
    exact k _ (s.put_val r) (wipe_set (hv i List.mem_cons_self))
  | [], e, hv =>
    cases d with
    | tup l =>
      obtain ⟨a, xs, rfl, h, rl⟩ := r
      have hH := s.fits a _ h
      have e' : setAll Γ [] l = .ok Γ' := e
      have hl : l = [] := by cases l with | nil => rfl | cons _ _ => cases e'
      subst hl
      exact ⟨a, xs, rfl, SqT.of hH, rl.len, gNames_ok s rl e' hv k⟩
    | _ => cases e
  | i :: j :: t, e, hv =>
    cases d with
    | tup l =>
      obtain ⟨a, xs, rfl, h, rl⟩ := r
      have hH := s.fits a _ h
      have e' : setAll Γ (i :: j :: t) l = .ok Γ' := e
      have hl : ∀ (tg : List Nat) (l : List D) (Γ : Gam), setAll Γ tg l = .ok Γ' → l.length = tg.length := by
        intro tg
        induction tg with
        | nil => intro l Γ e; cases l with | nil => rfl | cons _ _ => cases e
        | cons i tg ih =>
          intro l Γ e
          cases l with
          | nil => cases e
          | cons d l => simp [ih l _ e]
      exact ⟨a, xs, rfl, SqT.of hH, by rw [rl.len]; exact hl _ l Γ e', gNames_ok s rl e' hv k⟩
    | _ => cases e
def locB (top : Bool) (sc : Scope) (x : Str) : Bool := match sc.names.lookup x with
  | some .local => true
  | some .cell => top
  | _ => false
def isName (N : List Str) (top : Bool) (sc : Scope) (i : Nat) : Expr → Bool
  | .Name x _ => decide (N[i]? = some x) && locB top sc x
  | _ => false
def areNames (N : List Str) (top : Bool) (sc : Scope) : List Nat → List Expr → Bool
  | [], [] => true
  | i :: r, e :: es => isName N top sc i e && areNames N top sc r es
  | _, _ => false
def chkTg (N : List Str) (top : Bool) (sc : Scope) (tg : List Nat) (e : Expr) : Bool :=
  match tg with
  | [i] => isName N top sc i e
  | tg => match e with
    | .Tuple es _ _ => areNames N top sc tg es
    | _ => false
theorem loc_of (h : XOk C N sc top X) {x : Str} (l : locB top sc x = true) : Loc X.env.scope x ∧ (X.fn x = true ∨ X.env.scope.names.lookup x = some .local) := by
  unfold locB at l
  rw [h.eS]
  split at l
  · rename_i e; exact ⟨.inl e, .inr e⟩
  · rename_i e; exact ⟨.inr e, .inl (h.fnT l x)⟩
  · cases l
theorem pg_isName (h : XOk C N sc top X) {i : Nat} {e : Expr} (c : isName N top sc i e = true) : PG X e (gName i) := by
  unfold isName at c
  split at c
  · rename_i x p
    rw [Bool.and_eq_true, decide_eq_true_eq] at c
    obtain ⟨l1, l2⟩ := loc_of h c.2
    exact pg_name (by rw [h.eN]; exact h.nd) (by rw [h.eN]; exact c.1) l1 l2
  · cases c
theorem assign_names {env : Env} : ∀ {tg : List Nat} {es : List Expr}, areNames N top sc tg es = true → (assignEach es env).map (·.2) = es.map (fun e => assign e env) ∧ (assignEach es env).length = tg.length ∧ (assignEach es env).findIdx? (·.1) = none
  | [], [], _ => ⟨rfl, rfl, rfl⟩
  | i :: tg, e :: es, c => by
    unfold areNames at c
    rw [Bool.and_eq_true] at c
    obtain ⟨h1, h2, h3⟩ := assign_names (env := env) c.2
    have c1 := c.1
    unfold isName at c1
    split at c1
    · rename_i x p
      have e1 : assignEach (Expr.Name x p :: es) env = (false, assign (.Name x p) env) :: assignEach es env := rfl
      rw [e1]
      refine ⟨by rw [List.map_cons, List.map_cons, h1], by rw [List.length_cons, List.length_cons, h2], ?_⟩
      rw [List.findIdx?_cons]
      simp [h3]
    · cases c1
  | [], _ :: _, c => by cases c
  | _ :: _, [], c => by cases c
theorem pgs_names (h : XOk C N sc top X) : ∀ {tg : List Nat} {es : List Expr}, areNames N top sc tg es = true → PGs X es (gNames tg)
  | [], [], _ => pgs_nil
  | i :: tg, e :: es, c => by
    have c' := c
    unfold areNames at c
    rw [Bool.and_eq_true] at c
    refine pgs_cons (pg_isName h c.1) (pgs_names h c.2) ?_
    obtain ⟨h1, _, _⟩ := assign_names (env := X.env) c'
    obtain ⟨h2, _, _⟩ := assign_names (env := X.env) c.2
    rw [h1, h2]; rfl
  | [], _ :: _, c => by cases c
  | _ :: _, [], c => by cases c
theorem pg_tg (h : XOk C N sc top X) (hcm : XCalm C X) {tg : List Nat} {e : Expr} (c : chkTg N top sc tg e = true) : PG X e (gX X.K tg) := by
  match tg, c with
  | [i], c => exact pg_isName h c
  | [], c =>
    cases e with
    | Tuple es k p =>
      have c : areNames N top sc [] es = true := c
      obtain ⟨_, h2, h3⟩ := assign_names (env := X.env) c
      exact pg_tup hcm.calm (pgs_names h c) h2 h3
    | _ => cases c
  | i :: j :: t, c =>
    cases e with
    | Tuple es k p =>
      have c : areNames N top sc (i :: j :: t) es = true := c
      obtain ⟨_, h2, h3⟩ := assign_names (env := X.env) c
      exact pg_tup hcm.calm (pgs_names h c) h2 h3
    | _ => cases c
theorem blk_ok (h : XOk C N sc top X) (s : Shared) (H : Hp) (scope : Scope) (D : Addr) (cl : List (Str × Addr)) (fp : List Addr) : XOk C N (relS scope sc) false (X.blk s H scope (compEnvC scope cl D X.env) fp) :=
  ⟨h.eP, h.eW, h.eK, h.eM, h.eB, h.eN, by rw [← h.eS]; rfl, h.nd, h.dp, h.un, fun z => by cases z⟩
theorem blk_calm (h : XCalm C X) (s : Shared) (H : Hp) (scope : Scope) (D : Addr) (cl : List (Str × Addr)) (fp : List Addr) : XCalm C (X.blk s H scope (compEnvC scope cl D X.env) fp) := ⟨h.calm, h.room⟩
theorem noWish {Y : Cx} : Takes Y (fun _ _ _ _ => False) := takes0
def tAnyT (C : Cfg) (f : Gam → R Bool) : TT := fun σ H Q => ∃ B Γ, tT C B Γ W0 (f Γ) σ H Q
theorem pe_any {Y : Cx} {f : Gam → R D} (h : ∀ B Γ, PE Y a (tD C B Γ W0 (f Γ))) : PE Y a (tAny C f) := ⟨fun pins s σ H Q I ⟨B, Γ, q⟩ => (h B Γ).run pins s σ H Q I q⟩
theorem pt_any {Y : Cx} {f : Gam → R Bool} (h : ∀ B Γ, PT Y a (tT C B Γ W0 (f Γ))) : PT Y a (tAnyT C f) := ⟨fun pins s σ H Q I ⟨B, Γ, q⟩ => (h B Γ).run pins s σ H Q I q⟩
theorem take_succ {α : Type} {l : List α} {i : Nat} {d : α} (h : l[i]? = some d) : l.drop i = d :: l.drop (i + 1) := by
  obtain ⟨hl, e⟩ := List.getElem?_eq_some_iff.mp h
  rw [List.drop_eq_getElem_cons hl, e]
theorem tLc_ok {tg : List Nat} {wi : TI} {tt : TT} {te : TE} {own : List (Str × Nat)} {rit : R (List D)} {fc : Option (Gam → R D)} {fe : Gam → R D} (ho : own.map (·.2) = tg)
    (hwi : wi = tI C B Γ W rit) (htt : tt = match fc with | none => tYes | some f => tAnyT C fun Γ => (f Γ).bind truD) (hte : te = tAny C fe) {σ : L2.St} {H : Hp} {Q : VK}
    (q : tN C B Γ W (rit.bind fun items => (compD tg (killG Γ tg) fc fe items []).noexc.bind fun ds => .ok (.lst ds)) σ H Q) : tLc wi (gX X.K tg) tt te (own.map (·.2)) σ H Q := by
  subst hwi hte
  rw [ho]
  obtain ⟨F, s, p⟩ := q
  refine ⟨F, s, p.bind.mono fun J H1 ⟨F1, items, e1, f1, r1, _, p1⟩ => ?_⟩
  intro D0 hD
  have s1 := (s.ext_ e1 f1).wipe tg
  -- the outcome
  cases eo : compD tg (killG Γ tg) fc fe items [] with
  | exc c => rw [eo] at p1; exact False.elim p1
  | bad => rw [eo] at p1; exact False.elim p1
  | ok res =>
    rw [eo] at p1
    have p1 : Po C (RpN C H) F1 H1 (.ok (.lst res)) Q (Wx C W σ) := p1
    -- the invariant
    let Inv : Nat → Hp → Prop := fun i Hc => ∃ Fc acc xs, Ext F1 H1 Fc Hc ∧ Fits C Fc Hc ∧ Fc D0 = none ∧ Hc D0 = some (.lst xs) ∧ RepL C Fc xs acc ∧ i ≤ items.length ∧ compD tg (killG Γ tg) fc fe (items.drop i) acc = .ok res
    refine ⟨fun i m Hc => m = items.length - i ∧ Inv i Hc, ⟨items.length, by simp, F1, [], [], (Ext.refl _ _).fresh hD, f1.fresh hD, f1.free hD, upd_same, rfl, Nat.zero_le _, by simpa using eo⟩, ?_⟩
    rintro i m Hc ⟨rfl, Fc, acc, xs, ec, fc', hFD, hHD, ra, hi, er⟩
    obtain ⟨hgo, hstop⟩ := r1 Fc Hc ec.le fc'
    by_cases hlt : i < items.length
    · have hd : items[i]? = some items[i] := List.getElem?_eq_getElem hlt
      obtain ⟨go, y⟩ := hgo i _ hd
      refine .inr ⟨go, Inv (i + 1), fun H' q => ⟨items.length - (i + 1), by omega, rfl, q⟩, fun x H' hy => ?_⟩
      obtain ⟨F2, e2, f2, rx⟩ := y x H' hy
      rw [take_succ hd] at er
      unfold compD at er
      have s2 : SR C B F2 H' (wipe σ tg) (killG Γ tg) := s1.ext_ (ec.trans e2) f2
      obtain ⟨hHD2, hFD2⟩ := e2.own hHD hFD
      cases et : tgtD (killG Γ tg) tg items[i] with
      | exc c => rw [et] at er; cases er
      | bad => rw [et] at er; cases er
      | ok Γ' =>
        rw [et] at er
        refine gX_ok s2 rx et (fun i hi => hi) fun σ' s' hw => ?_
        have ww : ∀ (l : List Nat), (∀ i ∈ l, i ∈ tg) → wipe (wipe σ l) tg = wipe σ tg := by
          intro l
          induction l with
          | nil => intro _; rfl
          | cons v r ih =>
            intro hl
            show wipe ((wipe σ r).set v none) tg = _
            rw [wipe_set (hl v List.mem_cons_self), ih fun i hi => hl i (List.mem_cons_of_mem _ hi)]
        refine ⟨hw.trans (ww tg fun _ h => h), ?_⟩
        -- the element, if kept
        have keep : ∀ (F3 : Wd) (H3 : Hp), Ext F2 H' F3 H3 → Fits C F3 H3 → ((fe Γ').bind fun y => if acc.length < LINE then compD tg (killG Γ tg) fc fe (items.drop (i + 1)) (acc ++ [y]) else .bad) = .ok res →
            tAny C fe σ' H3 fun y H4 => ∃ acc', H4 D0 = some (.lst acc') ∧ acc'.length < sizeLine ∧ Inv (i + 1) (upd H4 D0 (.lst (acc' ++ [y]))) := by
          intro F3 H3 e3 f3 er
          refine ⟨B, Γ', F3, s'.ext_ e3 f3, ?_⟩
          cases ef : fe Γ' with
          | exc c => rw [ef] at er; cases er
          | bad => rw [ef] at er; cases er
          | ok dy =>
            rw [ef] at er
            have er : (if acc.length < LINE then compD tg (killG Γ tg) fc fe (items.drop (i + 1)) (acc ++ [dy]) else .bad) = .ok res := er
            split at er
            · rename_i hl
              intro y F4 H4 e4 f4 ry
              obtain ⟨hHD4, hFD4⟩ := (e3.trans e4).own hHD2 hFD2
              have rl := RepL.le ((e2.trans e3).trans e4).le _ _ ra
              refine ⟨xs, hHD4, by rw [ra.len, line_eq]; exact hl, F4, acc ++ [dy], xs ++ [y], ?_, f4.write hFD4, hFD4, upd_same, rl.snoc ry, hlt, er⟩
              exact (((ec.trans e2).trans e3).trans e4).fresh hD
            · cases er
        have skip : ∀ (F3 : Wd) (H3 : Hp), Ext F2 H' F3 H3 → Fits C F3 H3 → compD tg (killG Γ tg) fc fe (items.drop (i + 1)) acc = .ok res → Inv (i + 1) H3 := by
          intro F3 H3 e3 f3 er
          obtain ⟨hHD3, hFD3⟩ := e3.own hHD2 hFD2
          exact ⟨F3, acc, xs, (ec.trans e2).trans e3, f3, hFD3, hHD3, RepL.le (e2.trans e3).le _ _ ra, hlt, er⟩
        cases fc with
        | none =>
          subst htt
          exact iteT (B := Inv (i + 1) H') (keep F2 H' (Ext.refl _ _) f2 er)
        | some f =>
          subst htt
          have er : (((f Γ').bind truD).bind fun b => if b then (fe Γ').bind fun y => if acc.length < LINE then compD tg (killG Γ tg) (some f) fe (items.drop (i + 1)) (acc ++ [y]) else .bad else compD tg (killG Γ tg) (some f) fe (items.drop (i + 1)) acc) = .ok res := er
          refine ⟨B, Γ', F2, s', ?_⟩
          cases ef : (f Γ').bind truD with
          | exc c => rw [ef] at er; cases er
          | bad => rw [ef] at er; cases er
          | ok bb =>
            rw [ef] at er
            have er : (if bb then (fe Γ').bind fun y => if acc.length < LINE then compD tg (killG Γ tg) (some f) fe (items.drop (i + 1)) (acc ++ [y]) else .bad else compD tg (killG Γ tg) (some f) fe (items.drop (i + 1)) acc) = .ok res := er
            show Po C RpT F2 H' ((f Γ').bind truD) _ _
            rw [ef]
            intro b2 F3 H3 e3 f3 eb
            cases eb
            cases bb with
            | true => rw [if_pos rfl] at er ⊢; exact keep F3 H3 e3 f3 er
            | false => rw [if_neg Bool.false_ne_true] at er ⊢; exact skip F3 H3 e3 f3 er
    · have hi' : i = items.length := by omega
      subst hi'
      rw [List.drop_length] at er
      unfold compD at er
      cases er
      refine .inl ⟨hstop _ (Nat.le_refl _), p1 _ _ _ ec fc' ⟨D0, xs, rfl, e1.free0 s.fits f1 hD, hFD, hHD, ra⟩⟩
end
end G
namespace G
open PySem L2
def bopIs : BOp → Operator → Bool
  | .add, .Add => true | .sub, .Sub => true | .mul, .Mult => true | .fdiv, .FloorDiv => true | .mod, .Mod => true | .pow, .Pow => true | .shr, .RShift => true
  | _, _ => false
def copIs : COp → CmpOp → Bool
  | .eq, .Eq => true | .ne, .NotEq => true | .lt, .Lt => true | .le, .LtE => true | .gt, .Gt => true | .ge, .GtE => true | .isin, .In => true | .notin, .NotIn => true
  | _, _ => false
def f1Name : F1 → Option Str
  | .len => some "len" | .int => some "int" | .str => some "str" | .tuple => some "tuple" | .list => some "list" | .sum => some "sum" | .sorted => some "sorted" | .min => some "min" | .all => some "all"
def f1Hot : F1 → Bool
  | .len | .int | .str | .tuple => true
  | _ => false
def tyBoot (x : Str) : Option String :=
  if x = "int" then some "int" else if x = "str" then some "str" else if x = "bool" then some "bool" else if x = "list" then some "list" else if x = "tuple" then some "tuple" else if x = "bytes" then some "bytes" else if x = "ValueError" then some "ValueError" else none
def chkTy (T : Tb) (sc : Scope) (t : Ty) (e : Expr) : Bool :=
  match e with
  | .Name x _ => match t with
    | .b n => decide (tyBoot x = some n) && glB sc x
    | .c n => decide (T.cname n = some x) && glB sc x
    | .x n => decide (T.ename n = some x) && glB sc x
  | _ => false
def chkTys (T : Tb) (sc : Scope) : List Ty → List Expr → Bool
  | [], [] => true
  | t :: ts, e :: es => chkTy T sc t e && chkTys T sc ts es
  | _, _ => false
def isStr (s : List Nat) (c : Const) : Bool := match c with | .str x => decide (x.cps.toList = s) | _ => false
def ownOf (N : List Str) : List Nat → List (Str × Nat)
  | [] => []
  | i :: r => (match N[i]? with | some x => [(x, i)] | none => []) ++ ownOf N r
def plainT : Expr → Bool
  | .UnaryOp .Not .. => false
  | .BoolOp .. => false
  | .IfExp .. => false
  | .Compare .. => false
  | _ => true
def isComp : Expr → Bool
  | .ListComp .. => true
  | _ => false
def notBool : Expr → Bool
  | .BoolOp .. => false
  | _ => true
def isNil : E → Bool
  | .nil => true
  | _ => false
def partB (lo : E) (el : Option Expr) (f : Expr → Bool) : Bool := match el with
  | none => isNil lo
  | some e => !isNil lo && f e
def condB (c : E) (ifs : List Expr) (f : Expr → Bool) : Bool := match ifs with
  | [] => isNil c
  | [e] => !isNil c && f e
  | _ => false
mutual
def chkE (T : Tb) (N : List Str) : E → Scope → Expr → Bool
  | .var i, sc, ex => match ex with
    | .Name x _ => decide (N[i]? = some x) && visB sc x && nmOk x
    | _ => false
  | .int i, _, ex => match ex with
    | .Constant (.int j) _ _ => decide (i = j)
    | _ => false
  | .str s, _, ex => match ex with
    | .Constant c _ _ => isStr s c
    | _ => false
  | .bl b, _, ex => match ex with
    | .Constant (.bool c) _ _ => b == c
    | _ => false
  | .non, _, ex => match ex with
    | .Constant .none _ _ => true
    | _ => false
  | .glob n, sc, ex => match ex with
    | .Name x _ => decide (T.gname n = some x) && glB sc x
    | _ => false
  | .bin op a b, sc, ex => match ex with
    | .BinOp ea o eb _ => bopIs op o && chkE T N a sc ea && chkE T N b sc eb
    | _ => false
  | .neg a, sc, ex => match ex with
    | .UnaryOp .USub ea _ => chkE T N a sc ea
    | _ => false
  | .cmp op a b, sc, ex => match ex with
    | .Compare ea [o] [eb] _ => copIs op o && chkE T N a sc ea && chkE T N b sc eb && okx eb
    | _ => false
  | .isN a, sc, ex => match ex with
    | .Compare ea [.Is] [.Constant .none _ _] _ => chkE T N a sc ea
    | _ => false
  | .notN a, sc, ex => match ex with
    | .Compare ea [.IsNot] [.Constant .none _ _] _ => chkE T N a sc ea
    | _ => false
  | .chain p q a b c, sc, ex => match ex with
    | .Compare ea [o1, o2] [eb, ec] _ => copIs p o1 && copIs q o2 && chkE T N a sc ea && chkE T N b sc eb && chkE T N c sc ec && okx eb && okx ec
    | _ => false
  | .and a b, sc, ex => match ex with
    | .BoolOp .And (ea :: eb :: r) pos => chkE T N a sc ea && chkE T N b sc (.BoolOp .And (eb :: r) pos)
    | _ => false
  | .or a b, sc, ex => match ex with
    | .BoolOp .Or (ea :: eb :: r) pos => chkE T N a sc ea && chkE T N b sc (.BoolOp .Or (eb :: r) pos)
    | _ => false
  | .last a, sc, ex => match ex with
    | .BoolOp _ [ea] _ => chkE T N a sc ea
    | _ => false
  | .not a, sc, ex => match ex with
    | .UnaryOp .Not ea _ => chkE T N a sc ea
    | _ => false
  | .ite c a b, sc, ex => match ex with
    | .IfExp ec ea eb _ => chkE T N c sc ec && chkE T N a sc ea && chkE T N b sc eb
    | _ => false
  | .tup l, sc, ex => match ex with
    | .Tuple es _ _ => chkL T N l sc es
    | _ => false
  | .lst l, sc, ex => match ex with
    | .List es _ => chkL T N l sc es
    | _ => false
  | .nil, _, _ => false
  | .cons _ _, _, _ => false
  | .item a i, sc, ex => match ex with
    | .Subscript ea ei _ => chkE T N a sc ea && chkE T N i sc ei && okx ei
    | _ => false
  | .slice a lo hi, sc, ex => match ex with
    | .Subscript ea (.Slice el eh none _) _ => chkE T N a sc ea && partB lo el (fun e => chkE T N lo sc e) && partB hi eh (fun e => chkE T N hi sc e)
    | _ => false
  | .f1 f a, sc, ex => match ex with
    | .Call (.Name x _) [ea] [] _ => decide (f1Name f = some x) && glB sc x && chkE T N a sc ea && okx ea && (f1Hot f || T.calm)
    | _ => false
  | .f2 _ _ _, _, _ => false
  | .isi ts a, sc, ex => match ex with
    | .Call (.Name x _) [ea, et] [] _ => decide (x = "isinstance") && glB sc x && chkE T N a sc ea && okx ea && (match ts with
      | [t] => chkTy T sc t et
      | [t, u] => (match et with | .Tuple [e1, e2] _ _ => chkTy T sc t e1 && chkTy T sc u e2 | _ => false)
      | _ => false)
    | _ => false
  | .fld nm a, sc, ex => match ex with
    | .Attribute ea x _ => decide (T.fname nm = x) && notSuper ea && chkE T N a sc ea
    | _ => false
  | .call n l, sc, ex => match T.cb n with
    | some k => match k sc ex with
      | some es => !isComp ex && notBool ex && chkL T N l sc es
      | none => false
    | none => false
  | .calm n l, sc, ex => match T.cm n with
    | some k => match k sc ex with
      | some es => !isComp ex && notBool ex && chkL T N l sc es
      | none => false
    | none => false
  | .comp tg rng it c e, sc, ex => match ex with
    | .ListComp elt [⟨etg, eit, ifs, 0⟩] scope _ =>
      T.calm && blkC N sc scope (ownOf N tg) && decide ((ownOf N tg).map (·.2) = tg) && chkTg N false (relS scope sc) tg etg && okx eit &&
      (if rng then (match eit with | .Call (.Name x _) [a] [] _ => decide (x = "range") && glB sc x && chkL T N it sc [a] | .Call (.Name x _) [a, b] [] _ => decide (x = "range") && glB sc x && chkL T N it sc [a, b] | .Call (.Name x _) [a, b, c] [] _ => decide (x = "range") && glB sc x && chkL T N it sc [a, b, c] | _ => false) else chkE T N it sc eit) &&
      condB c ifs (fun i => chkE T N c (relS scope sc) i) && chkE T N e (relS scope sc) elt
    | _ => false
  | .compg n tg l e, sc, ex => match ex with
    | .ListComp elt [⟨etg, eit, [], 0⟩] scope _ => (match T.ga n with
      | some k => (match k sc eit with
        | some es => T.calm && blkC N sc scope (ownOf N tg) && decide ((ownOf N tg).map (·.2) = tg) && (scope.names.all fun y => y.2 != .cell) && chkTg N false (relS scope sc) tg etg && okx eit && chkL T N l sc es && chkE T N e (relS scope sc) elt
        | none => false)
      | none => false)
    | _ => false
  | .lend i e, sc, ex => match ex with
    | .Call f as ks p => chkE T N e sc (.Call f as ks p)
    | _ => false
  | .any, _, ex => !isComp ex
  | .fmt a, sc, ex => match ex with
    | .FormattedValue ea cv none _ => decide (cv = -1) && chkE T N a sc ea
    | _ => false
  | .own n i l, sc, ex => match T.ow n with
    | some k => match k N i sc ex with
      | some es => !isComp ex && notBool ex && chkL T N l sc es
      | none => false
    | none => false
  | .calv n cs i l, sc, ex => match T.cv n with
    | some (cs', k) => match k N i sc ex with
      | some es => (T.calm && decide (cs = cs')) && (!isComp ex && notBool ex && chkL T N l sc es)
      | none => false
    | none => false
  | .dget2 a k x, sc, ex => match ex with
    | .Call (.Attribute ea m ap) [ek, ed] [] cp => decide (m = "get") && notSuper ea && chkE T N a sc ea && chkE T N k sc ek && chkE T N x sc ed && okx ek && okx ed && (ap.endLine == cp.line)
    | _ => false
  | .isx i ts, sc, ex => match ex with
    | .Call (.Name f _) [.Name x _, et] [] _ => !T.calm && decide (f = "isinstance") && glB sc f && decide (N[i]? = some x) && visB sc x && nmOk x && (match ts with | [t] => chkTy T sc t et | ts => (match et with | .Tuple es _ _ => chkTys T sc ts es && decide (ts.length ≤ 8) | _ => false))
    | _ => false
  | .fldx _ _, _, _ => false
def chkL (T : Tb) (N : List Str) : E → Scope → List Expr → Bool
  | .nil, _, es => match es with
    | [] => true
    | _ => false
  | .cons a l, sc, es => match es with
    | e :: r => okx e && chkE T N a sc e && chkL T N l sc r
    | _ => false
  | _, _, _ => false
end
def isCg : E → Bool
  | .compg .. => true
  | _ => false
def newE : E → Bool
  | .bin .. => true
  | .lst _ => true
  | .slice .. => true
  | .f1 .. => true
  | .comp .. => true
  | .compg .. => true
  | _ => false
structure Snd (C : Cfg) (X : Cx) (B : Bs) (e : E) (ex : Expr) : Prop where
  pe : ∀ (W : WX), Takes X W → ∀ (Γ : Gam), PE X ex (tD C B Γ W (evE C.toMng e Γ))
  pt : ∀ (W : WX), Takes X W → ∀ (Γ : Gam), PT X ex (tT C B Γ W ((evE C.toMng e Γ).bind truD))
  pw : ∀ op vs pos, ex = .BoolOp op vs pos → ∀ (W : WX), Takes X W → ∀ (Γ : Gam), PW X ex (tT C B Γ W ((evE C.toMng e Γ).bind truD))
  pn : newE e = true → ∀ (W : WX), Takes X W → ∀ (Γ : Gam), PE X ex (tN C B Γ W (evE C.toMng e Γ))
  pb : ∀ (W : WX), Takes X W → ∀ (Γ : Gam), PE X ex (tB C B Γ W (borrow Γ e (evE C.toMng e Γ)))
theorem plainT_ok {e : Expr} {env : Env} (h : plainT e = true) (whole : Sem Value) : isTrue e env whole = (do let v ← whole; standAt e.pos; holding [v] (truthy v)) := by
  cases e with
  | UnaryOp op x p => cases op <;> first | rfl | cases h
  | BoolOp op x p => cases h
  | IfExp a b c p => cases h
  | Compare a b c p => cases h
  | _ => rfl
theorem nobool {e : Expr} (h : plainT e = true) {op : PySem.BoolOp} {vs : List Expr} {pos : Pos} (z : e = .BoolOp op vs pos) : False := by
  subst z; cases h
section
variable {C : Cfg} {T : Tb} {N : List Str} {sc : Scope} {top : Bool} {X : Cx} {B : Bs}
theorem borrow_ne {Γ : Gam} {e : E} {r : R D} (h : ∀ i, e ≠ .var i) : borrow Γ e r = r := by
  cases e <;> first | rfl | exact absurd rfl (h _)
theorem snd_mk (h : XOk C N sc top X) {e : E} {ex : Expr} (he : plainT ex = true) (hv : ∀ i, e ≠ .var i) (hn : newE e = false) (pe : ∀ (W : WX), Takes X W → ∀ (Γ : Gam), PE X ex (tD C B Γ W (evE C.toMng e Γ))) : Snd C X B e ex :=
  ⟨pe, fun W tk Γ => nd_truth h (pe W tk Γ) (plainT_ok he), fun op vs pos z => (nobool he z).elim, (fun z => by rw [hn] at z; cases z), fun W tk Γ => by rw [borrow_ne hv]; exact nd_B (pe W tk Γ)⟩
theorem snd_new (h : XOk C N sc top X) {e : E} {ex : Expr} (he : plainT ex = true) (hv : ∀ i, e ≠ .var i) (pn : ∀ (W : WX), Takes X W → ∀ (Γ : Gam), PE X ex (tN C B Γ W (evE C.toMng e Γ))) : Snd C X B e ex :=
  ⟨fun W tk Γ => nd_adopt (pn W tk Γ), fun W tk Γ => nd_truth h (nd_adopt (pn W tk Γ)) (plainT_ok he), fun op vs pos z => (nobool he z).elim, fun _ => pn, fun W tk Γ => by rw [borrow_ne hv]; exact nd_B (nd_adopt (pn W tk Γ))⟩
theorem part_some {lo : E} {r : R D} (h : isNil lo = false) : part lo r = r.bind partD := by cases lo <;> first | rfl | cases h
theorem part_none {lo : E} {r : R D} (h : isNil lo = true) : part lo r = .ok none := by cases lo <;> first | rfl | cases h
theorem snd_part {lo : E} {el : Option Expr} {f : Expr → Bool} (c : partB lo el f = true) (ih : ∀ e, f e = true → Snd C X B lo e) (W : WX) (tk : Takes X W) (Γ : Gam) : PO X el (tP C B Γ W (part lo (evE C.toMng lo Γ))) := by
  cases el with
  | none => rw [part_none (show isNil lo = true from c)]; exact nd_nopart
  | some e =>
    have c : (!isNil lo && f e) = true := c
    rw [Bool.and_eq_true, Bool.not_eq_true'] at c
    rw [part_some c.1]
    exact nd_part ((ih e c.2).pe W tk Γ)
theorem ty_pe (w : Wld C T) (h : XOk C N sc top X) {t : Ty} {e : Expr} (c : chkTy T sc t e = true) : PE X e (tC (clsV C t)) := by
  unfold chkTy at c
  split at c
  · rename_i x p
    cases t with
    | b n =>
      simp only [Bool.and_eq_true, decide_eq_true_eq] at c
      have hg := h.gl c.2
      have go : ∀ (hv : bootBuiltins x = some (.type n)) (hm : C.mg x = none), PE X (.Name x p) (tC (V.ty n)) := fun hv hm =>
        pe_bltn hg (by rw [h.eM]; exact hm) hv rfl (nm_n (glB_nm c.2)) (nm_d (glB_nm c.2))
      have c1 := c.1
      unfold tyBoot at c1
      split at c1
      · rename_i e; subst e; cases c1; exact go (by decide +kernel) (w.blt _ (by simp [BLT]))
      · split at c1
        · rename_i e; subst e; cases c1; exact go (by decide +kernel) (w.blt _ (by simp [BLT]))
        · split at c1
          · rename_i e; subst e; cases c1; exact go (by decide +kernel) (w.blt _ (by simp [BLT]))
          · split at c1
            · rename_i e; subst e; cases c1; exact go (by decide +kernel) (w.blt _ (by simp [BLT]))
            · split at c1
              · rename_i e; subst e; cases c1; exact go (by decide +kernel) (w.blt _ (by simp [BLT]))
              · split at c1
                · rename_i e; subst e; cases c1; exact go (by decide +kernel) (w.blt _ (by simp [BLT]))
                · split at c1
                  · rename_i e; subst e; cases c1; exact go (by decide +kernel) (w.blt _ (by simp [BLT]))
                  · cases c1
    | c n =>
      simp only [Bool.and_eq_true, decide_eq_true_eq] at c
      exact pe_glob (h.gl c.2) (by rw [h.eM]; exact (w.cnm n x c.1).1) rfl (nm_d (glB_nm c.2))
    | x n =>
      simp only [Bool.and_eq_true, decide_eq_true_eq] at c
      exact pe_glob (h.gl c.2) (by rw [h.eM]; exact (w.xnm n x c.1).1) rfl (nm_d (glB_nm c.2))
  · cases c
theorem ty_tok (w : Wld C T) {t : Ty} {e : Expr} (c : chkTy T sc t e = true) : tok C t = true := by
  unfold chkTy at c
  split at c
  · rename_i x p
    cases t with
    | b n => rfl
    | c n =>
      simp only [Bool.and_eq_true, decide_eq_true_eq] at c
      exact (w.cnm n x c.1).2
    | x n =>
      simp only [Bool.and_eq_true, decide_eq_true_eq] at c
      exact (w.xnm n x c.1).2
  · cases c
theorem ty_okx {t : Ty} {e : Expr} (c : chkTy T sc t e = true) : okx e = true := by
  unfold chkTy at c
  split at c
  · rfl
  · cases c
end
end G
namespace G
open PySem L2
def ExOk (C : Cfg) (X : Cx) (B : Bs) : Prop := ∃ (X0 : Cx) (oe : Obj) (pn : List (Addr × Obj)), X = X0.suite B.xa ((B.xa, oe) :: pn) ∧ Zc (.ref (C.exa B.xe.1)) none oe ∧ (∃ vs, oe.data = .fields vs) ∧ C.hasX B.xe.1 = true
def BOk (C : Cfg) (T : Tb) (X : Cx) (B : Bs) : Prop := T.calm = false → ExOk C X B
def rIsX (C : Cfg) (B : Bs) : List V → Hp → VK → Prop := fun xs H Q => ∃ (c : V) (cv : Value) (b : Bool), xs = [.ref B.xa, c] ∧ ClsV c cv ∧ PySem.W.kitOne C.K (.ref (C.exa B.xe.1)) cv = some b ∧ Q (.bl b) H
def rIsXT (C : Cfg) (B : Bs) : List V → Hp → VK → Prop := fun xs H Q => ∃ (tp : Addr) (cs : List V) (us : List Value) (b : Bool), xs = [.ref B.xa, .ref tp] ∧ H tp = some (.tup cs) ∧ Paired ClsV cs us ∧ PySem.W.kitAny C.K (.ref (C.exa B.xe.1)) us = some b ∧ Q (.bl b) H
section
variable {C : Cfg} {T : Tb} {N : List Str} {sc : Scope} {top : Bool} {X : Cx} {B : Bs} {Γ : Gam} {W : WX} {pos p : Pos} {a b c : Expr} {es : List Expr} {ra rb : R D} {rs : R (List D)}
theorem exInst {X0 : Cx} {oe : Obj} {pn pins : List (Addr × Obj)} {σ : L2.St} {H : Hp} {s : Shared} {xa Dd : Addr} (I : Inv (X0.suite xa ((xa, oe) :: pn)) pins σ H s) (hz : Zc (.ref Dd) none oe) (hf : ∃ vs, oe.data = .fields vs) : PySem.W.InstAt s.heap xa oe Dd none := by
  obtain ⟨hget, _⟩ := I.pin (xa, oe) (List.mem_append.mpr (.inl List.mem_cons_self))
  obtain ⟨vs, hv⟩ := hf
  obtain ⟨oc, od, oda, osl⟩ := oe
  obtain ⟨h1, h2⟩ := hz
  dsimp only at h1 h2 hv
  subst h1 h2 hv
  exact ⟨hget, rfl, rfl, trivial⟩
theorem call_isX (h : XOk C N sc top X) (hC : ExcC C.K (C.exa B.xe.1)) (hx : ExOk C X B) : CallR X (.builtin "isinstance") (rIsX C B) := by
  obtain ⟨X0, oe, pn, rfl, hz, hf, _⟩ := hx
  intro pins s σ H xs us Q I r ⟨c, cv, b, e0, k, e, q⟩
  subst e0
  obtain ⟨u1, u2, rfl, r1, r2⟩ := vals2 r
  have e2 := k.eq r2
  subst e2
  obtain rfl : u1 = Value.ref B.xa := r1
  have eK : X0.K = C.K := h.eK
  rw [← eK] at hC e
  exact PySem.W.kia_one (PySem.W.handS_kitx_exc hC.hg hC.hk hC.hs hC.hd hC.ha hC.hn hC.ht hC.hm) I.kIn (exInst I hz hf) e (fun z => nomatch z) fun tk => ⟨.bl b, H, I.tok tk, rfl, q⟩
theorem call_isXT (h : XOk C N sc top X) (hC : ExcC C.K (C.exa B.xe.1)) (hx : ExOk C X B) : CallR X (.builtin "isinstance") (rIsXT C B) := by
  obtain ⟨X0, oe, pn, rfl, hz, hf, _⟩ := hx
  intro pins s σ H xs us Q I r ⟨tp, cs, ws, b, e0, hT, k, e, q⟩
  subst e0
  obtain ⟨u1, u2, rfl, r1, r2⟩ := vals2 r
  cases (show u2 = Value.ref tp from r2)
  obtain rfl : u1 = Value.ref B.xa := r1
  have eK : X0.K = C.K := h.eK
  rw [← eK] at hC e
  obtain ⟨_, its, rv, o, h1, h2, n, h3⟩ := (show ObjOk X0.prog X0.w H s.heap tp (.tup cs) from I.hok tp _ hT)
  have e3 := ClsV.all k rv
  subst e3
  have J := exInst I hz hf
  obtain ⟨oc, od, dt, sl⟩ := o
  simp only at h2 h3
  subst h2 h3
  exact PySem.W.kia_tup (PySem.W.handS_kitx_exc hC.hg hC.hk hC.hs hC.hd hC.ha hC.hn hC.ht hC.hm) I.kIn J h1 e (fun z => nomatch z) fun tk => ⟨.bl b, H, I.tok tk, rfl, q⟩
def tTys (C : Cfg) : List Ty → TA
  | [] => tNil
  | t :: ts => tCons (tC (clsV C t)) (tTys C ts)
theorem tys_pa (w : Wld C T) (h : XOk C N sc top X) : ∀ {ts : List Ty} {es : List Expr}, chkTys T sc ts es = true → PA X es (tTys C ts) ∧ ts.all (tok C) = true
  | [], [], _ => ⟨pa_nil, rfl⟩
  | t :: ts, e :: es, c => by
    unfold chkTys at c
    rw [Bool.and_eq_true] at c
    obtain ⟨ih, it⟩ := tys_pa w h c.2
    exact ⟨pa_cons (ty_pe w h c.1) ih (star_cons (ty_okx c.1)), by rw [List.all_cons, ty_tok w c.1, it]; rfl⟩
  | [], _ :: _, c => by cases c
  | _ :: _, [], c => by cases c
theorem tTys_eq {ts : List Ty} {σ : L2.St} : ∀ {H : Hp} {Q : List V → Hp → Prop}, Q (ts.map (clsV C)) H → tTys C ts σ H Q := by
  induction ts with
  | nil => intro H Q q; exact q
  | cons t ts ih => intro H Q q; exact ih q
theorem paired_cls : ∀ (ts : List Ty), Paired ClsV (ts.map (clsV C)) (ts.map (tyv C))
  | [] => .nil
  | t :: ts => .cons (clsV_ok t) (paired_cls ts)
theorem nd_isx (w : Wld C T) (h : XOk C N sc top X) (hx : ExOk C X B) {i : Nat} {x : Str} {px : Pos} {et : Expr} {ts : List Ty} (hN : N[i]? = some x) (hv : visB sc x = true) (hn : nmOk x = true) (hg : glB sc "isinstance" = true)
    (ct : (match ts with | [t] => chkTy T sc t et | ts => (match et with | .Tuple es _ _ => chkTys T sc ts es && decide (ts.length ≤ 8) | _ => false)) = true) :
    PE X (.Call (.Name "isinstance" p) [.Name x px, et] [] pos) (tD C B Γ W (evE C.toMng (.isx i ts) Γ)) := by
  have hh : C.hasX B.xe.1 = true := let ⟨_, _, _, _, _, _, z⟩ := hx; z
  have hC := w.exc _ hh
  have pv : PE X (.Name x px) (tVar i) := pe_var (i := i) (by rw [h.eN]; exact hN) (h.vis hv) (nm_d hn) (nm_c hn)
  have one : ∀ (t : Ty) (e : Expr), chkTy T sc t e = true → PE X (.Call (.Name "isinstance" p) [.Name x px, e] [] pos) (tD C B Γ W (evE C.toMng (.isx i [t]) Γ)) := fun t e ct => by
    refine (pe_callB (call_isX h hC hx) (h.gl hg) (by rw [h.eM]; exact w.blt _ (by simp [BLT])) PyProof.Rows.boot_isinstance (pa_cons pv (pa_cons (ty_pe w h ct) pa_nil (star_cons (ty_okx ct))) (star_cons rfl)) (by decide) (by decide) (star_cons rfl)
      (star_any (es := [e]) (by rw [List.all_cons, ty_okx ct]; rfl))).imp fun σ H Q ⟨F, s, q⟩ => ?_
    rw [evE] at q
    split at q
    · rename_i e1 he1
      obtain ⟨v1, v2⟩ := s.sl i _ he1
      subst v2
      refine ⟨_, join_of v1, ?_⟩
      split at q
      · rename_i bb hi
        have hs : PySem.W.kitOne C.K (tyv C (.x B.xe.1)) (tyv C t) = some bb := by
          unfold isiD at hi
          split at hi
          · rename_i e; cases hi; exact w.sub _ _ _ hh (ty_tok w ct) e
          · rename_i e; unfold isiD at hi; cases hi; exact w.sub _ _ _ hh (ty_tok w ct) e
          · cases hi
        exact ⟨clsV C t, tyv C t, bb, rfl, clsV_ok t, hs, q.now s.fits rfl⟩
      · exact False.elim q
    · exact False.elim q
  have many : ∀ (es : List Expr) (k : Nat) (pt : Pos), chkTys T sc ts es = true → ts.length ≤ 8 → PE X (.Call (.Name "isinstance" p) [.Name x px, .Tuple es k pt] [] pos) (tD C B Γ W (evE C.toMng (.isx i ts) Γ)) := fun es k pt ct hl => by
    obtain ⟨pa, ta⟩ := tys_pa w h ct
    refine (pe_callB (call_isXT h hC hx) (h.gl hg) (by rw [h.eM]; exact w.blt _ (by simp [BLT])) PyProof.Rows.boot_isinstance (pa_cons pv (pa_cons (pe_tup pa) pa_nil (star_cons rfl)) (star_cons rfl)) (by decide) (by decide) (star_cons rfl)
      (star_any (es := [.Tuple es k pt]) rfl)).imp fun σ H Q ⟨F, s, q⟩ => ?_
    rw [evE] at q
    split at q
    · rename_i e1 he1
      obtain ⟨v1, v2⟩ := s.sl i _ he1
      subst v2
      refine ⟨_, join_of v1, tTys_eq ⟨by rw [List.length_map, line_eq]; exact Nat.le_trans hl (by decide), fun t1 ht1 => ?_⟩⟩
      obtain ⟨e', f'⟩ := laid (u := .tup (ts.map (clsV C))) s.fits ht1
      split at q
      · rename_i bb hi
        exact ⟨t1, ts.map (clsV C), ts.map (tyv C), bb, rfl, upd_same, paired_cls ts, isi_kit w (t := .x B.xe.1) hh ta hi, q _ _ _ e' f' rfl⟩
      · exact False.elim q
    · exact False.elim q
  split at ct
  · exact one _ _ ct
  · split at ct
    · rw [Bool.and_eq_true, decide_eq_true_eq] at ct
      exact many _ _ _ ct.1 ct.2
    · cases ct
end
end G
namespace G
open PySem L2
section
variable {C : Cfg} {T : Tb} {N : List Str} {sc : Scope} {top : Bool} {X : Cx} {B : Bs} {Γ : Gam} {W : WX} {pos p : Pos} {a b c : Expr} {es : List Expr} {ra rb rc : R D}
theorem bin_all (op : BOp) (o : Operator) (c : bopIs op o = true) : ∃ r : R2, OpR X (binaryOp o) r ∧ ∀ H0 F H x y dx dy Q Ex, (∀ p, H p = none → H0 p = none) → Fits C F H → RpB C F H x dx → RpB C F H y dy → Po C (RpN C H0) F H (binD op dx dy) Q Ex → r x y H Q := by
  cases op <;> cases o <;> first
    | (cases c; done)
    | exact ⟨_, op_add3, fun H0 F H x y dx dy Q Ex hf f rx ry q => wt_add H0 hf f rx ry q⟩
    | exact ⟨_, op_sub, fun H0 F H x y dx dy Q Ex hf f rx ry q => wt_sub H0 f rx ry q⟩
    | exact ⟨_, op_mul3, fun H0 F H x y dx dy Q Ex hf f rx ry q => wt_mul H0 f rx ry q⟩
    | exact ⟨_, op_fdiv, fun H0 F H x y dx dy Q Ex hf f rx ry q => wt_fdiv H0 f rx ry q⟩
    | exact ⟨_, op_mod, fun H0 F H x y dx dy Q Ex hf f rx ry q => wt_mod H0 f rx ry q⟩
    | exact ⟨_, op_pow, fun H0 F H x y dx dy Q Ex hf f rx ry q => wt_pow H0 f rx ry q⟩
    | exact ⟨_, op_shr, fun H0 F H x y dx dy Q Ex hf f rx ry q => wt_shr H0 f rx ry q⟩
theorem cmp_all (h : XOk C N sc top X) (op : COp) (o : CmpOp) (c : copIs op o = true) : ∃ r : R2, OpR X (compareOp o) r ∧ ∀ F H x y dx dy (Q : VK) Ex, Fits C F H → RpB C F H x dx → RpB C F H y dy → Po C RpT F H (cmpD op dx dy) (fun k H' => Q (.bl k) H') Ex → r x y H Q := by
  have u1 : X.A.units + 64 < cLine := by have := h.un; omega
  cases op <;> cases o <;> first
    | (cases c; done)
    | exact ⟨_, (op_eqD u1).or op_eqB, fun F H x y dx dy Q Ex f rx ry q => wt_eq f rx ry q⟩
    | exact ⟨_, (op_neD u1).or op_neB, fun F H x y dx dy Q Ex f rx ry q => wt_ne f rx ry q⟩
    | exact ⟨_, op_lt3 h, fun F H x y dx dy Q Ex f rx ry q => wt_lt f rx ry q⟩
    | exact ⟨_, op_le3 h, fun F H x y dx dy Q Ex f rx ry q => wt_le f rx ry q⟩
    | exact ⟨_, op_gt3 h, fun F H x y dx dy Q Ex f rx ry q => wt_gt f rx ry q⟩
    | exact ⟨_, op_ge3 h, fun F H x y dx dy Q Ex f rx ry q => wt_ge f rx ry q⟩
    | exact ⟨_, op_in4 h, fun F H x y dx dy Q Ex f rx ry q => wt_in f rx ry q⟩
    | exact ⟨_, op_notin4 h, fun F H x y dx dy Q Ex f rx ry q => wt_notin f rx ry q⟩
def chainD (q : COp) (y : D) (b : Bool) (rc : R D) : R Bool := if b then rc.bind fun z => cmpD q y z else .ok false
theorem chain_eq (p' q' : COp) (ra rb rc : R D) : (ra.bind fun x => rb.bind fun y => (cmpD p' x y).bind fun r => (chainD q' y r rc).bind fun r => .ok (.bl r)) = (ra.bind fun x => rb.bind fun y => (cmpD p' x y).bind fun r => chainD q' y r rc).bind (fun r => .ok (D.bl r)) := by
  rw [bind_bind]
  congr 1
  funext x
  rw [bind_bind]
  congr 1
  funext y
  rw [bind_bind]
theorem nd_chain {p' q' : COp} {o1 o2 : CmpOp} (h : XOk C N sc top X) (c1 : copIs p' o1 = true) (c2 : copIs q' o2 = true) (ha : PE X a (tD C B Γ W ra)) (hb : PE X b (tD C B Γ W rb)) (hc : PE X c (tD C B Γ W rc)) (ob : okx b = true) (oc : okx c = true) :
    PE X (.Compare a [o1, o2] [b, c] pos) (tD C B Γ W (ra.bind fun x => rb.bind fun y => (cmpD p' x y).bind fun r => (chainD q' y r rc).bind fun r => .ok (.bl r))) ∧
    PT X (.Compare a [o1, o2] [b, c] pos) (tT C B Γ W (ra.bind fun x => rb.bind fun y => (cmpD p' x y).bind fun r => chainD q' y r rc)) := by
  obtain ⟨r1, ho1, hw1⟩ := cmp_all (C := C) h p' o1 c1
  obtain ⟨r2, ho2, hw2⟩ := cmp_all (C := C) h q' o2 c2
  have hm : lastMarks [o1, o2] [b, c] = false := by
    show lastMarks [o2] [c] = false
    exact nomark_ok oc o2
  have key : ∀ (σ : L2.St) (H : Hp) (Q : VK), (∃ F, SR C B F H σ Γ ∧ Po C RpT F H (ra.bind fun x => rb.bind fun y => (cmpD p' x y).bind fun r => chainD q' y r rc) (fun k H' => Q (.bl k) H') (Wx C W σ)) → tChain r1 r2 (tD C B Γ W ra) (tD C B Γ W rb) (tD C B Γ W rc) σ H Q := by
    rintro σ H Q ⟨F, s, q⟩
    refine ⟨F, s, q.bind.mono fun x H1 ⟨F1, dx, e1, f1, rx, _, q1⟩ => ⟨F1, s.ext_ e1 f1, q1.bind.mono fun y H2 ⟨F2, dy, e2, f2, ry, _, q2⟩ => ?_⟩⟩
    refine hw1 F2 H2 x y dx dy _ (Wx C W σ) f2 (.inl (Rep.le e2.le _ _ rx)) (.inl ry) (q2.bind.mono fun k H3 ⟨F3, k', e3, f3, ek, _, q3⟩ => ?_)
    cases ek
    refine ⟨k, rfl, ?_⟩
    cases k with
    | true =>
      rw [if_pos rfl]
      have q3 : Po C RpT F3 H3 (rc.bind fun z => cmpD q' dy z) (fun k H' => Q (.bl k) H') (Wx C W σ) := q3
      refine ⟨F3, s.ext_ ((e1.trans e2).trans e3) f3, q3.bind.mono fun z H4 ⟨F4, dz, e4, f4, rz, _, q4⟩ => ?_⟩
      exact hw2 F4 H4 y z dy dz Q (Wx C W σ) f4 (.inl (Rep.le (e3.trans e4).le _ _ ry)) (.inl rz) q4
    | false =>
      rw [if_neg Bool.false_ne_true]
      have q3 : Po C RpT F3 H3 (.ok false) (fun k H' => Q (.bl k) H') (Wx C W σ) := q3
      exact q3.now f3 rfl
  refine ⟨?_, ?_⟩
  · refine (pe_chain ho1 ho2 ha hb hc hm).imp fun σ H Q ⟨F, s, q⟩ => key σ H Q ⟨F, s, ?_⟩
    have e := chain_eq p' q' ra rb rc
    rw [e] at q
    exact q.bind.mono fun k H1 ⟨F1, k', e1, f1, ek, _, q1⟩ => by cases ek; exact q1.now f1 rfl
  · refine (pt_chain ho1 ho2 ha hb hc hm).imp fun σ H Q ⟨F, s, q⟩ => key σ H _ ⟨F, s, q.mono fun k H1 q1 => ⟨k, rfl, q1⟩⟩
theorem f1_all (w : Wld C T) (h : XOk C N sc top X) {f : F1} {x : Str} (hcm : T.calm = true → XCalm C X) (c : f1Name f = some x) (hot : (f1Hot f || T.calm) = true) (hg : glB sc x = true) (o : okx a = true) (ha : PE X a (tB C B Γ W ra)) : PE X (.Call (.Name x p) [a] [] pos) (tN C B Γ W (ra.bind (f1D f))) := by
  cases f with
  | len => cases c; exact nd_f1B h call_len boot_len (w.blt _ (by simp [BLT])) hg o ha (fun H0 F H v d Q Ex hf f r q => wt_len h H0 F H v d Q Ex hf f r q)
  | int => cases c; exact nd_f1T h call_int1 (by decide +kernel) (w.blt _ (by simp [BLT])) hg o ha (fun H0 F H v d Q Ex hf f r q => wt_int H0 F H v d Q Ex hf f r q)
  | str => cases c; exact nd_f1T h call_str_int (by decide +kernel) (w.blt _ (by simp [BLT])) hg o ha (fun H0 F H v d Q Ex hf f r q => wt_str H0 F H v d Q Ex hf f r q)
  | tuple => cases c; exact nd_f1T h call_tuple_of (by decide +kernel) (w.blt _ (by simp [BLT])) hg o ha (fun H0 F H v d Q Ex hf f r q => wt_tuple H0 F H v d Q Ex hf f r q)
  | list => cases c; exact nd_f1T h (call_list3 h (hcm hot).calm) (by decide +kernel) (w.blt _ (by simp [BLT])) hg o ha (fun H0 F H v d Q Ex hf f r q => wt_list H0 F H v d Q Ex hf f r q)
  | sorted => cases c; exact nd_f1B h (call_srt2 h (hcm hot).calm) (by decide +kernel) (w.blt _ (by simp [BLT])) hg o ha (fun H0 F H v d Q Ex hf f r q => wt_srt H0 F H v d Q Ex hf f r q)
  | min => cases c; exact nd_f1B h (call_minO h (hcm hot).calm) (by decide +kernel) (w.blt _ (by simp [BLT])) hg o ha (fun H0 F H v d Q Ex hf f r q => wt_min H0 F H v d Q Ex hf f r q)
  | sum => cases c; exact nd_f1B h (call_sum2 (hcm hot).calm) (by decide +kernel) (w.blt _ (by simp [BLT])) hg o ha (fun H0 F H v d Q Ex hf f r q => wt_sum H0 F H v d Q Ex hf f r q)
  | all => cases c; exact nd_f1B h (cr_all (hcm hot).calm) (by decide +kernel) (w.blt _ (by simp [BLT])) hg o ha (fun H0 F H v d Q Ex hf f r q => wt_all H0 F H v d Q Ex hf f r q)
theorem nd_get2 {ap cp : Pos} (h : XOk C N sc top X) (hn : notSuper a = true) (ha : PE X a (tB C B Γ W ra)) (hb : PE X b (tD C B Γ W rb)) (hc : PE X c (tD C B Γ W rc)) (ob : okx b = true) (oc : okx c = true) (hl : (ap.endLine == cp.line) = true) :
    PE X (.Call (.Attribute a "get" ap) [b, c] [] cp) (tD C B Γ W (ra.bind fun d => if d.isDct then rb.bind fun y => rc.bind fun z => dgetD d y z else .bad)) :=
  (pe_get2 h ha hb hc ⟨attr_ok hn, by rw [star_cons ob, star_cons oc]; rfl, hl, by rw [star_cons ob, star_cons oc]; rfl⟩).imp fun σ H Q ⟨F, s, p⟩ => ⟨F, s, p.bind.mono fun x H1 ⟨F1, dx, e1, f1, r1, er, p1⟩ => by
    cases dx with
    | dict k ks vs =>
      obtain ⟨q, kas, xs, po, rfl, hq, d1⟩ := r1.dict f1
      have p1 : Po C (RpD C) F1 H1 (rb.bind fun y => rc.bind fun z => dgetD (.dict k ks vs) y z) Q (Wx C W σ) := p1
      refine ⟨q, rfl, ⟨F1, k, ks, kas, xs, vs, po, f1, hq, d1⟩, F1, s.ext_ e1 f1, p1.bind.mono fun y H2 ⟨F2, dy, e2, f2, r2, _, p2⟩ => ⟨F2, (s.ext_ e1 f1).ext_ e2 f2, p2.bind.mono fun z H3 ⟨F3, dz, e3, f3, r3, _, p3⟩ => ?_⟩⟩
      obtain ⟨q', kas', xs', po', eq', hq', d3⟩ := ((r1.ext e2).ext e3).dict f3
      cases eq'
      have p3 : Po C (RpD C) F3 H3 (if dy.isKey k then .ok ((dGet ks vs dy).getD dz) else .bad) Q (Wx C W σ) := p3
      split at p3
      · rename_i hk
        exact ⟨F3, _, _, kas', xs', _, dy, dz, po', f3, hq', d3, Rep.le e3.le _ _ r2, r3, hk, fun v rv => p3.now f3 rv⟩
      · exact False.elim p3
    | _ => exact False.elim p1⟩
theorem snd_comp (w : Wld C T) (h : XOk C N sc top X) (hcm : XCalm C X) {tg : List Nat} {rng : Bool} {it ce e : E} {elt etg eit : Expr} {ifs : List Expr} {scope : Scope}
    (c1 : blkC N sc scope (ownOf N tg) = true) (c2 : (ownOf N tg).map (·.2) = tg) (c3 : chkTg N false (relS scope sc) tg etg = true) (oit : okx eit = true)
    (hit : PI X etg eit (tI C B Γ W (if rng then (evL C.toMng it Γ).bind fun ds => walkD true (.tup ds) else (evE C.toMng it Γ).bind fun d => walkD false d)))
    (hc : ifs = [] ∧ isNil ce = true ∨ ∃ i, ifs = [i] ∧ isNil ce = false ∧ ∀ Y : Cx, XOk C N (relS scope sc) false Y → XCalm C Y → ∀ B, Snd C Y B ce i)
    (he : ∀ Y : Cx, XOk C N (relS scope sc) false Y → XCalm C Y → ∀ B, Snd C Y B e elt) : PE X (.ListComp elt [⟨etg, eit, ifs, 0⟩] scope pos) (tN C B Γ W (evE C.toMng (.comp tg rng it ce e) Γ)) := by
  have ok : BlkOk X.N X.env.scope scope (ownOf N tg) := by rw [h.eN, h.eS]; exact blkOk_by c1
  have hte : ∀ (s : Shared) (H : Hp) (D : Addr) (cl : List (Str × Addr)) (fp : List Addr), PE (X.blk s H scope (compEnvC scope cl D X.env) fp) elt (tAny C fun Γ' => evE C.toMng e Γ') := fun s H D cl fp =>
    pe_any fun B Γ => (he _ (blk_ok h s H scope D cl fp) (blk_calm hcm s H scope D cl fp) B).pe W0 noWish Γ
  have htg : ∀ (s : Shared) (H : Hp) (D : Addr) (cl : List (Str × Addr)) (fp : List Addr), PG (X.blk s H scope (compEnvC scope cl D X.env) fp) etg (gX X.K tg) := fun s H D cl fp =>
    pg_tg (blk_ok h s H scope D cl fp) (blk_calm hcm s H scope D cl fp) c3
  have nd : X.N.Nodup := by rw [h.eN]; exact h.nd
  rcases hc with ⟨rfl, hn⟩ | ⟨i, rfl, hn, hi⟩
  · refine (pe_lc hcm.calm nd hit ok htg (fun _ _ _ _ _ => pts_nil) hte (folded_ok oit)).imp fun σ H Q q => ?_
    refine tLc_ok (fc := none) c2 rfl rfl rfl ?_
    have e1 : condF ce (fun Γ' => evE C.toMng ce Γ') = none := by cases ce <;> first | rfl | cases hn
    rw [evE, e1] at q
    exact q
  · have htt : ∀ (s : Shared) (H : Hp) (D : Addr) (cl : List (Str × Addr)) (fp : List Addr), PTs (X.blk s H scope (compEnvC scope cl D X.env) fp) [i] (tAnyT C fun Γ' => (evE C.toMng ce Γ').bind truD) := fun s H D cl fp =>
      pts_one (pt_any fun B Γ => (hi _ (blk_ok h s H scope D cl fp) (blk_calm hcm s H scope D cl fp) B).pt W0 noWish Γ)
    refine (pe_lc hcm.calm nd hit ok htg htt hte (folded_ok oit)).imp fun σ H Q q => ?_
    refine tLc_ok (fc := some fun Γ' => evE C.toMng ce Γ') c2 rfl rfl rfl ?_
    have e1 : condF ce (fun Γ' => evE C.toMng ce Γ') = some (fun Γ' => evE C.toMng ce Γ') := by cases ce <;> first | rfl | cases hn
    rw [evE, e1] at q
    exact q
end
theorem Wld.calm_cb {C : Cfg} {T : Tb} (w : Wld C T) {n k} (h : T.cb n = some k) : T.calm = true := by
  cases e : T.calm with
  | true => rfl
  | false => rw [(w.hot e).1 n] at h; cases h
theorem Wld.calm_cm {C : Cfg} {T : Tb} (w : Wld C T) {n k} (h : T.cm n = some k) : T.calm = true := by
  cases e : T.calm with
  | true => rfl
  | false => rw [(w.hot e).2.1 n] at h; cases h
theorem Wld.calm_ow {C : Cfg} {T : Tb} (w : Wld C T) {n k} (h : T.ow n = some k) : T.calm = true := by
  cases e : T.calm with
  | true => rfl
  | false => rw [(w.hot e).2.2 n] at h; cases h
section
variable {C : Cfg} {T : Tb} {N : List Str}
theorem pt_iteD {X : Cx} {B : Bs} {Γ : Gam} {W : WX} {a b c : Expr} {pos : Pos} {ra rb rc : R D} (hc : PT X c (tT C B Γ W (rc.bind truD))) (ha : PT X a (tT C B Γ W (ra.bind truD))) (hb : PT X b (tT C B Γ W (rb.bind truD))) :
    PT X (.IfExp c a b pos) (tT C B Γ W ((rc.bind fun x => iteD x ra rb).bind truD)) := by
  refine ⟨fun pins s σ H Q I ⟨F, sr, q⟩ => ?_⟩
  show wpAny _ _ (isTrue c X.env (eval c X.env) >>= fun r => if r = true then isTrue a X.env (eval a X.env) else isTrue b X.env (eval b X.env)) _ _ _
  refine wpAny_bind (thn (hc.run pins s σ H (fun k H1 => ∃ F1, SR C B F1 H1 σ Γ ∧ Po C RpT F1 H1 ((if k then ra else rb).bind truD) Q (Wx C W σ)) I ⟨F, sr, ?_⟩) fun d s1 ⟨H1, I1, F1, sr1, q1⟩ => ?_)
  · cases rc with
    | ok d =>
      cases d with
      | bl k =>
        intro k' F1 H1 e1 f1 ek
        cases ek
        refine ⟨F1, sr.ext_ e1 f1, Po.ext ?_ e1⟩
        cases k <;> exact q
      | _ => exact False.elim q
    | exc c => exact q
    | bad => exact q
  · cases d with
    | true => exact ha.run pins s1 σ H1 Q I1 ⟨F1, sr1, q1⟩
    | false => exact hb.run pins s1 σ H1 Q I1 ⟨F1, sr1, q1⟩
theorem pe_bad {X : Cx} {B : Bs} {Γ : Gam} {W : WX} {ex : Expr} : PE X ex (tD C B Γ W .bad) := ⟨fun _ _ _ _ _ _ ⟨_, _, p⟩ => False.elim p⟩
theorem pt_bad {X : Cx} {B : Bs} {Γ : Gam} {W : WX} {ex : Expr} : PT X ex (tT C B Γ W ((R.bad : R D).bind truD)) := ⟨fun _ _ _ _ _ _ ⟨_, _, p⟩ => False.elim p⟩
theorem pw_bad {X : Cx} {B : Bs} {Γ : Gam} {W : WX} {ex : Expr} : PW X ex (tT C B Γ W ((R.bad : R D).bind truD)) := ⟨fun _ _ _ _ _ _ _ ⟨_, _, p⟩ => False.elim p⟩
end
theorem repL_ints {C : Cfg} {F F3 : Wd} : ∀ {ys : List D} {xs : List V}, ys.all D.isInt = true → RepL C F xs ys → RepL C F3 xs ys
  | [], xs, _, r => r
  | .int i :: ys, xs, h, r => by
    rw [List.all_cons, Bool.and_eq_true] at h
    obtain ⟨v, r', e, rv, rr⟩ := r
    exact ⟨v, r', e, rv, repL_ints h.2 rr⟩
  | .non :: _, _, h, _ => by cases h
  | .bl _ :: _, _, h, _ => by cases h
  | .str _ :: _, _, h, _ => by cases h
  | .byt _ :: _, _, h, _ => by cases h
  | .tup _ :: _, _, h, _ => by cases h
  | .lst _ :: _, _, h, _ => by cases h
  | .obj _ _ :: _, _, h, _ => by cases h
  | .scr _ :: _, _, h, _ => by cases h
  | .dict _ _ _ :: _, _, h, _ => by cases h
  | .cache _ :: _, _, h, _ => by cases h
  | .cls _ :: _, _, h, _ => by cases h
theorem pe_lend {C : Cfg} {X : Cx} {B : Bs} {W : WX} {ex : Expr} {e : E} {i : Nat} {Γ : Gam} (he : ∀ Γ, PE X ex (tD C B Γ W (evE C.toMng e Γ))) : PE X ex (tD C B Γ W (evE C.toMng (.lend i e) Γ)) := by
  refine ⟨fun pins s σ H Q I ⟨F, sr, q⟩ => ?_⟩
  rw [evE] at q
  split at q
  · rename_i l hl
    obtain ⟨a, xs, e1, fa, ba, ha, rl⟩ := sr.sl i _ hl
    have s2 := sr.freezeAs (d := .lst l) (u := .lst xs) hl rfl (join_of e1) fa ba ⟨a, xs, rfl, updW_same, RepL.le (le_upd fa) _ _ rl⟩
    have hs : upd H a (.lst xs) = H := by
      funext b
      by_cases hb : b = a
      · rw [hb, upd_same, ha]
      · rw [upd_ne hb]
    rw [hs] at s2
    have drop : ∀ (F2 : Wd) (H2 : Hp), Ext (updW F a (.o (.lst xs))) H F2 H2 → Fits C F2 H2 → F2 a = some (.o (.lst xs)) ∧ Ext F H (fun b => if b = a then none else F2 b) H2 ∧ Fits C (fun b => if b = a then none else F2 b) H2 := fun F2 H2 e2 f2 => by
      have hF2 : F2 a = some (.o (.lst xs)) := e2.le _ _ updW_same
      let F3 : Wd := fun b => if b = a then none else F2 b
      have F3ne : ∀ b, b ≠ a → F3 b = F2 b := fun b hb => if_neg hb
      have F3a : F3 a = none := if_pos rfl
      refine ⟨hF2, show Ext F H F3 H2 from ⟨fun b x hb => ?_, fun b x hb => ?_, fun b u hb hnc => ?_⟩, show Fits C F3 H2 from fun b x hb => ?_⟩
      · by_cases z : b = a
        · subst z; rw [fa] at hb; cases hb
        · rw [F3ne b z]; exact e2.le b x (by rw [updW_ne z]; exact hb)
      · by_cases z : b = a
        · subst z; rw [F3a] at hb; cases hb
        · rw [F3ne b z] at hb
          rcases e2.new b x hb with h1 | h1
          · rw [updW_ne z] at h1; exact .inl h1
          · exact .inr h1
      · refine e2.keep b u hb fun m0 z => ?_
        by_cases zz : b = a
        · subst zz; rw [updW_same] at z; cases z
        · rw [updW_ne zz] at z; exact hnc m0 z
      · by_cases z : b = a
        · subst z; rw [F3a] at hb; cases hb
        · rw [F3ne b z] at hb
          have q0 := f2 b x hb
          cases x with
          | o u => exact q0
          | c m0 => exact ⟨C.cok_drop (a := a) (fun b2 x2 h2 hne => by show F3 b2 = _; rw [F3ne b2 hne]; exact h2) (fun u hu => by rw [hF2] at hu; cases hu; exact .inr ⟨_, rfl⟩) q0.1, q0.2⟩
    refine (he (Γ.set i (.val (.lst l)))).run pins s σ H Q I ⟨_, s2, ?_⟩
    cases er : evE C.toMng e (Γ.set i (.val (.lst l))) with
    | bad => rw [er] at q; exact q
    | exc c =>
      rw [er] at q
      exact fun F2 H2 e2 f2 => q _ H2 (drop F2 H2 e2 f2).2.1 (drop F2 H2 e2 f2).2.2
    | ok d =>
      rw [er] at q
      change Po C (RpD C) F H (lendR l d) Q (Wx C W σ) at q
      unfold lendR at q
      split at q
      · rename_i t l' ys
        split at q
        · rename_i hy
          intro v F2 H2 e2 f2 rv
          obtain ⟨hF2, e3, f3⟩ := drop F2 H2 e2 f2
          refine q v _ H2 e3 f3 ?_
          obtain ⟨b, zs, ev, hb, rz⟩ := rv
          refine ⟨b, zs, ev, ?_, repL_ints hy rz⟩
          show (if b = a then none else F2 b) = _
          rw [if_neg ?_, hb]
          intro z
          subst z
          rw [hF2] at hb
          cases hb
          obtain ⟨v1, r1, e4, rv1, _⟩ := rl
          cases ys with
          | nil =>
            have rz : xs = [] := rz
            rw [rz] at e4; cases e4
          | cons y ys =>
            obtain ⟨v2, r2, e5, rv2, _⟩ := rz
            rw [e4] at e5
            cases e5
            rw [List.all_cons, Bool.and_eq_true] at hy
            cases y with
            | int j =>
              have rv2 : v1 = V.int j := rv2
              have rv1 : v1 = V.str (Sx t) := rv1
              rw [rv1] at rv2; cases rv2
            | _ => cases hy.1
        · exact False.elim q
      · exact False.elim q
  · exact False.elim q
section
variable {C : Cfg} {T : Tb} {N : List Str}
mutual
theorem sndE (w : Wld C T) : ∀ (e : E) {sc : Scope} {top : Bool} {X : Cx} {B : Bs} {ex : Expr}, XOk C N sc top X → (T.calm = true → XCalm C X) → BOk C T X B → chkE T N e sc ex = true → Snd C X B e ex
  | .var i, sc, top, X, B, ex, h, hcm, hB, c => by
    unfold chkE at c
    split at c
    · rename_i x pos
      simp only [Bool.and_eq_true, decide_eq_true_eq] at c
      have pe : ∀ (W : WX), Takes X W → ∀ (Γ : Gam), PE X (.Name x pos) (tD C B Γ W (evE C.toMng (.var i) Γ)) := fun W tk Γ => nd_var h c.1.1 c.1.2 c.2
      exact ⟨pe, fun W tk Γ => nd_truth h (pe W tk Γ) (plainT_ok rfl), fun op vs pos z => (by cases z), (fun z => by cases z), fun W tk Γ => nd_varB h c.1.1 c.1.2 c.2 _⟩
    · cases c
  | .int i, sc, top, X, B, ex, h, hcm, hB, c => by
    unfold chkE at c
    split at c
    · rw [decide_eq_true_eq] at c
      subst c
      exact snd_mk h rfl (fun _ z => by cases z) rfl fun W tk Γ => nd_const pe_int fun F => rfl
    · cases c
  | .str s, sc, top, X, B, ex, h, hcm, hB, c => by
    unfold chkE at c
    split at c
    · unfold isStr at c
      split at c
      · rw [decide_eq_true_eq] at c
        subst c
        exact snd_mk h rfl (fun _ z => by cases z) rfl fun W tk Γ => nd_const pe_str fun F => rfl
      · cases c
    · cases c
  | .bl b, sc, top, X, B, ex, h, hcm, hB, c => by
    unfold chkE at c
    split at c
    · have c := eq_of_beq c
      subst c
      exact snd_mk h rfl (fun _ z => by cases z) rfl fun W tk Γ => nd_const pe_bl fun F => rfl
    · cases c
  | .non, sc, top, X, B, ex, h, hcm, hB, c => by
    unfold chkE at c
    split at c
    · exact snd_mk h rfl (fun _ z => by cases z) rfl fun W tk Γ => nd_const pe_non fun F => rfl
    · cases c
  | .glob n, sc, top, X, B, ex, h, hcm, hB, c => by
    unfold chkE at c
    split at c
    · simp only [Bool.and_eq_true, decide_eq_true_eq] at c
      obtain ⟨u, v, hm, hr, hd⟩ := w.gl n _ c.1
      exact snd_mk h rfl (fun _ z => by cases z) rfl fun W tk Γ => nd_const (pe_glob (h.gl c.2) (by rw [h.eM]; exact hm) hr (nm_d (glB_nm c.2))) hd
    · cases c
  | .bin op a b, sc, top, X, B, ex, h, hcm, hB, c => by
    unfold chkE at c
    split at c
    · simp only [Bool.and_eq_true] at c
      obtain ⟨r, ho, hw⟩ := bin_all (C := C) (X := X) op _ c.1.1
      have sa := sndE w a h hcm hB c.1.2
      have sb := sndE w b h hcm hB c.2
      exact snd_new h rfl (fun _ z => by cases z) fun W tk Γ => nd_bin ho (sa.pb W tk Γ) (sb.pb W tk Γ) hw
    · cases c
  | .neg a, sc, top, X, B, ex, h, hcm, hB, c => by
    unfold chkE at c
    split at c
    · have sa := sndE w a h hcm hB c
      refine snd_mk h rfl (fun _ z => by cases z) rfl fun W tk Γ => nd_un un_neg (sa.pe W tk Γ) fun F H x dx Q Ex f r q => ?_
      cases dx with
      | int i => exact ⟨i, r, q.now f rfl⟩
      | _ => exact False.elim q
    · cases c
  | .cmp op a b, sc, top, X, B, ex, h, hcm, hB, c => by
    unfold chkE at c
    split at c
    · rename_i ea o eb pos
      simp only [Bool.and_eq_true] at c
      obtain ⟨r, ho, hw⟩ := cmp_all (C := C) h op _ c.1.1.1
      have sa := sndE w a h hcm hB c.1.1.2
      have sb := sndE w b h hcm hB c.1.2
      have pe : ∀ (W : WX), Takes X W → ∀ (Γ : Gam), PE X (.Compare ea [o] [eb] pos) (tD C B Γ W (evE C.toMng (.cmp op a b) Γ)) := fun W tk Γ => (nd_cmp ho (sa.pb W tk Γ) (sb.pb W tk Γ) c.2 hw).1
      refine ⟨pe, fun W tk Γ => ?_, fun op vs pos z => (by cases z), (fun z => by cases z), fun W tk Γ => nd_B (pe W tk Γ)⟩
      have e : (evE C.toMng (.cmp op a b) Γ).bind truD = (borrow Γ a (evE C.toMng a Γ)).bind fun x => (borrow Γ b (evE C.toMng b Γ)).bind fun y => cmpD op x y := by
        rw [evE]
        cases borrow Γ a (evE C.toMng a Γ) with
        | ok dx =>
          cases borrow Γ b (evE C.toMng b Γ) with
          | ok dy =>
            show ((cmpD op dx dy).bind _).bind truD = cmpD op dx dy
            cases cmpD op dx dy <;> rfl
          | _ => rfl
        | _ => rfl
      rw [e]
      exact (nd_cmp ho (sa.pb W tk Γ) (sb.pb W tk Γ) c.2 hw).2
    · cases c
  | .isN a, sc, top, X, B, ex, h, hcm, hB, c => by
    unfold chkE at c
    split at c
    · rename_i ea k pos' pos
      have sa := sndE w a h hcm hB c
      have pe : ∀ (W : WX), Takes X W → ∀ (Γ : Gam), PE X (.Compare ea [.Is] [.Constant .none k pos'] pos) (tD C B Γ W (evE C.toMng (.isN a) Γ)) := fun W tk Γ => nd_isN (sa.pe W tk Γ)
      refine ⟨pe, fun W tk Γ => ?_, fun op vs pos z => (by cases z), (fun z => by cases z), fun W tk Γ => nd_B (pe W tk Γ)⟩
      refine (pt_cmp (pc_isN (sa.pe W tk Γ)) rfl).imp fun σ H Q ⟨F, s, q⟩ => ⟨F, s, ?_⟩
      have q : Po C RpT F H ((((evE C.toMng a Γ).bind fun x => .ok (.bl x.isN))).bind truD) Q (Wx C W σ) := q
      rw [bind_bind] at q
      exact q.bind.mono fun v H1 ⟨F1, d, e1, f1, r1, _, p1⟩ => ⟨_, by rw [isN_eq r1], p1.now f1 rfl⟩
    · cases c
  | .notN a, sc, top, X, B, ex, h, hcm, hB, c => by
    unfold chkE at c
    split at c
    · rename_i ea k pos' pos
      have sa := sndE w a h hcm hB c
      have pe : ∀ (W : WX), Takes X W → ∀ (Γ : Gam), PE X (.Compare ea [.IsNot] [.Constant .none k pos'] pos) (tD C B Γ W (evE C.toMng (.notN a) Γ)) := fun W tk Γ => nd_notN (sa.pe W tk Γ)
      refine ⟨pe, fun W tk Γ => ?_, fun op vs pos z => (by cases z), (fun z => by cases z), fun W tk Γ => nd_B (pe W tk Γ)⟩
      refine (pt_cmp (pc_notN (sa.pe W tk Γ)) rfl).imp fun σ H Q ⟨F, s, q⟩ => ⟨F, s, ?_⟩
      have q : Po C RpT F H ((((evE C.toMng a Γ).bind fun x => .ok (.bl (!x.isN)))).bind truD) Q (Wx C W σ) := q
      rw [bind_bind] at q
      exact q.bind.mono fun v H1 ⟨F1, d, e1, f1, r1, _, p1⟩ => ⟨_, by rw [isN_eq r1], p1.now f1 rfl⟩
    · cases c
  | .chain p q a b d, sc, top, X, B, ex, h, hcm, hB, c => by
    unfold chkE at c
    split at c
    · rename_i ea o1' o2' eb ec pos
      simp only [Bool.and_eq_true] at c
      obtain ⟨⟨⟨⟨⟨⟨c1, c2⟩, c3⟩, c4⟩, c5⟩, o1⟩, o2⟩ := c
      have sa := sndE w a h hcm hB c3
      have sb := sndE w b h hcm hB c4
      have sd := sndE w d h hcm hB c5
      have e0 : ∀ Γ, evE C.toMng (.chain p q a b d) Γ = ((evE C.toMng a Γ).bind fun x => (evE C.toMng b Γ).bind fun y => (cmpD p x y).bind fun r => (chainD q y r (evE C.toMng d Γ)).bind fun r => .ok (.bl r)) := fun Γ => by
        rw [evE]
        cases evE C.toMng a Γ <;> try rfl
        cases evE C.toMng b Γ <;> try rfl
        rename_i dx dy
        show ((cmpD p dx dy).bind _) = ((cmpD p dx dy).bind _)
        cases cmpD p dx dy with
        | ok r => cases r with
          | true => show (evE C.toMng d Γ).bind _ = ((evE C.toMng d Γ).bind _).bind _; rw [bind_bind]
          | false => rfl
        | _ => rfl
      have pe : ∀ (W : WX), Takes X W → ∀ (Γ : Gam), PE X (.Compare ea [o1', o2'] [eb, ec] pos) (tD C B Γ W (evE C.toMng (.chain p q a b d) Γ)) := fun W tk Γ => by
        rw [e0]
        exact (nd_chain h c1 c2 (sa.pe W tk Γ) (sb.pe W tk Γ) (sd.pe W tk Γ) o1 o2).1
      refine ⟨pe, fun W tk Γ => ?_, fun op vs pos z => (by cases z), (fun z => by cases z), fun W tk Γ => nd_B (pe W tk Γ)⟩
      have e : (evE C.toMng (.chain p q a b d) Γ).bind truD = (evE C.toMng a Γ).bind fun x => (evE C.toMng b Γ).bind fun y => (cmpD p x y).bind fun r => chainD q y r (evE C.toMng d Γ) := by
        rw [e0]
        cases evE C.toMng a Γ <;> try rfl
        cases evE C.toMng b Γ <;> try rfl
        rename_i dx dy
        show ((cmpD p dx dy).bind _).bind truD = ((cmpD p dx dy).bind _)
        rw [bind_bind]
        congr 1
        funext r
        rw [bind_bind]
        cases chainD q dy r (evE C.toMng d Γ) <;> rfl
      rw [e]
      exact (nd_chain h c1 c2 (sa.pe W tk Γ) (sb.pe W tk Γ) (sd.pe W tk Γ) o1 o2).2
    · cases c
  | .and a b, sc, top, X, B, ex, h, hcm, hB, c => by
    unfold chkE at c
    split at c
    · rename_i ea eb r pos
      simp only [Bool.and_eq_true] at c
      have sa := sndE w a h hcm hB c.1
      have sb := sndE w b h hcm hB c.2
      have pe : ∀ (W : WX), Takes X W → ∀ (Γ : Gam), PE X (.BoolOp .And (ea :: eb :: r) pos) (tD C B Γ W (evE C.toMng (.and a b) Γ)) := fun W tk Γ => nd_and (sa.pe W tk Γ) (sb.pe W tk Γ)
      have pw : ∀ (W : WX), Takes X W → ∀ (Γ : Gam), PW X (.BoolOp .And (ea :: eb :: r) pos) (tT C B Γ W ((evE C.toMng (.and a b) Γ).bind truD)) := fun W tk Γ => pw_andD (sa.pt W tk Γ) (sb.pw _ _ _ rfl W tk Γ)
      exact ⟨pe, fun W tk Γ => (pw W tk Γ).pt, fun op vs pos z => (by cases z; exact pw), (fun z => by cases z), fun W tk Γ => nd_B (pe W tk Γ)⟩
    · cases c
  | .or a b, sc, top, X, B, ex, h, hcm, hB, c => by
    unfold chkE at c
    split at c
    · rename_i ea eb r pos
      simp only [Bool.and_eq_true] at c
      have sa := sndE w a h hcm hB c.1
      have sb := sndE w b h hcm hB c.2
      have pe : ∀ (W : WX), Takes X W → ∀ (Γ : Gam), PE X (.BoolOp .Or (ea :: eb :: r) pos) (tD C B Γ W (evE C.toMng (.or a b) Γ)) := fun W tk Γ => nd_or h (sa.pe W tk Γ) (sb.pe W tk Γ)
      have pw : ∀ (W : WX), Takes X W → ∀ (Γ : Gam), PW X (.BoolOp .Or (ea :: eb :: r) pos) (tT C B Γ W ((evE C.toMng (.or a b) Γ).bind truD)) := fun W tk Γ => pw_orD (sa.pt W tk Γ) (sb.pw _ _ _ rfl W tk Γ)
      exact ⟨pe, fun W tk Γ => (pw W tk Γ).pt, fun op vs pos z => (by cases z; exact pw), (fun z => by cases z), fun W tk Γ => nd_B (pe W tk Γ)⟩
    · cases c
  | .last a, sc, top, X, B, ex, h, hcm, hB, c => by
    unfold chkE at c
    split at c
    · rename_i op ea pos
      have sa := sndE w a h hcm hB c
      have pe : ∀ (W : WX), Takes X W → ∀ (Γ : Gam), PE X (.BoolOp op [ea] pos) (tD C B Γ W (evE C.toMng (.last a) Γ)) := fun W tk Γ => pe_one (sa.pe W tk Γ)
      have pw : ∀ (W : WX), Takes X W → ∀ (Γ : Gam), PW X (.BoolOp op [ea] pos) (tT C B Γ W ((evE C.toMng (.last a) Γ).bind truD)) := fun W tk Γ => by
        cases op with
        | And => exact pw_and1 (sa.pt W tk Γ)
        | Or => exact pw_or1 (sa.pt W tk Γ)
      exact ⟨pe, fun W tk Γ => (pw W tk Γ).pt, fun op vs pos z => (by cases z; exact pw), (fun z => by cases z), fun W tk Γ => nd_B (pe W tk Γ)⟩
    · cases c
  | .not a, sc, top, X, B, ex, h, hcm, hB, c => by
    unfold chkE at c
    split at c
    · rename_i ea pos
      have sa := sndE w a h hcm hB c
      have pe : ∀ (W : WX), Takes X W → ∀ (Γ : Gam), PE X (.UnaryOp .Not ea pos) (tD C B Γ W (evE C.toMng (.not a) Γ)) := fun W tk Γ => nd_not (sa.pe W tk Γ)
      exact ⟨pe, fun W tk Γ => pt_notD (sa.pt W tk Γ), fun op vs pos z => (by cases z), (fun z => by cases z), fun W tk Γ => nd_B (pe W tk Γ)⟩
    · cases c
  | .ite c0 a b, sc, top, X, B, ex, h, hcm, hB, c => by
    unfold chkE at c
    split at c
    · rename_i ec ea eb pos
      simp only [Bool.and_eq_true] at c
      have sc0 := sndE w c0 h hcm hB c.1.1
      have sa := sndE w a h hcm hB c.1.2
      have sb := sndE w b h hcm hB c.2
      have pe : ∀ (W : WX), Takes X W → ∀ (Γ : Gam), PE X (.IfExp ec ea eb pos) (tD C B Γ W (evE C.toMng (.ite c0 a b) Γ)) := fun W tk Γ => nd_ite (sc0.pt W tk Γ) (sa.pe W tk Γ) (sb.pe W tk Γ)
      exact ⟨pe, fun W tk Γ => pt_iteD (sc0.pt W tk Γ) (sa.pt W tk Γ) (sb.pt W tk Γ), fun op vs pos z => (by cases z), (fun z => by cases z), fun W tk Γ => nd_B (pe W tk Γ)⟩
    · cases c
  | .isx i ts, sc, top, X, B, ex, h, hcm, hB, c => by
    unfold chkE at c
    split at c
    · simp only [Bool.and_eq_true, decide_eq_true_eq, Bool.not_eq_true'] at c
      obtain ⟨⟨⟨⟨⟨⟨cc, cf⟩, cg⟩, cN⟩, cv⟩, cn⟩, ct⟩ := c
      subst cf
      exact snd_mk h rfl (fun _ z => by cases z) rfl fun W tk Γ => nd_isx w h (hB cc) cN cv cn cg ct
    · cases c
  | .fldx _ _, sc, top, X, B, ex, h, hcm, hB, c => by unfold chkE at c; cases c
  | .dget2 a k x, sc, top, X, B, ex, h, hcm, hB, c => by
    unfold chkE at c
    split at c
    · simp only [Bool.and_eq_true, decide_eq_true_eq] at c
      obtain ⟨⟨⟨⟨⟨⟨⟨cm, cn⟩, ca⟩, ck⟩, cx⟩, ok⟩, ox⟩, cl⟩ := c
      subst cm
      exact snd_mk h rfl (fun _ z => by cases z) rfl fun W tk Γ => nd_get2 h cn ((sndE w a h hcm hB ca).pb W tk Γ) ((sndE w k h hcm hB ck).pe W tk Γ) ((sndE w x h hcm hB cx).pe W tk Γ) ok ox cl
    · cases c
  | .tup l, sc, top, X, B, ex, h, hcm, hB, c => by
    unfold chkE at c
    split at c
    · have sl := sndL w l h hcm hB c
      exact snd_mk h rfl (fun _ z => by cases z) rfl fun W tk Γ => nd_tup (sl W tk Γ)
    · cases c
  | .lst l, sc, top, X, B, ex, h, hcm, hB, c => by
    unfold chkE at c
    split at c
    · have sl := sndL w l h hcm hB c
      exact snd_new h rfl (fun _ z => by cases z) fun W tk Γ => nd_lst (sl W tk Γ)
    · cases c
  | .nil, sc, top, X, B, ex, h, hcm, hB, c => by unfold chkE at c; cases c
  | .cons _ _, sc, top, X, B, ex, h, hcm, hB, c => by unfold chkE at c; cases c
  | .item a i, sc, top, X, B, ex, h, hcm, hB, c => by
    unfold chkE at c
    split at c
    · simp only [Bool.and_eq_true] at c
      have sa := sndE w a h hcm hB c.1.1
      have si := sndE w i h hcm hB c.1.2
      exact snd_mk h rfl (fun _ z => by cases z) rfl fun W tk Γ => nd_item h (sa.pb W tk Γ) (si.pe W tk Γ) c.2
    · cases c
  | .slice a lo hi, sc, top, X, B, ex, h, hcm, hB, c => by
    unfold chkE at c
    split at c
    · simp only [Bool.and_eq_true] at c
      have sa := sndE w a h hcm hB c.1.1
      exact snd_new h rfl (fun _ z => by cases z) fun W tk Γ => nd_slice (sa.pb W tk Γ) (snd_part c.1.2 (fun e he => sndE w lo h hcm hB he) W tk Γ) (snd_part c.2 (fun e he => sndE w hi h hcm hB he) W tk Γ)
    · cases c
  | .f1 f a, sc, top, X, B, ex, h, hcm, hB, c => by
    unfold chkE at c
    split at c
    · simp only [Bool.and_eq_true, decide_eq_true_eq] at c
      have sa := sndE w a h hcm hB c.1.1.2
      exact snd_new h rfl (fun _ z => by cases z) fun W tk Γ => f1_all w h hcm c.1.1.1.1 c.2 c.1.1.1.2 c.1.2 (sa.pb W tk Γ)
    · cases c
  | .f2 _ _ _, sc, top, X, B, ex, h, hcm, hB, c => by unfold chkE at c; cases c
  | .isi ts a, sc, top, X, B, ex, h, hcm, hB, c => by
    unfold chkE at c
    split at c
    · simp only [Bool.and_eq_true, decide_eq_true_eq] at c
      obtain ⟨⟨⟨⟨cx, cg⟩, ca⟩, oa⟩, ct⟩ := c
      subst cx
      have sa := sndE w a h hcm hB ca
      split at ct
      · exact snd_mk h rfl (fun _ z => by cases z) rfl fun W tk Γ => nd_isi1 w h (ty_tok w ct) cg (sa.pe W tk Γ) oa (ty_pe w h ct) (ty_okx ct)
      · split at ct
        · simp only [Bool.and_eq_true] at ct
          exact snd_mk h rfl (fun _ z => by cases z) rfl fun W tk Γ => nd_isi2 w h (ty_tok w ct.1) (ty_tok w ct.2) cg (sa.pe W tk Γ) oa (ty_pe w h ct.1) (ty_okx ct.1) (ty_pe w h ct.2) (ty_okx ct.2)
        · cases ct
      · cases ct
    · cases c
  | .fld nm a, sc, top, X, B, ex, h, hcm, hB, c => by
    unfold chkE at c
    split at c
    · simp only [Bool.and_eq_true, decide_eq_true_eq] at c
      have sa := sndE w a h hcm hB c.2
      exact snd_mk h rfl (fun _ z => by cases z) rfl fun W tk Γ => nd_fld w h c.1.1 (sa.pb W tk Γ) c.1.2
    · cases c
  | .call n l, sc, top, X, B, ex, h, hcm, hB, c => by
    unfold chkE at c
    split at c
    · rename_i k hk
      split at c
      · rename_i es hes
        simp only [Bool.and_eq_true] at c
        have sl := sndL w l h hcm hB c.2
        have key : ∀ (W : WX), Takes X W → ∀ (Γ : Gam), PE X ex (tD C B Γ W (evE C.toMng (.call n l) Γ)) ∧ PT X ex (tT C B Γ W ((evE C.toMng (.call n l) Γ).bind truD)) := fun W tk Γ => w.cb n k hk N sc top X h (hcm (w.calm_cb hk)) W tk B Γ ex es _ hes (sl W tk Γ)
        refine ⟨fun W tk Γ => (key W tk Γ).1, fun W tk Γ => (key W tk Γ).2, fun op vs pos z => ?_, (fun z => by cases z), fun W tk Γ => by rw [borrow_ne (fun _ z => by cases z)]; exact nd_B (key W tk Γ).1⟩
        subst z
        have := c.1.2
        cases this
      · cases c
    · cases c
  | .calm n l, sc, top, X, B, ex, h, hcm, hB, c => by
    unfold chkE at c
    split at c
    · rename_i k hk
      split at c
      · rename_i es hes
        simp only [Bool.and_eq_true] at c
        have sl := sndL w l h hcm hB c.2
        have key : ∀ (W : WX), Takes X W → ∀ (Γ : Gam), PE X ex (tD C B Γ W (evE C.toMng (.calm n l) Γ)) ∧ PT X ex (tT C B Γ W ((evE C.toMng (.calm n l) Γ).bind truD)) := fun W tk Γ => w.cm n k hk N sc top X h (hcm (w.calm_cm hk)) W tk B Γ ex es _ hes (sl W tk Γ)
        refine ⟨fun W tk Γ => (key W tk Γ).1, fun W tk Γ => (key W tk Γ).2, fun op vs pos z => ?_, (fun z => by cases z), fun W tk Γ => by rw [borrow_ne (fun _ z => by cases z)]; exact nd_B (key W tk Γ).1⟩
        subst z
        have := c.1.2
        cases this
      · cases c
    · cases c
  | .comp tg rng it ce e, sc, top, X, B, ex, h, hcm, hB, c => by
    unfold chkE at c
    split at c
    · rename_i elt etg eit ifs scope pos
      simp only [Bool.and_eq_true, decide_eq_true_eq] at c
      obtain ⟨⟨⟨⟨⟨⟨⟨c0, c1⟩, c2⟩, c3⟩, c4⟩, c5⟩, c6⟩, c7⟩ := c
      refine snd_new h rfl (fun _ z => by cases z) fun W tk Γ => snd_comp w h (hcm c0) c1 c2 c3 c4 ?_ ?_ ?_
      · cases rng with
        | true =>
          rw [if_pos rfl] at c5 ⊢
          split at c5
          · simp only [Bool.and_eq_true, decide_eq_true_eq] at c5
            obtain ⟨⟨hx, hg⟩, hl⟩ := c5
            subst hx
            exact nd_range1 w h hg (sndL w it h hcm hB hl W tk Γ)
          · simp only [Bool.and_eq_true, decide_eq_true_eq] at c5
            obtain ⟨⟨hx, hg⟩, hl⟩ := c5
            subst hx
            exact nd_range2 w h hg (sndL w it h hcm hB hl W tk Γ)
          · simp only [Bool.and_eq_true, decide_eq_true_eq] at c5
            obtain ⟨⟨hx, hg⟩, hl⟩ := c5
            subst hx
            exact nd_range3 w h hg (sndL w it h hcm hB hl W tk Γ)
          · cases c5
        | false =>
          rw [if_neg Bool.false_ne_true] at c5 ⊢
          exact nd_iter h ((sndE w it h hcm hB c5).pe W tk Γ)
      · unfold condB at c6
        split at c6
        · exact .inl ⟨rfl, c6⟩
        · rename_i i
          rw [Bool.and_eq_true, Bool.not_eq_true'] at c6
          exact .inr ⟨i, rfl, c6.1, fun Y hY hYc B2 => sndE w ce hY (fun _ => hYc) (fun z => by rw [c0] at z; cases z) c6.2⟩
        · cases c6
      · exact fun Y hY hYc B2 => sndE w e hY (fun _ => hYc) (fun z => by rw [c0] at z; cases z) c7
    · cases c
  | .compg n tg l e, sc, top, X, B, ex, h, hcm, hB, c => by
    unfold chkE at c
    split at c
    · rename_i elt etg eit scope pos
      split at c
      · rename_i k hk
        split at c
        · rename_i es hes
          simp only [Bool.and_eq_true, decide_eq_true_eq] at c
          obtain ⟨⟨⟨⟨⟨⟨⟨c0, c1⟩, c2⟩, cn⟩, c3⟩, c4⟩, c5⟩, c7⟩ := c
          have hX := hcm c0
          refine snd_new h rfl (fun _ z => by cases z) fun W tk Γ => ?_
          rw [evE]
          refine (w.ga n k hk).co N sc top X h hX W tk B Γ eit es _ hes (sndL w l h hcm hB c5 W tk Γ) c4 tg etg elt scope pos (ownOf N tg) (fun Γ' => evE C.toMng e Γ') (by rw [h.eN, h.eS]; exact blkOk_by c1) c2 (fun y hy => by
            have := List.all_eq_true.mp cn y hy
            simpa using this) (by rw [h.eN]; exact h.nd) (fun s H D cl fp => pg_tg (blk_ok h s H scope D cl fp) (blk_calm hX s H scope D cl fp) c3) (fun s H D cl fp => pe_any fun B Γ => (sndE w e (blk_ok h s H scope D cl fp) (fun _ => blk_calm hX s H scope D cl fp) (fun z => by rw [c0] at z; cases z) c7).pe W0 noWish Γ)
        · cases c
      · cases c
    · cases c
  | .lend i e, sc, top, X, B, ex, h, hcm, hB, c => by
    unfold chkE at c
    split at c
    · have se := sndE w e h hcm hB c
      exact snd_mk h rfl (fun _ z => by cases z) rfl fun W tk Γ => pe_lend fun Γ => se.pe W tk Γ
    · cases c
  | .fmt a, sc, top, X, B, ex, h, hcm, hB, c => by
    unfold chkE at c
    split at c
    · simp only [Bool.and_eq_true, decide_eq_true_eq] at c
      have sa := sndE w a h hcm hB c.2
      rw [c.1]
      exact snd_mk h rfl (fun _ z => by cases z) rfl fun W tk Γ => nd_fmt (sa.pe W tk Γ)
    · cases c
  | .any, sc, top, X, B, ex, h, hcm, hB, c => by
    refine ⟨fun W tk Γ => ?_, fun W tk Γ => ?_, fun op vs pos _ W tk Γ => ?_, (fun z => by cases z), fun W tk Γ => ?_⟩
    · rw [evE]; exact pe_bad
    · rw [evE]; exact pt_bad
    · rw [evE]; exact pw_bad
    · rw [borrow_ne (fun _ z => by cases z), evE]; exact nd_B pe_bad
  | .own n i l, sc, top, X, B, ex, h, hcm, hB, c => by
    unfold chkE at c
    split at c
    · rename_i k hk
      split at c
      · rename_i es hes
        simp only [Bool.and_eq_true] at c
        have sl := sndL w l h hcm hB c.2
        have key : ∀ (W : WX), Takes X W → ∀ (Γ : Gam), PE X ex (tD C B Γ W (evE C.toMng (.own n i l) Γ)) ∧ PT X ex (tT C B Γ W ((evE C.toMng (.own n i l) Γ).bind truD)) := fun W tk Γ => by
          rw [evE]
          split
          · rename_i c0 fs hi
            split
            · rename_i hlen
              exact w.ow n k hk N sc top X h (hcm (w.calm_ow hk)) W tk B Γ i c0 fs hi hlen ex es _ hes (sl W tk Γ)
            · exact ⟨⟨fun _ _ _ _ _ _ ⟨F, s, p⟩ => False.elim p⟩, ⟨fun _ _ _ _ _ _ ⟨F, s, p⟩ => False.elim p⟩⟩
          · exact ⟨⟨fun _ _ _ _ _ _ ⟨F, s, p⟩ => False.elim p⟩, ⟨fun _ _ _ _ _ _ ⟨F, s, p⟩ => False.elim p⟩⟩
        refine ⟨fun W tk Γ => (key W tk Γ).1, fun W tk Γ => (key W tk Γ).2, fun op vs pos z => ?_, (fun z => by cases z), fun W tk Γ => nd_B (key W tk Γ).1⟩
        subst z
        have := c.1.2
        cases this
      · cases c
    · cases c
  | .calv n cs i l, sc, top, X, B, ex, h, hcm, hB, c => by
    unfold chkE at c
    split at c
    · rename_i cs' k hk
      split at c
      · rename_i es hes
        simp only [Bool.and_eq_true, decide_eq_true_eq] at c
        obtain ⟨⟨cc, rfl⟩, c⟩ := c
        have sl := sndL w l h hcm hB c.2
        have key : ∀ (W : WX), Takes X W → ∀ (Γ : Gam), PE X ex (tD C B Γ W (evE C.toMng (.calv n cs i l) Γ)) ∧ PT X ex (tT C B Γ W ((evE C.toMng (.calv n cs i l) Γ).bind truD)) := fun W tk Γ => by
          rw [evE]
          split
          · rename_i c0 fs hi
            split
            · rename_i hlen
              rw [List.contains_eq_mem, decide_eq_true_eq] at hlen
              exact w.cv n cs k hk N sc top X h (hcm cc) W tk B Γ i c0 fs hi hlen ex es _ hes (sl W tk Γ)
            · exact ⟨⟨fun _ _ _ _ _ _ ⟨F, s, p⟩ => False.elim p⟩, ⟨fun _ _ _ _ _ _ ⟨F, s, p⟩ => False.elim p⟩⟩
          · exact ⟨⟨fun _ _ _ _ _ _ ⟨F, s, p⟩ => False.elim p⟩, ⟨fun _ _ _ _ _ _ ⟨F, s, p⟩ => False.elim p⟩⟩
        refine ⟨fun W tk Γ => (key W tk Γ).1, fun W tk Γ => (key W tk Γ).2, fun op vs pos z => ?_, (fun z => by cases z), fun W tk Γ => nd_B (key W tk Γ).1⟩
        subst z
        have := c.1.2
        cases this
      · cases c
    · cases c
theorem sndL (w : Wld C T) : ∀ (l : E) {sc : Scope} {top : Bool} {X : Cx} {B : Bs} {es : List Expr}, XOk C N sc top X → (T.calm = true → XCalm C X) → BOk C T X B → chkL T N l sc es = true → ∀ (W : WX), Takes X W → ∀ (Γ : Gam), PL C X B Γ W es (evL C.toMng l Γ)
  | .nil, sc, top, X, B, es, h, hcm, hB, c, W, tk, Γ => by
    unfold chkL at c
    split at c
    · exact PL.nil
    · cases c
  | .cons a l, sc, top, X, B, es, h, hcm, hB, c, W, tk, Γ => by
    unfold chkL at c
    split at c
    · simp only [Bool.and_eq_true] at c
      exact PL.cons c.1.1 ((sndE w a h hcm hB c.1.2).pe W tk Γ) (sndL w l h hcm hB c.2 W tk Γ)
    · cases c
  | .var _, sc, top, X, B, es, h, hcm, hB, c, W, tk, Γ => by unfold chkL at c; cases c
  | .int _, sc, top, X, B, es, h, hcm, hB, c, W, tk, Γ => by unfold chkL at c; cases c
  | .str _, sc, top, X, B, es, h, hcm, hB, c, W, tk, Γ => by unfold chkL at c; cases c
  | .bl _, sc, top, X, B, es, h, hcm, hB, c, W, tk, Γ => by unfold chkL at c; cases c
  | .non, sc, top, X, B, es, h, hcm, hB, c, W, tk, Γ => by unfold chkL at c; cases c
  | .calm _ _, sc, top, X, B, es, h, hcm, hB, c, W, tk, Γ => by unfold chkL at c; cases c
  | .fmt _, sc, top, X, B, es, h, hcm, hB, c, W, tk, Γ => by unfold chkL at c; cases c
  | .any, sc, top, X, B, es, h, hcm, hB, c, W, tk, Γ => by unfold chkL at c; cases c
  | .glob _, sc, top, X, B, es, h, hcm, hB, c, W, tk, Γ => by unfold chkL at c; cases c
  | .bin _ _ _, sc, top, X, B, es, h, hcm, hB, c, W, tk, Γ => by unfold chkL at c; cases c
  | .neg _, sc, top, X, B, es, h, hcm, hB, c, W, tk, Γ => by unfold chkL at c; cases c
  | .cmp _ _ _, sc, top, X, B, es, h, hcm, hB, c, W, tk, Γ => by unfold chkL at c; cases c
  | .isN _, sc, top, X, B, es, h, hcm, hB, c, W, tk, Γ => by unfold chkL at c; cases c
  | .notN _, sc, top, X, B, es, h, hcm, hB, c, W, tk, Γ => by unfold chkL at c; cases c
  | .chain _ _ _ _ _, sc, top, X, B, es, h, hcm, hB, c, W, tk, Γ => by unfold chkL at c; cases c
  | .and _ _, sc, top, X, B, es, h, hcm, hB, c, W, tk, Γ => by unfold chkL at c; cases c
  | .or _ _, sc, top, X, B, es, h, hcm, hB, c, W, tk, Γ => by unfold chkL at c; cases c
  | .last _, sc, top, X, B, es, h, hcm, hB, c, W, tk, Γ => by unfold chkL at c; cases c
  | .not _, sc, top, X, B, es, h, hcm, hB, c, W, tk, Γ => by unfold chkL at c; cases c
  | .ite _ _ _, sc, top, X, B, es, h, hcm, hB, c, W, tk, Γ => by unfold chkL at c; cases c
  | .tup _, sc, top, X, B, es, h, hcm, hB, c, W, tk, Γ => by unfold chkL at c; cases c
  | .lst _, sc, top, X, B, es, h, hcm, hB, c, W, tk, Γ => by unfold chkL at c; cases c
  | .item _ _, sc, top, X, B, es, h, hcm, hB, c, W, tk, Γ => by unfold chkL at c; cases c
  | .slice _ _ _, sc, top, X, B, es, h, hcm, hB, c, W, tk, Γ => by unfold chkL at c; cases c
  | .f1 _ _, sc, top, X, B, es, h, hcm, hB, c, W, tk, Γ => by unfold chkL at c; cases c
  | .f2 _ _ _, sc, top, X, B, es, h, hcm, hB, c, W, tk, Γ => by unfold chkL at c; cases c
  | .isi _ _, sc, top, X, B, es, h, hcm, hB, c, W, tk, Γ => by unfold chkL at c; cases c
  | .fld _ _, sc, top, X, B, es, h, hcm, hB, c, W, tk, Γ => by unfold chkL at c; cases c
  | .call _ _, sc, top, X, B, es, h, hcm, hB, c, W, tk, Γ => by unfold chkL at c; cases c
  | .comp _ _ _ _ _, sc, top, X, B, es, h, hcm, hB, c, W, tk, Γ => by unfold chkL at c; cases c
  | .compg _ _ _ _, sc, top, X, B, es, h, hcm, hB, c, W, tk, Γ => by unfold chkL at c; cases c
  | .lend _ _, sc, top, X, B, es, h, hcm, hB, c, W, tk, Γ => by unfold chkL at c; cases c
  | .own _ _ _, sc, top, X, B, es, h, hcm, hB, c, W, tk, Γ => by unfold chkL at c; cases c
  | .calv _ _ _ _, sc, top, X, B, es, h, hcm, hB, c, W, tk, Γ => by unfold chkL at c; cases c
  | .dget2 _ _ _, sc, top, X, B, es, h, hcm, hB, c, W, tk, Γ => by unfold chkL at c; cases c
  | .isx _ _, sc, top, X, B, es, h, hcm, hB, c, W, tk, Γ => by unfold chkL at c; cases c
  | .fldx _ _, sc, top, X, B, es, h, hcm, hB, c, W, tk, Γ => by unfold chkL at c; cases c
end
end
end G
namespace G
open PySem PySem.Spec PyProof.Rows L2
abbrev HdT := Value × Option Nat × (Addr → Value → Option Addr → TS)
def endD (o : Option Nat) (D : Ends) : Ends := match o with
  | none => D
  | some i => { nx := fun σ' H' => D.nx (σ'.set i none) H', rt := D.rt, bk := fun σ' H' => D.bk (σ'.set i none) H', ct := fun σ' H' => D.ct (σ'.set i none) H' }
def setO (o : Option Nat) (a : Addr) (σ : L2.St) : L2.St := match o with
  | none => σ
  | some i => σ.set i (some (.ref a))
def wGen (K : PySem.W.Frag) (Wout : WX) (D : Ends) : List HdT → WX
  | [] => Wout
  | (c, o, ts) :: r => fun cls d σ H => ∃ b, PySem.W.exmOne K cls c = some b ∧ (b = true → ∀ a, H a = none → ts a cls d (endD o D) (setO o a σ) H) ∧ (b = false → wGen K Wout D r cls d σ H)
def SuOk (X : Cx) (sts : List Stmt) (ts : Addr → Value → Option Addr → TS) : Prop :=
  ∀ (a : Addr) (oe : Obj) (cls : Value) (d : Option Addr) (pn : List (Addr × Obj)), Zc cls d oe → (∃ vs, oe.data = .fields vs) → PSs (X.suite a ((a, oe) :: pn)) sts (ts a cls d)
inductive HdG (X : Cx) : List ExceptHandler → List HdT → Prop
  | nil : HdG X [] []
  | plain {x : Str} {c : Value} {ts : Addr → Value → Option Addr → TS} {b₀ : Stmt} {suite : List Stmt} {np pos' : Pos} {hds : List ExceptHandler} {l : List HdT} (hc : Names X x c) (hsu : SuOk X (b₀ :: suite) ts) (r : HdG X hds l) :
      HdG X (.ExceptHandler (some (.Name x np)) none (b₀ :: suite) pos' :: hds) ((c, none, ts) :: l)
  | named {x n : Str} {i : Nat} {c : Value} {ts : Addr → Value → Option Addr → TS} {b₀ : Stmt} {suite : List Stmt} {np pos' : Pos} {hds : List ExceptHandler} {l : List HdT} (hc : Names X x c) (hi : X.N[i]? = some n) (hln : X.env.kindOf n = some .local) (hsu : SuOk X (b₀ :: suite) ts) (r : HdG X hds l) :
      HdG X (.ExceptHandler (some (.Name x np)) (some n) (b₀ :: suite) pos' :: hds) ((c, some i, ts) :: l)
section
variable {X : Cx} {body : List Stmt} {h₀ : ExceptHandler} {hds : List ExceptHandler} {l : List HdT} {pos : Pos} {tb : WX → TS} {Wout : WX}
theorem ps_try_gen (hs : X.stack = X.env :: X.outer) (hf : X.env.frame = some X.env.locals) (hN : X.N.Nodup) (tk : Takes X Wout)
    (hb : ∀ (W : WX) (pn : List (Addr × Obj)) (xe : Value → Shared → Prop), Takes (X.tr pn xe) W → PassesOwn (model X.prog X.w) X.A X.env xe → PSs (X.tr pn xe) body (tb W))
    (hh : HdG X (h₀ :: hds) l) : PS X (.Try body (h₀ :: hds) [] [] pos) (fun D σ H => tb (wGen X.K Wout D l) D σ H) := by
  refine ⟨fun pins s σ H D I h => ?_⟩
  have ok := I.ok
  have hfr : X.A.frames = some (X.env :: X.outer) := by rw [ok.frames, hs]
  refine wpAny_Try_except ?_
  refine wpAny_mono ((hb (wGen X.K Wout D l) (X.pn ++ pins) (fun e s₁ => wpAny (model X.prog X.w) X.A (noteFrame e X.env) (fun _ s₂ => wpAny (model X.prog X.w) X.A (setFlight e none) (fun _ s₃ =>
    wpAny (model X.prog X.w) X.A (handleBy e X.env (h₀ :: hds)) (SP X pins D) X.xe s₃) X.xe s₂) X.xe s₁) (fun u s' xx => ?_) PassesOwn.looking).run [] s σ H D (I.toTry _) h) (fun f s1 hsp => ?_) (fun e s1 he => he)
  · obtain ⟨a, B, sI, pins', σ', H', cls, d, rfl, J', nb, up, sky, na, os, ag, w⟩ := xx
    have J : Inv X pins σ' H' sI := J'.ofTry ok
    have sky' : Sky B (X.env :: X.outer) a (Zc cls d) X.env.locals s'.heap := by rw [← hs]; exact sky
    show wpAny (model X.prog X.w) X.A (noteFrame (.ref a) X.env) _ _ _
    refine Sky.land Zc.steady hfr hf sky' fun h3 fl3 up3 => ?_
    have J3 : Inv X pins σ' H' { s' with heap := h3 } := J.landed nb fl3.1 (up.trans up3) os ag
    obtain ⟨oe3, vs3, he3, hz3, hd3⟩ := fl3.there
    have nfr : a ∉ frs (X.env :: X.outer) := fun hm => by
      obtain ⟨_, o', e', hnf⟩ := fl3.2.2.1.mem hm
      rw [he3] at e'; cases e'
      exact hnf _ hd3
    have nL : a ≠ X.env.locals := fun z => nfr (List.mem_filterMap.mpr ⟨X.env, List.mem_cons_self, by rw [hf, z]⟩)
    have nF : a ∉ X.fs := fun hm => by
      obtain ⟨e, he, q⟩ := List.mem_filterMap.mp hm
      exact nfr (List.mem_filterMap.mpr ⟨e, List.mem_cons_of_mem _ he, q⟩)
    have S3 := J3.suite he3 hd3 na nL nF
    have test : ∀ {x : Str} {c : Value} {np : Pos} {Q : Value → Shared → Prop} {E : Value → Shared → Prop}, Names X x c → Q c { s' with heap := h3 } → wpAny (model X.prog X.w) (X.A.mark (some (.ref a))) (eval (.Name x np) X.env) Q E { s' with heap := h3 } := fun {x c np Q E} hc q => by
      obtain ⟨hg, hdbg, hm | ⟨hm, hv, hnn⟩⟩ := hc
      · exact ld_glob (X := X.suite a ((a, oe3) :: (X.pn ++ pins))) S3 hg hm q hdbg
      · exact ld_blt (X := X.suite a ((a, oe3) :: (X.pn ++ pins))) S3 hg hm hv q hnn hdbg
    have go : ∀ {hds' : List ExceptHandler} {l' : List HdT}, HdG X hds' l' → wGen X.K Wout D l' cls d σ' H' → wpAny (model X.prog X.w) X.A (handleBy (.ref a) X.env hds') (SP X pins D) X.xe { s' with heap := h3 } := by
      intro hds' l' hk
      induction hk with
      | nil =>
        intro w
        refine wpAny_handleBy_nil ?_
        obtain ⟨k1, k2, k3, oe, vs, T, oT, ts', he, hz, hd, h1, hr⟩ := id fl3
        unfold PySem.passOn
        refine wpAny_bind (wpAny_field he hd h1 ?_)
        rw [if_neg (show ¬ ((Value.ref T == Value.none) = true) from by simp)]
        have fin : wpAny (model X.prog X.w) X.A (setFlight (.ref a) X.env.frame) (fun _ s4 => wpAny (model X.prog X.w) X.A (throw (.ref a) : Sem Flow) (SP X pins D) X.xe s4) X.xe { s' with heap := h3 } := by
          rw [hf]
          refine HandSPX.setFlight_upZ fl3 fun h4 hh4 up4 => wpAny_throw (tk _ _ ?_)
          exact ⟨a, B, sI, pins, σ', H', cls, d, rfl, J, nb, (up.trans up3).trans up4, .inr (.inr (by rw [hs]; exact hh4)), na, os, ag, w⟩
        first
          | exact wpAny_bind (wpAny_pure (wpAny_bind fin))
          | exact wpAny_bind fin
      | @plain x c ts b₀ suite np pos' hds2 l2 hc hsu r ih =>
        intro w
        obtain ⟨b, hb1, hyes, hno⟩ := w
        refine wpAny_handleBy_cons (codeAny_handlers_test ?_) (by intro q; cases q)
        have LT : PySem.W.Looks (model X.prog X.w) h3 (typeOf (.ref a)) cls := fun A Q E s k q => wpAny_typeOf_ref (k _ _ he3) (by rw [hz3.1]; exact q)
        have LM := PySem.W.exm_one (M := model X.prog X.w) (J3.kIn) LT hb1
        refine test hc (LM.here ?_)
        cases b with
        | true =>
          refine codeAny_handlers_suite ?_
          refine HandSPX.lands_againZ fl3 fun h4 fl4 up4 => ?_
          have J4 : Inv X pins σ' H' { s' with heap := h4 } := J.landed nb fl4.1 ((up.trans up3).trans up4) os ag
          obtain ⟨oe4, vs4, he4, hz4, hd4⟩ := fl4.there
          have S4 := J4.suite he4 hd4 na nL nF
          refine wpAny_mono ((hsu a oe4 cls d (X.pn ++ pins) hz4 ⟨_, hd4⟩).run [] _ _ H' _ S4 (hyes rfl a na)) (fun f s6 hsp => ?_) (fun _ _ z => False.elim z)
          cases f with
          | ret u =>
            obtain ⟨v6, σ6, H6, S6, r6, q6⟩ := hsp
            exact ⟨_, _, _, S6.unsuite ok, r6, q6⟩
          | _ =>
            obtain ⟨σ6, H6, S6, q6⟩ := hsp
            exact ⟨_, _, S6.unsuite ok, q6⟩
        | false =>
          show wpAny _ X.A (handleBy (.ref a) X.env hds2) _ _ _
          exact ih (hno rfl)
      | @named x n i c ts b₀ suite np pos' hds2 l2 hc hi hln hsu r ih =>
        intro w
        obtain ⟨b, hb1, hyes, hno⟩ := w
        refine wpAny_handleBy_cons (codeAny_handlers_test ?_) (by intro q; cases q)
        have LT : PySem.W.Looks (model X.prog X.w) h3 (typeOf (.ref a)) cls := fun A Q E s k q => wpAny_typeOf_ref (k _ _ he3) (by rw [hz3.1]; exact q)
        have LM := PySem.W.exm_one (M := model X.prog X.w) (J3.kIn) LT hb1
        refine test hc (LM.here ?_)
        cases b with
        | true =>
          refine codeAny_handlers_suite_as ?_
          refine HandSPX.lands_againZ fl3 fun h4 fl4 up4 => ?_
          have J4 : Inv X pins σ' H' { s' with heap := h4 } := J.landed nb fl4.1 ((up.trans up3).trans up4) os ag
          obtain ⟨oe4, vs4, he4, hz4, hd4⟩ := fl4.there
          have S4 := J4.suite he4 hd4 na nL nF
          have hloc : Loc X.env.scope n := .inl hln
          refine store_ok (X := X.suite a ((a, oe4) :: (X.pn ++ pins))) (v := .ref a) S4 hN hi hloc rfl (fun s5 S5 => ?_) (.inr hln)
          refine wpAny_mono ((hsu a oe4 cls d (X.pn ++ pins) hz4 ⟨_, hd4⟩).run [] s5 _ H' _ S5 (hyes rfl a na)) (fun f s6 hsp => ?_) (fun _ _ z => False.elim z)
          have end_ : ∀ {σ6 : L2.St} {H6 : Hp} {Q : Shared → Prop}, Inv (X.suite a ((a, oe4) :: (X.pn ++ pins))) [] σ6 H6 s6 → (∀ s7, Inv X pins (σ6.set i none) H6 s7 → Q s7) →
              wpAny (model X.prog X.w) X.A (do bindName X.env n .none; unbindBehindTheSuite X.env n pos') (fun _ s7 => Q s7) X.xe s6 := fun {σ6 H6 Q} S6 hq => gone_ok (S6.unsuite ok) hN hi hln hq
          cases f with
          | ret u =>
            obtain ⟨v6, σ6, H6, S6, r6, q6⟩ := hsp
            exact end_ S6 fun s7 J7 => ⟨_, _, _, J7, r6, q6⟩
          | _ =>
            obtain ⟨σ6, H6, S6, q6⟩ := hsp
            exact end_ S6 fun s7 J7 => ⟨_, _, J7, q6⟩
        | false =>
          show wpAny _ X.A (handleBy (.ref a) X.env hds2) _ _ _
          exact ih (hno rfl)
    exact go hh w
  · cases f with
    | next =>
      obtain ⟨σ', H', J', q⟩ := hsp
      exact wpAny_execs_nil ⟨σ', H', J'.ofTry ok, q⟩
    | brk =>
      obtain ⟨σ', H', J', q⟩ := hsp
      exact ⟨σ', H', J'.ofTry ok, q⟩
    | cont =>
      obtain ⟨σ', H', J', q⟩ := hsp
      exact ⟨σ', H', J'.ofTry ok, q⟩
    | ret u =>
      obtain ⟨v, σ', H', J', r, q⟩ := hsp
      exact ⟨v, σ', H', J'.ofTry ok, r, q⟩
end
end G
namespace G
open PySem L2
theorem Le.refl (F : Wd) : Le F F := fun _ _ h => h
theorem Le.trans {F F1 F2 : Wd} (a : Le F F1) (b : Le F1 F2) : Le F F2 := fun c x h => b c x (a c x h)
def PoS (C : Cfg) (B : Bs) (W : WX) (F0 : Wd) (D : Ends) (o : Out) : Prop :=
  match o with
  | .next Γ => ∀ σ F H, SR C B F H σ Γ → Le F0 F → D.nx σ H
  | .ret d => ∀ v F H, Fits C F H → Ext B.1 B.2 F H → Rep C F v d → D.rt v H
  | .rio d ks vs => ∀ v F H, Fits C F H → Ext B.1 B.2 F H → Rep C F v d → (F B.io = none ∧ B.h B.io = none ∧ ∃ kas xs, H B.io = some (dictO C B.io false ks kas xs) ∧ DOk C F false ks kas xs vs) → D.rt v H
  | .rown l => ∀ a xs F H, Fits C F H → Ext B.1 B.2 F H → F a = none → B.h a = none → H a = some (.lst xs) → RepL C F xs l → D.rt (.ref a) H
  | .brk Γ => ∀ σ F H, SR C B F H σ Γ → Le F0 F → D.bk σ H
  | .cont Γ => ∀ σ F H, SR C B F H σ Γ → Le F0 F → D.ct σ H
  | .exc c Γ => ∀ σ F H, SR C B F H σ Γ → Le F0 F → Wx C W σ c H
  | .bad => False
def tS (C : Cfg) (B : Bs) (Γ : Gam) (W : WX) (o : Out) : TS := fun D σ H => ∃ F, SR C B F H σ Γ ∧ PoS C B W F D o
def tK (C : Cfg) (B : Bs) (W : WX) (s : Sm) : TS := fun D σ H => ∃ Γ, tS C B Γ W (evS C.toMng s Γ) D σ H
theorem PoS.le {C : Cfg} {B : Bs} {W : WX} {F0 F1 : Wd} {D : Ends} {o : Out} (p : PoS C B W F0 D o) (l : Le F0 F1) : PoS C B W F1 D o := by
  cases o with
  | next Γ => exact fun σ F H s h => p σ F H s (l.trans h)
  | ret d => exact p
  | rio d ks vs => exact p
  | rown l => exact p
  | brk Γ => exact fun σ F H s h => p σ F H s (l.trans h)
  | cont Γ => exact fun σ F H s h => p σ F H s (l.trans h)
  | exc c Γ => exact fun σ F H s h => p σ F H s (l.trans h)
  | bad => exact p
theorem PoS.seq {C : Cfg} {B : Bs} {W : WX} {F0 : Wd} {D : Ends} {o : Out} {k : Sm} (p : PoS C B W F0 D (o.andThen (evS C.toMng k))) : PoS C B W F0 { D with nx := tK C B W k D } o := by
  cases o with
  | next Γ => exact fun σ F H s h => ⟨Γ, F, s, PoS.le p h⟩
  | ret d => exact p
  | rio d ks vs => exact p
  | rown l => exact p
  | brk Γ => exact p
  | cont Γ => exact p
  | exc c Γ => exact p
  | bad => exact p
theorem tK.mk {C : Cfg} {B : Bs} {W : WX} {F : Wd} {H : Hp} {σ : L2.St} {Γ : Gam} {D : Ends} {k : Sm} (s : SR C B F H σ Γ) (p : PoS C B W F D (evS C.toMng k Γ)) : tK C B W k D σ H := ⟨Γ, F, s, p⟩
theorem PoS.of {α β : Type} {C : Cfg} {B : Bs} {W : WX} {F : Wd} {H : Hp} {σ : L2.St} {Γ : Gam} {D : Ends} {r : R α} {f : α → Out} {Rp : Wd → Hp → β → α → Prop} {Q : β → Hp → Prop} (s : SR C B F H σ Γ) (p : PoS C B W F D (Out.of Γ r f))
    (k : ∀ a v F' H', r = .ok a → Ext F H F' H' → SR C B F' H' σ Γ → Rp F' H' v a → PoS C B W F' D (f a) → Q v H') : Po C Rp F H r Q (Wx C W σ) := by
  cases r with
  | ok a => exact fun v F' H' e f' q => k a v F' H' rfl e (s.ext_ e f') q (PoS.le p e.le)
  | exc c => exact fun F' H' e f' => p σ F' H' (s.ext_ e f') e.le
  | bad => exact p
end G
namespace L2
open PySem G
variable {X : Cx} {st : Stmt} {sts : List Stmt}
theorem PS.imp {t t' : TS} (h : PS X st t) (i : ∀ D σ H, t' D σ H → t D σ H) : PS X st t' := ⟨fun pins s σ H D I q => h.run pins s σ H D I (i D σ H q)⟩
theorem PSs.imp {t t' : TS} (h : PSs X sts t) (i : ∀ D σ H, t' D σ H → t D σ H) : PSs X sts t' := ⟨fun pins s σ H D I q => h.run pins s σ H D I (i D σ H q)⟩
end L2
namespace G
open PySem L2
section
variable {C : Cfg} {T : Tb} {N : List Str} {sc : Scope} {top : Bool} {X : Cx} {B : Bs} {Γ : Gam} {W : WX} {pos p : Pos} {a b c ex : Expr} {es : List Expr} {ra rb rc : R D} {st : Stmt} {rest : List Stmt}
theorem swaps_no {e : Expr} {tg : Option Expr} {l : Nat} {env : Env} (h : isComp e = false) (o : okx e = true) : swapsWith e tg l env = pure false := by
  cases e <;> first | (cases o; done) | (cases h; done) | rfl
theorem sole_no {e tg : Expr} {l : Nat} {env : Env} (h : isComp e = false) (o : okx e = true) : swapsWithSole [tg] e l env = pure false := by
  cases e <;> first | (cases o; done) | (cases h; done) | rfl
theorem setAll_noexc {c : Ec} : ∀ (is : List Nat) (l : List D) (Γ : Gam), setAll Γ is l ≠ .exc c := by
  intro is
  induction is with
  | nil => intro l Γ; cases l <;> intro z <;> cases z
  | cons i r ih => intro l Γ; cases l with
    | nil => intro z; cases z
    | cons d l => exact ih l _
theorem adopt_imp {σ : L2.St} {H : Hp} {Q : VK} (h : tD C B Γ W ra σ H Q) : tN C B Γ W ra σ H Q := by
  obtain ⟨F, s, p⟩ := h
  refine ⟨F, s, ?_⟩
  cases ra with
  | ok d =>
    intro v F' H' e f q
    cases d with
    | lst l =>
      obtain ⟨a, xs, rfl, h0, fa, ha, r⟩ := q
      exact p _ _ _ (e.adopt fa h0) (f.adopt fa ha) ⟨a, xs, rfl, updW_same, RepL.le (le_upd fa) _ _ r⟩
    | _ => exact p v F' H' e f q
  | exc c => exact p
  | bad => exact p
theorem comp_set (w : Wld C T) (h : XOk C N sc top X) (hcm : XCalm C X) (hk : sc.kind = .function) {tg : List Nat} {rng : Bool} {it ce e : E} {elt etg eit : Expr} {ifs : List Expr} {scope : Scope} {i : Nat} {y : Str} {py spos : Pos}
    (hy : N[i]? = some y) (hl : locB top sc y = true)
    (c1 : blkC N sc scope (ownOf N tg) = true) (c2 : (ownOf N tg).map (·.2) = tg) (c3 : chkTg N false (relS scope sc) tg etg = true) (oit : okx eit = true)
    (hit : PI X etg eit (tI C B Γ W (if rng then (evL C.toMng it Γ).bind fun ds => walkD true (.tup ds) else (evE C.toMng it Γ).bind fun d => walkD false d)))
    (hc : ifs = [] ∧ isNil ce = true ∨ ∃ i, ifs = [i] ∧ isNil ce = false ∧ ∀ Y : Cx, XOk C N (relS scope sc) false Y → XCalm C Y → ∀ B, Snd C Y B ce i)
    (he : ∀ Y : Cx, XOk C N (relS scope sc) false Y → XCalm C Y → ∀ B, Snd C Y B e elt) :
    PS X (.Assign [.Name y py] (.ListComp elt [⟨etg, eit, ifs, 0⟩] scope pos) spos) (tAsg (tN C B Γ W (evE C.toMng (.comp tg rng it ce e) Γ)) (gName i)) := by
  obtain ⟨l1, l2⟩ := loc_of h hl
  have nd : X.N.Nodup := by rw [h.eN]; exact h.nd
  have hy' : X.N[i]? = some y := by rw [h.eN]; exact hy
  have hpe := snd_comp (B := B) (Γ := Γ) (W := W) (pos := pos) w h hcm c1 c2 c3 oit hit hc he
  have hsw : ∃ b : Bool, swapsWith (.ListComp elt [⟨etg, eit, ifs, 0⟩] scope pos) (some (.Name y py)) spos.line X.env = pure b ∧ (b = true → X.env.scope.names.lookup y = some .local) := by
    refine ⟨_, rfl, fun z => ?_⟩
    simp only [Bool.and_eq_true, beq_iff_eq] at z
    exact z.1.1.2
  obtain ⟨b, hb, hbl⟩ := hsw
  cases b with
  | false => exact ps_set nd hy' l1 hpe hb l2
  | true =>
    have ok : BlkOk X.N X.env.scope scope (ownOf N tg) := by rw [h.eN, h.eS]; exact blkOk_by c1
    have hte : ∀ (s : Shared) (H : Hp) (D : Addr) (cl : List (Str × Addr)) (fp : List Addr), PE (X.blk s H scope (compEnvC scope cl D X.env) fp) elt (tAny C fun Γ' => evE C.toMng e Γ') := fun s H D cl fp =>
      pe_any fun B Γ => (he _ (blk_ok h s H scope D cl fp) (blk_calm hcm s H scope D cl fp) B).pe W0 noWish Γ
    have htg : ∀ (s : Shared) (H : Hp) (D : Addr) (cl : List (Str × Addr)) (fp : List Addr), PG (X.blk s H scope (compEnvC scope cl D X.env) fp) etg (gX X.K tg) := fun s H D cl fp =>
      pg_tg (blk_ok h s H scope D cl fp) (blk_calm hcm s H scope D cl fp) c3
    rcases hc with ⟨rfl, hn⟩ | ⟨j, rfl, hn, hi⟩
    · refine (ps_setLc hcm.calm nd hy' (hbl rfl) hb hit ok htg (fun _ _ _ _ _ => pts_nil) hte (folded_ok oit)).imp fun D σ H q => ?_
      refine tLc_ok (fc := none) c2 rfl rfl rfl ?_
      have e1 : condF ce (fun Γ' => evE C.toMng ce Γ') = none := by cases ce <;> first | rfl | cases hn
      have q : tN C B Γ W (evE C.toMng (.comp tg rng it ce e) Γ) σ H _ := q
      rw [evE, e1] at q
      exact q
    · have htt : ∀ (s : Shared) (H : Hp) (D : Addr) (cl : List (Str × Addr)) (fp : List Addr), PTs (X.blk s H scope (compEnvC scope cl D X.env) fp) [j] (tAnyT C fun Γ' => (evE C.toMng ce Γ').bind truD) := fun s H D cl fp =>
        pts_one (pt_any fun B Γ => (hi _ (blk_ok h s H scope D cl fp) (blk_calm hcm s H scope D cl fp) B).pt W0 noWish Γ)
      refine (ps_setLc hcm.calm nd hy' (hbl rfl) hb hit ok htg htt hte (folded_ok oit)).imp fun D σ H q => ?_
      refine tLc_ok (fc := some fun Γ' => evE C.toMng ce Γ') c2 rfl rfl rfl ?_
      have e1 : condF ce (fun Γ' => evE C.toMng ce Γ') = some (fun Γ' => evE C.toMng ce Γ') := by cases ce <;> first | rfl | cases hn
      have q : tN C B Γ W (evE C.toMng (.comp tg rng it ce e) Γ) σ H _ := q
      rw [evE, e1] at q
      exact q
theorem set_any (w : Wld C T) (h : XOk C N sc top X) (hcm : T.calm = true → XCalm C X) (hB : BOk C T X B) (hk : sc.kind = .function) {e : E} {i : Nat} {y : Str} {py spos : Pos} (hy : N[i]? = some y) (hl : locB top sc y = true) (ce : chkE T N e sc ex = true) (o : okx ex = true) (ng : isCg e = false) (tk : Takes X W) :
    PS X (.Assign [.Name y py] ex spos) (tAsg (tD C B Γ W (evE C.toMng e Γ)) (gName i)) ∧ (newE e = true → PS X (.Assign [.Name y py] ex spos) (tAsg (tN C B Γ W (evE C.toMng e Γ)) (gName i))) := by
  obtain ⟨l1, l2⟩ := loc_of h hl
  have nd : X.N.Nodup := by rw [h.eN]; exact h.nd
  have hy' : X.N[i]? = some y := by rw [h.eN]; exact hy
  have snd := sndE w e h hcm hB ce
  cases hcomp : isComp ex with
  | false => exact ⟨ps_set nd hy' l1 (snd.pe W tk Γ) (swaps_no hcomp o) l2, fun z => ps_set nd hy' l1 (snd.pn z W tk Γ) (swaps_no hcomp o) l2⟩
  | true =>
    have key : PS X (.Assign [.Name y py] ex spos) (tAsg (tN C B Γ W (evE C.toMng e Γ)) (gName i)) := by
      cases e with
      | comp tg rng it c0 e0 =>
        unfold chkE at ce
        split at ce
        · rename_i elt etg eit ifs scope pos'
          simp only [Bool.and_eq_true, decide_eq_true_eq] at ce
          obtain ⟨⟨⟨⟨⟨⟨⟨cc, c1⟩, c2⟩, c3⟩, c4⟩, c5⟩, c6⟩, c7⟩ := ce
          refine comp_set w h (hcm cc) hk hy hl c1 c2 c3 c4 ?_ ?_ ?_
          · cases rng with
            | true =>
              rw [if_pos rfl] at c5 ⊢
              split at c5
              · simp only [Bool.and_eq_true, decide_eq_true_eq] at c5
                obtain ⟨⟨hx, hg⟩, hl⟩ := c5
                subst hx
                exact nd_range1 w h hg (sndL w it h hcm hB hl W tk Γ)
              · simp only [Bool.and_eq_true, decide_eq_true_eq] at c5
                obtain ⟨⟨hx, hg⟩, hl⟩ := c5
                subst hx
                exact nd_range2 w h hg (sndL w it h hcm hB hl W tk Γ)
              · simp only [Bool.and_eq_true, decide_eq_true_eq] at c5
                obtain ⟨⟨hx, hg⟩, hl⟩ := c5
                subst hx
                exact nd_range3 w h hg (sndL w it h hcm hB hl W tk Γ)
              · cases c5
            | false =>
              rw [if_neg Bool.false_ne_true] at c5 ⊢
              exact nd_iter h ((sndE w it h hcm hB c5).pe W tk Γ)
          · unfold condB at c6
            split at c6
            · exact .inl ⟨rfl, c6⟩
            · rename_i i
              rw [Bool.and_eq_true, Bool.not_eq_true'] at c6
              exact .inr ⟨i, rfl, c6.1, fun Y hY hYc B2 => sndE w c0 hY (fun _ => hYc) (fun z => by rw [cc] at z; cases z) c6.2⟩
            · cases c6
          · exact fun Y hY hYc B2 => sndE w e0 hY (fun _ => hYc) (fun z => by rw [cc] at z; cases z) c7
        · cases ce
      | compg n tg l e0 => cases ng
      | call n l =>
        exfalso
        unfold chkE at ce
        split at ce
        · split at ce
          · rw [hcomp] at ce; simp at ce
          · cases ce
        · cases ce
      | calm n l =>
        exfalso
        unfold chkE at ce
        split at ce
        · split at ce
          · rw [hcomp] at ce; simp at ce
          · cases ce
        · cases ce
      | calv n cs l0 l =>
        exfalso
        unfold chkE at ce
        split at ce
        · split at ce
          · rw [hcomp] at ce; simp at ce
          · cases ce
        · cases ce
      | own n l0 l =>
        exfalso
        unfold chkE at ce
        split at ce
        · split at ce
          · rw [hcomp] at ce; simp at ce
          · cases ce
        · cases ce
      | _ =>
        exfalso
        cases ex with
        | ListComp elt gens scope pos' => unfold chkE at ce; first | cases ce | (simp at ce)
        | _ => cases hcomp
    exact ⟨key.imp fun D σ H q => adopt_imp q, fun _ => key⟩
variable {e : E} {k : Sm} {i j : Nat} {x y : Str} {Dd : Ends}
theorem SlotOk.mkL {B : Bs} {F : Wd} {H : Hp} {a : Addr} {xs : List V} {l : List D} (fa : F a = none) (ba : B.2 a = none) (ha : H a = some (.lst xs)) (r : RepL C F xs l) : SlotOk C B F H (some (.ref a)) (.ownL l) := ⟨a, xs, rfl, fa, ba, ha, r⟩
theorem SlotOk.mkD {B : Bs} {F : Wd} {H : Hp} {a : Addr} {k : Bool} {ks vs : List D} {kas : List Addr} {xs : List V} (fa : F a = none) (ba : B.2 a = none) (ha : H a = some (dictO C a k ks kas xs)) (r : DOk C F k ks kas xs vs) : SlotOk C B F H (some (.ref a)) (.ownD k ks vs) := ⟨a, kas, xs, rfl, fa, ba, ha, r⟩
theorem st_asg (w : Wld C T) (h : XOk C N sc top X) (hcm : T.calm = true → XCalm C X) (hB : BOk C T X B) (hk : sc.kind = .function) {py : Pos} (hy : N[i]? = some y) (hl : locB top sc y = true) (ce : chkE T N e sc ex = true) (o : okx ex = true) (ng : isCg e = false) (tk : Takes X W) (r : PSs X rest (tK C B W k)) :
    PSs X (.Assign [.Name y py] ex pos :: rest) (tK C B W (.asg i e k)) :=
  ⟨fun pins s0 σ H D I ⟨Γ, q⟩ => ((pss_cons (set_any (Γ := Γ) w h hcm hB hk hy hl ce o ng tk).1 r).imp (t' := tS C B Γ W (evS C.toMng (.asg i e k) Γ)) fun D σ H ⟨F, s, p⟩ => ⟨F, s, PoS.of s p fun d v F' H' er e' s' rv p' =>
    tK.mk (s'.put_val rv) p'⟩).run pins s0 σ H D I q⟩
theorem st_asgO (w : Wld C T) (h : XOk C N sc top X) (hcm : T.calm = true → XCalm C X) (hB : BOk C T X B) (hk : sc.kind = .function) {py : Pos} (hy : N[i]? = some y) (hl : locB top sc y = true) (ce : chkE T N e sc ex = true) (o : okx ex = true) (hn : newE e = true) (ng : isCg e = false) (tk : Takes X W) (r : PSs X rest (tK C B W k)) :
    PSs X (.Assign [.Name y py] ex pos :: rest) (tK C B W (.asgO i e k)) :=
  ⟨fun pins s0 σ H D I ⟨Γ, q⟩ => ((pss_cons ((set_any (Γ := Γ) w h hcm hB hk hy hl ce o ng tk).2 hn) r).imp (t' := tS C B Γ W (evS C.toMng (.asgO i e k) Γ)) fun D σ H ⟨F, s, p⟩ => ⟨F, s, by
    refine PoS.of (f := fun d => lstO d fun l => evS C.toMng k (Γ.set i (.ownL l))) s p fun d v F' H' er e' s' rv p' => ?_
    cases d with
    | lst l =>
      obtain ⟨a, xs, rfl, h0, fa, ha, rl⟩ := rv
      exact tK.mk (s'.put_new (by have := s.notOwn h0; exact this) (.mkL fa (s.base h0) ha rl)) p'
    | _ => exact False.elim p'⟩).run pins s0 σ H D I q⟩
theorem st_asgN (h : XOk C N sc top X) {n : Nat} {le : E} {py : Pos} (hy : N[i]? = some y) (hl : locB top sc y = true) (o : okx ex = true) (oc : isComp ex = false) (he : ∀ Γ, PE X ex (tN C B Γ W ((evL C.toMng le Γ).bind fun ds => C.fn n ds))) (r : PSs X rest (tK C B W k)) :
    PSs X (.Assign [.Name y py] ex pos :: rest) (tK C B W (.asgN i n le k)) := by
  obtain ⟨l1, l2⟩ := loc_of h hl
  have nd : X.N.Nodup := by rw [h.eN]; exact h.nd
  have hy' : X.N[i]? = some y := by rw [h.eN]; exact hy
  exact ⟨fun pins s0 σ H D I ⟨Γ, q⟩ => ((pss_cons (ps_set nd hy' l1 (he Γ) (swaps_no oc o) l2) r).imp (t' := tS C B Γ W (evS C.toMng (.asgN i n le k) Γ)) fun D σ H ⟨F, s, p⟩ => ⟨F, s, by
    refine PoS.of (f := fun d => lstO d fun l => evS C.toMng k (Γ.set i (.ownL l))) s p fun d v F' H' er e' s' rv p' => ?_
    cases d with
    | lst l =>
      obtain ⟨a, xs, rfl, h0, fa, ha, rl⟩ := rv
      exact tK.mk (s'.put_new (by have := s.notOwn h0; exact this) (.mkL fa (s.base h0) ha rl)) p'
    | _ => exact False.elim p'⟩).run pins s0 σ H D I q⟩
theorem st_newD (h : XOk C N sc top X) {b : Bool} {py p2 : Pos} (hy : N[i]? = some y) (hl : locB top sc y = true) (r : PSs X rest (tK C B W k)) :
    PSs X (.Assign [.Name y py] (.Dict [] [] p2) pos :: rest) (tK C B W (.newD b i k)) := by
  obtain ⟨l1, l2⟩ := loc_of h hl
  refine (pss_cons (ps_set (by rw [h.eN]; exact h.nd) (by rw [h.eN]; exact hy) l1 (pe_newD h b) rfl l2) r).imp fun D σ H ⟨Γ, F, s, p⟩ => fun t ht => ?_
  rw [evS] at p
  exact tK.mk ((s.ext_ ((Ext.refl F H).fresh ht) (s.fits.fresh ht)).put_new (s.notOwn ht) (.mkD (s.fits.free ht) (s.base ht) upd_same DOk.nil)) p
theorem st_disp (h : XOk C N sc top X) {ek ev : Expr} {e2 : E} {py p2 : Pos} (hy : N[i]? = some y) (hl : locB top sc y = true) (he : ∀ Γ, PE X ek (tD C B Γ W (evE C.toMng e Γ))) (hv : ∀ Γ, PE X ev (tD C B Γ W (evE C.toMng e2 Γ))) (r : PSs X rest (tK C B W k)) :
    PSs X (.Assign [.Name y py] (.Dict [some ek] [ev] p2) pos :: rest) (tK C B W (.disp false i e e2 k)) := by
  obtain ⟨l1, l2⟩ := loc_of h hl
  refine ⟨fun pins s0 σ H D I ⟨Γ, q⟩ => ((pss_cons (ps_set (by rw [h.eN]; exact h.nd) (by rw [h.eN]; exact hy) l1 (pe_disp1 h (he Γ) (hv Γ)) rfl l2) r).imp (t' := tS C B Γ W (evS C.toMng (.disp false i e e2 k) Γ)) fun D σ H ⟨F, s, p⟩ => fun t ht => ?_).run pins s0 σ H D I q⟩
  rw [evS] at p
  have s0 := s.ext_ ((Ext.refl F H).fresh (u := dictO C t false [] [] []) ht) (s.fits.fresh ht)
  have hF0 := s.fits.free ht
  have hB0 := s.base ht
  refine ⟨F, s0, PoS.of s0 p fun u v F' H' er e' s' ru p' => ⟨F', s', PoS.of s' p' fun u2 v2 F2 H2 er2 e2' s2 rv p2 => ?_⟩⟩
  split at p2
  · rename_i hk
    obtain ⟨ht2, hF2⟩ := (e'.trans e2').own (u := dictO C t false [] [] []) (by rw [upd_same]) hF0
    refine ⟨F2, u, u2, s2.fits, ht2, Rep.le e2'.le _ _ ru, rv, hk, fun b d => ?_⟩
    have hno : ∀ (j : Nat) (c' : Cell), Γ[j]? = some c' → c'.own = true → σ[j]? ≠ some (some (.ref t)) := s.notOwn ht
    have s3 : SR C B F2 (upd H2 t (dictO C t false [u] [b] [v2])) σ Γ := s2.write_free hno hF2 hB0
    exact tK.mk (s3.put_new hno (.mkD hF2 hB0 upd_same d)) p2
  · exact False.elim p2
def unpOk : Expr → Bool
  | .Name .. => true
  | .Call .. => true
  | .Attribute .. => true
  | .Subscript _ (.Slice ..) _ => false
  | .Subscript .. => true
  | _ => false
theorem st_unp (h : XOk C N sc top X) (hcm : XCalm C X) {is : List Nat} {kk : Nat} {tp : Pos} (he : ∀ Γ, PE X ex (tD C B Γ W (evE C.toMng e Γ))) (hu : unpOk ex = true) (ha : areNames N top sc is es = true) (h2 : 2 ≤ is.length) (r : PSs X rest (tK C B W k)) :
    PSs X (.Assign [.Tuple es kk tp] ex pos :: rest) (tK C B W (.unp is e k)) := by
  have hg : PG X (.Tuple es kk tp) (gX X.K is) := pg_tg h hcm (by match is, h2 with | i :: j :: t, _ => exact ha)
  refine ⟨fun pins s0 σ H D I ⟨Γ, q⟩ => ((pss_cons (ps_asg (he Γ) hg (by cases ex <;> first | rfl | cases hu) (by cases ex <;> first | rfl | cases hu)) r).imp (t' := tS C B Γ W (evS C.toMng (.unp is e k) Γ)) fun D σ H ⟨F, s, p⟩ => ⟨F, s, by
    refine PoS.of (f := fun d => match d with | .tup l => Out.of Γ (setAll Γ is l) (evS C.toMng k) | _ => .bad) s p fun d v F' H' er e' s' rv p' => ?_
    cases d with
    | tup l =>
      have p' : PoS C B W F' _ (Out.of Γ (setAll Γ is l) (evS C.toMng k)) := p'
      cases es : setAll Γ is l with
      | ok Γ' =>
        rw [es] at p'
        refine gX_ok (vs := is) s' rv (by match is, h2 with | i :: j :: t, _ => exact es) (fun i hi => hi) fun σ' s2 _ => tK.mk s2 p'
      | exc c =>
        exact absurd es (setAll_noexc is l Γ)
      | bad => rw [es] at p'; exact False.elim p'
    | _ => exact False.elim p'⟩).run pins s0 σ H D I q⟩
def augOk : BOp → Operator → Bool
  | .add, .Add => true
  | .sub, .Sub => true
  | _, _ => false
theorem st_aug (h : XOk C N sc top X) {bo : BOp} {o : Operator} {py : Pos} (ho : augOk bo o = true) (hy : N[i]? = some y) (hl : locB top sc y = true) (he : ∀ Γ, PE X ex (tD C B Γ W (evE C.toMng e Γ))) (r : PSs X rest (tK C B W k)) :
    PSs X (.AugAssign (.Name y py) o ex pos :: rest) (tK C B W (.aug i bo e k)) := by
  obtain ⟨l1, l2⟩ := loc_of h hl
  have hip : ∃ f : Int → Int → Int, PIp X o (ipI f) ∧ ∀ a b, augD bo a b = (match a, b with | .int i, .int j => .ok (.int (f i j)) | _, _ => .bad) := by
    cases bo <;> cases o <;> first
      | (cases ho; done)
      | exact ⟨fun i j => i + j, ip_add, fun a b => by cases a <;> cases b <;> rfl⟩
      | exact ⟨fun i j => i - j, ip_sub, fun a b => by cases a <;> cases b <;> rfl⟩
  obtain ⟨f, hp, hf⟩ := hip
  refine ⟨fun pins s0 σ H D I ⟨Γ, q⟩ => ((pss_cons (ps_aug (by rw [h.eN]; exact h.nd) (by rw [h.eN]; exact hy) l1 (he Γ) hp l2) r).imp (t' := tS C B Γ W (evS C.toMng (.aug i bo e k) Γ)) fun D σ H ⟨F, s, p⟩ => by
    rw [evS] at p
    split at p
    · rename_i dx hx
      obtain ⟨v, hv, rx⟩ := s.val hx
      refine ⟨v, hv, F, s, PoS.of (f := fun y => Out.of Γ (augD bo dx y) fun z => evS C.toMng k (Γ.set i (.val z))) s p fun dy v2 F' H' er e' s' ry p' => ?_⟩
      rw [hf] at p'
      cases dx with
      | int a =>
        cases dy with
        | int b => exact ⟨a, b, rx, ry, tK.mk (s'.put_val (d := .int (f a b)) rfl) p'⟩
        | _ => exact False.elim p'
      | _ => exact False.elim p'
    · exact False.elim p).run pins s0 σ H D I q⟩
theorem tyL {H : Hp} {a : Addr} {xs : List V} (ha : H a = some (.lst xs)) : tyV X.K "list" (.ref a) H := .inl ⟨rfl, _, SqL.of ha⟩
theorem nd_own (h : XOk C N sc top X) (hN : N[i]? = some x) (hv : visB sc x = true) (hn : nmOk x = true) : PE X (.Name x pos) (tVar i) := pe_var (i := i) (by rw [h.eN]; exact hN) (h.vis hv) (nm_d hn) (nm_c hn)
theorem few_ok {cpos : Pos} {e : Expr} {env : Env} (o : okx e = true) : ((backTo cpos (starEach [e] env)).all (fun x => !x.1) && (backToKw cpos (keywordEach [] env)).all (fun x => x.1.isSome)
      && decide (([e] : List Expr).length + ([] : List Keyword).length + (if ([] : List Keyword).isEmpty then 0 else 1) < 30)) = true := by
  rw [star_cons o]
  rfl
theorem st_app (h : XOk C N sc top X) {px apos cpos : Pos} (hN : N[i]? = some x) (hv : visB sc x = true) (hn : nmOk x = true) (hline : (apos.endLine == cpos.line) = true) (o : okx ex = true) (he : ∀ Γ, PE X ex (tD C B Γ W (evE C.toMng e Γ))) (r : PSs X rest (tK C B W k)) :
    PSs X (.Expr (.Call (.Attribute (.Name x px) "append" apos) [ex] [] cpos) pos :: rest) (tK C B W (.app i e k)) :=
  ⟨fun pins s0 σ H D I ⟨Γ, q⟩ => ((pss_cons (ps_expr (pe_bm PySem.F.plainAttrs_list PySem.F.slot_list_append PySem.F.type_list_append mt_append (nd_own h hN hv hn) (pa_one (he Γ) o) rfl (few_ok o) hline (star_cons o) one_any)) r).imp (t' := tS C B Γ W (evS C.toMng (.app i e k) Γ)) fun D σ H ⟨F, s, p⟩ => by
    rw [evS, onL] at p
    split at p
    · rename_i l hl
      obtain ⟨a, xs, e1, fa, ba, ha, rl⟩ := s.sl i _ hl
      have e1' := join_of e1
      refine ⟨_, e1', tyL ha, F, s, PoS.of (f := fun y => if l.length < LINE then evS C.toMng k (Γ.set i (.ownL (l ++ [y]))) else .bad) s p fun d v F' H' er e' s' rv p' => ?_⟩
      split at p'
      · rename_i hlt
        obtain ⟨ha', fa'⟩ := e'.own ha fa
        refine ⟨a, xs, v, rfl, rfl, ha', by rw [rl.len, line_eq]; exact hlt, ?_⟩
        exact tK.mk (s'.write hl rfl e1' fa' ba (.mkL fa' ba upd_same ((RepL.le e'.le _ _ rl).snoc rv))) p'
      · exact False.elim p'
    · exact False.elim p).run pins s0 σ H D I q⟩
theorem st_ext (h : XOk C N sc top X) {px apos cpos : Pos} (hN : N[i]? = some x) (hv : visB sc x = true) (hn : nmOk x = true) (hline : (apos.endLine == cpos.line) = true) (o : okx ex = true) (he : ∀ Γ, PE X ex (tD C B Γ W (evE C.toMng e Γ))) (r : PSs X rest (tK C B W k)) :
    PSs X (.Expr (.Call (.Attribute (.Name x px) "extend" apos) [ex] [] cpos) pos :: rest) (tK C B W (.ext i e k)) :=
  ⟨fun pins s0 σ H D I ⟨Γ, q⟩ => ((pss_cons (ps_expr (pe_bm PySem.F.plainAttrs_list PySem.F.slot_list_extend PySem.F.type_list_extend mt_extend (nd_own h hN hv hn) (pa_one (he Γ) o) rfl (few_ok o) hline (star_cons o) one_any)) r).imp (t' := tS C B Γ W (evS C.toMng (.ext i e k) Γ)) fun D σ H ⟨F, s, p⟩ => by
    rw [evS, onL] at p
    split at p
    · rename_i l hl
      obtain ⟨a, xs, e1, fa, ba, ha, rl⟩ := s.sl i _ hl
      have e1' := join_of e1
      refine ⟨_, e1', tyL ha, F, s, PoS.of (f := fun y => match y with | .lst m => if l.length + m.length ≤ LINE then evS C.toMng k (Γ.set i (.ownL (l ++ m))) else .bad | _ => .bad) s p fun d v F' H' er e' s' rv p' => ?_⟩
      cases d with
      | lst m =>
        have p' : PoS C B W F' _ (if l.length + m.length ≤ LINE then evS C.toMng k (Γ.set i (.ownL (l ++ m))) else .bad) := p'
        split at p'
        · rename_i hlt
          obtain ⟨b, ys, rfl, hb, rm⟩ := rv
          obtain ⟨ha', fa'⟩ := e'.own ha fa
          refine ⟨a, b, xs, ys, rfl, rfl, ha', s'.fits b _ hb, by rw [rl.len, rm.len, line_eq]; exact hlt, ?_⟩
          exact tK.mk (s'.write hl rfl e1' fa' ba (.mkL fa' ba upd_same ((RepL.le e'.le _ _ rl).app rm))) p'
        · exact False.elim p'
      | _ => exact False.elim p'
    · exact False.elim p).run pins s0 σ H D I q⟩
theorem RepL.dropLast {F : Wd} : ∀ {l : List D} {vs : List V}, RepL C F vs l → RepL C F vs.dropLast l.dropLast
  | [], _, q => by rw [show _ = [] from q]; rfl
  | [d], _, q => by
    obtain ⟨v, r, rfl, _, q2⟩ := q
    rw [show r = [] from q2]; rfl
  | d :: d2 :: ds, _, q => by
    obtain ⟨v, r, rfl, q1, q2⟩ := q
    have q2' := q2
    obtain ⟨v2, r2, rfl, _, _⟩ := q2'
    exact ⟨v, _, rfl, q1, RepL.dropLast q2⟩
theorem RepL.last {F : Wd} {l : List D} {vs : List V} {d : D} (r : RepL C F vs l) (h : l.getLast? = some d) : ∃ v, vs[vs.length - 1]? = some v ∧ Rep C F v d := by
  rw [List.getLast?_eq_getElem?] at h
  rw [r.len]
  exact r.get h
theorem st_pop (h : XOk C N sc top X) {py px apos cpos : Pos} (hy : N[i]? = some y) (hl : locB top sc y = true) (hN : N[j]? = some x) (hv : visB sc x = true) (hn : nmOk x = true) (hij : i ≠ j) (hline : (apos.endLine == cpos.line) = true) (r : PSs X rest (tK C B W k)) :
    PSs X (.Assign [.Name y py] (.Call (.Attribute (.Name x px) "pop" apos) [] [] cpos) pos :: rest) (tK C B W (.pop i j k)) := by
  obtain ⟨l1, l2⟩ := loc_of h hl
  refine (pss_cons (ps_set (by rw [h.eN]; exact h.nd) (by rw [h.eN]; exact hy) l1 (pe_bm0 PySem.F.plainAttrs_list PySem.F.slot_list_pop PySem.F.type_list_pop mt_pop (nd_own h hN hv hn) rfl hline) rfl l2) r).imp fun D σ H ⟨Γ, F, s, p⟩ => ?_
  rw [evS, onL] at p
  split at p
  · rename_i l hl
    obtain ⟨a, xs, e1, fa, ba, ha, rl⟩ := s.sl j _ hl
    have e1' := join_of e1
    split at p
    · rename_i d hd
      obtain ⟨v, hv, rv⟩ := rl.last hd
      refine ⟨_, e1', tyL ha, a, xs, v, rfl, rfl, ha, hv, ?_⟩
      exact tK.mk ((s.write hl rfl e1' fa ba (.mkL fa ba upd_same (RepL.dropLast rl))).put_val rv) p
    · exact False.elim p
  · exact False.elim p
theorem st_seti (h : XOk C N sc top X) {px tp : Pos} {ei : Expr} {ai : E} (hN : N[i]? = some x) (hv : visB sc x = true) (hn : nmOk x = true) (o : okx ei = true) (oc : isComp ex = false) (o2 : okx ex = true) (he : ∀ Γ, PE X ex (tD C B Γ W (evE C.toMng e Γ))) (hi : ∀ Γ, PE X ei (tD C B Γ W (evE C.toMng ai Γ))) (r : PSs X rest (tK C B W k)) :
    PSs X (.Assign [.Subscript (.Name x px) ei tp] ex pos :: rest) (tK C B W (.seti i ai e k)) :=
  ⟨fun pins s0 σ H D I ⟨Γ, q⟩ => ((pss_cons (ps_asg (he Γ) (pg_sub (nd_own h hN hv hn) (hi Γ) set_list (fun v => by cases ei <;> first | rfl | cases o)) (sole_no oc o2) rfl) r).imp (t' := tS C B Γ W (evS C.toMng (.seti i ai e k) Γ)) fun D σ H ⟨F, s, p⟩ => ⟨F, s, by
    refine PoS.of (f := fun y => onL Γ i fun l => Out.of Γ (evE C.toMng ai Γ) fun x => match x with | .int n => (match ixN l.length n with | some j => evS C.toMng k (Γ.set i (.ownL (l.set j y))) | none => .bad) | _ => .bad) s p fun d v F' H' er e' s' rv p' => ?_
    rw [onL] at p'
    split at p'
    · rename_i l hl
      obtain ⟨a, xs, e1, fa, ba, ha, rl⟩ := s'.sl i _ hl
      have e1' := join_of e1
      refine ⟨_, e1', F', s', PoS.of (f := fun x => match x with | .int n => (match ixN l.length n with | some j => evS C.toMng k (Γ.set i (.ownL (l.set j d))) | none => .bad) | _ => .bad) s' p' fun dn vn F2 H2 er2 e2 s2 rn p2 => ?_⟩
      cases dn with
      | int n =>
        have p2 : PoS C B W F2 _ (match ixN l.length n with | some j => evS C.toMng k (Γ.set i (.ownL (l.set j d))) | none => .bad) := p2
        split at p2
        · rename_i jj hj
          obtain ⟨ha', fa'⟩ := e2.own ha fa
          refine ⟨a, xs, n, jj, rfl, rn, ha', by rw [rl.len]; exact hj, ?_⟩
          exact tK.mk (s2.write hl rfl e1' fa' ba (.mkL fa' ba upd_same ((RepL.le e2.le _ _ rl).set jj (Rep.le e2.le _ _ rv)))) p2
        · exact False.elim p2
      | _ => exact False.elim p2
    · exact False.elim p'⟩).run pins s0 σ H D I q⟩
theorem st_rev (h : XOk C N sc top X) {px apos cpos : Pos} (hN : N[i]? = some x) (hv : visB sc x = true) (hn : nmOk x = true) (hline : (apos.endLine == cpos.line) = true) (r : PSs X rest (tK C B W k)) :
    PSs X (.Expr (.Call (.Attribute (.Name x px) "reverse" apos) [] [] cpos) pos :: rest) (tK C B W (.rev i k)) := by
  refine (pss_cons (ps_expr (pe_bm0 PySem.F.plainAttrs_list PySem.F.slot_list_reverse PySem.F.type_list_reverse mt_reverse (nd_own h hN hv hn) rfl hline) rfl) r).imp fun D σ H ⟨Γ, F, s, p⟩ => ?_
  rw [evS, onL] at p
  split at p
  · rename_i l hl
    obtain ⟨a, xs, e1, fa, ba, ha, rl⟩ := s.sl i _ hl
    have e1' := join_of e1
    exact ⟨_, e1', tyL ha, a, xs, rfl, rfl, ha, tK.mk (s.write hl rfl e1' fa ba (.mkL fa ba upd_same rl.rev)) p⟩
  · exact False.elim p
theorem st_clr (h : XOk C N sc top X) {px apos cpos : Pos} (hN : N[i]? = some x) (hv : visB sc x = true) (hn : nmOk x = true) (hline : (apos.endLine == cpos.line) = true) (r : PSs X rest (tK C B W k)) :
    PSs X (.Expr (.Call (.Attribute (.Name x px) "clear" apos) [] [] cpos) pos :: rest) (tK C B W (.clr i k)) := by
  refine (pss_cons (ps_expr (pe_bm0 PySem.F.plainAttrs_list PySem.F.slot_list_clear PySem.F.type_list_clear mt_clear (nd_own h hN hv hn) rfl hline) rfl) r).imp fun D σ H ⟨Γ, F, s, p⟩ => ?_
  rw [evS, onL] at p
  split at p
  · rename_i l hl
    obtain ⟨a, xs, e1, fa, ba, ha, rl⟩ := s.sl i _ hl
    have e1' := join_of e1
    exact ⟨_, e1', tyL ha, a, xs, rfl, rfl, ha, tK.mk (s.write hl rfl e1' fa ba (.mkL (l := []) fa ba upd_same rfl)) p⟩
  · exact False.elim p
theorem st_ins (h : XOk C N sc top X) {px apos cpos : Pos} {ea : Expr} {ai : E} (hN : N[i]? = some x) (hv : visB sc x = true) (hn : nmOk x = true) (hline : (apos.endLine == cpos.line) = true) (oa : okx ea = true) (o : okx ex = true) (hi : ∀ Γ, PE X ea (tD C B Γ W (evE C.toMng ai Γ))) (he : ∀ Γ, PE X ex (tD C B Γ W (evE C.toMng e Γ))) (r : PSs X rest (tK C B W k)) :
    PSs X (.Expr (.Call (.Attribute (.Name x px) "insert" apos) [ea, ex] [] cpos) pos :: rest) (tK C B W (.ins i ai e k)) :=
  ⟨fun pins s0 σ H D I ⟨Γ, q⟩ => ((pss_cons (ps_expr (pe_bm PySem.F.plainAttrs_list PySem.F.slot_list_insert PySem.F.type_list_insert L2.mt_insert (nd_own h hN hv hn) (pa_cons (hi Γ) (pa_cons (he Γ) pa_nil (star_cons o)) (star_cons oa)) rfl (by rw [star_cons oa, star_cons o]; rfl) hline (star_cons oa) (star_any (es := [ex]) (by rw [List.all_cons, o]; rfl))) rfl) r).imp (t' := tS C B Γ W (evS C.toMng (.ins i ai e k) Γ)) fun D σ H ⟨F, s, p⟩ => by
    rw [evS, onL] at p
    split at p
    · rename_i l hl
      obtain ⟨a, xs, e1, fa, ba, ha, rl⟩ := s.sl i _ hl
      have e1' := join_of e1
      refine ⟨_, e1', tyL ha, F, s, PoS.of (f := fun x => Out.of Γ (evE C.toMng e Γ) fun y => match x with | .int n => if 0 ≤ n ∧ n.toNat ≤ l.length ∧ l.length < LINE then evS C.toMng k (Γ.set i (.ownL (l.take n.toNat ++ y :: l.drop n.toNat))) else .bad | _ => .bad) s p fun d v F' H' er e' s' rv p' => ⟨F', s', PoS.of (f := fun y => match d with | .int n => if 0 ≤ n ∧ n.toNat ≤ l.length ∧ l.length < LINE then evS C.toMng k (Γ.set i (.ownL (l.take n.toNat ++ y :: l.drop n.toNat))) else .bad | _ => .bad) s' p' fun d2 v2 F2 H2 er2 e2 s2 rv2 p2 => ?_⟩⟩
      cases d with
      | int n =>
        have p2 : PoS C B W F2 _ (if 0 ≤ n ∧ n.toNat ≤ l.length ∧ l.length < LINE then evS C.toMng k (Γ.set i (.ownL (l.take n.toNat ++ d2 :: l.drop n.toNat))) else .bad) := p2
        split at p2
        · rename_i hc
          obtain ⟨ha', fa'⟩ := (e'.trans e2).own ha fa
          have rl2 := RepL.le (e'.trans e2).le _ _ rl
          have hl2 : l.length < 16777216 := hc.2.2
          refine ⟨a, xs, n, v2, rfl, by rw [show v = V.int n from rv], ha', by rw [rl.len, line_eq]; exact hc.2.2, hc.1, by have := hc.1; have := hc.2.1; omega, ?_⟩
          refine tK.mk (s2.write hl rfl e1' fa' ba (.mkL fa' ba upd_same ?_)) p2
          rw [List.append_assoc]
          exact (rl2.take _).app ⟨v2, _, rfl, rv2, rl2.drop _⟩
        · exact False.elim p2
      | _ => exact False.elim p2
    · exact False.elim p).run pins s0 σ H D I q⟩
theorem onD_ok {B : Bs} {F : Wd} {H : Hp} {σ : L2.St} {Γ : Gam} {f : Bool → List D → List D → (List D → List D → Cell) → Out} {D1 : Ends} (s : SR C B F H σ Γ) (p : PoS C B W F D1 (onD Γ i f)) :
    ∃ k ks vs mk a kas xs, PoS C B W F D1 (f k ks vs mk) ∧ Γ[i]? = some (mk ks vs) ∧ (∀ ks vs, (mk ks vs).own = true) ∧ σ[i]? = some (some (.ref a)) ∧ F a = none ∧ B.h a = none ∧ H a = some (dictO C a k ks kas xs) ∧ DOk C F k ks kas xs vs ∧
      ∀ (F2 : Wd) (H2 : Hp) ks2 vs2 kas2 xs2, F2 a = none → H2 a = some (dictO C a k ks2 kas2 xs2) → DOk C F2 k ks2 kas2 xs2 vs2 → SlotOk C B F2 H2 (some (.ref a)) (mk ks2 vs2) := by
  unfold onD at p
  split at p
  · rename_i k ks vs hl
    obtain ⟨a, kas, xs, e1, fa, ba, ha, d⟩ := s.sl i _ hl
    exact ⟨k, ks, vs, .ownD k, a, kas, xs, p, hl, fun _ _ => rfl, join_of e1, fa, ba, ha, d, fun F2 H2 ks2 vs2 kas2 xs2 f2 h2 d2 => ⟨a, kas2, xs2, rfl, f2, ba, h2, d2⟩⟩
  · rename_i ks vs hl
    obtain ⟨a, kas, xs, e1, me, fa, ba, ha, d⟩ := s.sl i _ hl
    exact ⟨false, ks, vs, .io, a, kas, xs, p, hl, fun _ _ => rfl, join_of e1, fa, ba, ha, d, fun F2 H2 ks2 vs2 kas2 xs2 f2 h2 d2 => ⟨a, kas2, xs2, rfl, me, f2, ba, h2, d2⟩⟩
  · exact False.elim p
theorem st_dput (h : XOk C N sc top X) {px tp : Pos} {ei : Expr} {ai : E} (hN : N[i]? = some x) (hv : visB sc x = true) (hn : nmOk x = true) (oc : isComp ex = false) (o2 : okx ex = true) (he : ∀ Γ, PE X ex (tD C B Γ W (evE C.toMng e Γ))) (hi : ∀ Γ, PE X ei (tD C B Γ W (evE C.toMng ai Γ))) (r : PSs X rest (tK C B W k)) :
    PSs X (.Assign [.Subscript (.Name x px) ei tp] ex pos :: rest) (tK C B W (.dput i ai e k)) :=
  ⟨fun pins s0 σ H D I ⟨Γ, q⟩ => ((pss_cons (ps_put h (nd_own h hN hv hn) (hi Γ) (he Γ) (swaps_no oc o2)) r).imp (t' := tS C B Γ W (evS C.toMng (.dput i ai e k) Γ)) fun D σ H ⟨F, s, p⟩ => by
    rw [evS] at p
    refine ⟨F, s, PoS.of s p fun d v F' H' er e' s' rv p' => ?_⟩
    obtain ⟨kk, ks, vs, mk, a, kas, xs, p2, hl, hown, e1', fa, ba, ha, d1, mkOk⟩ := onD_ok s' p'
    refine ⟨_, e1', F', s', PoS.of s' p2 fun dk vk F2 H2 er2 e2 s2 rk p3 => ?_⟩
    obtain ⟨ha2, fa2⟩ := e2.own ha fa
    have d2 := d1.le e2.le
    unfold putOut at p3
    split at p3
    · rename_i hk
      refine ⟨a, F2, kk, ks, kas, xs, vs, dk, d, rfl, s2.fits, ha2, d2, rk, Rep.le e2.le _ _ rv, hk, fun hh d3 => ?_, fun hh => ?_⟩
      · rw [if_pos hh] at p3
        exact tK.mk (s2.write hl (hown _ _) e1' fa2 ba (mkOk _ _ _ _ _ _ fa2 upd_same d3)) p3
      · rw [if_neg (by rw [hh]; exact Bool.false_ne_true)] at p3
        split at p3
        · rename_i hlt
          exact ⟨by rw [line_eq]; exact hlt, fun b d3 => tK.mk (s2.write hl (hown _ _) e1' fa2 ba (mkOk _ _ _ _ _ _ fa2 upd_same d3)) p3⟩
        · exact False.elim p3
    · exact False.elim p3).run pins s0 σ H D I q⟩
theorem st_frz (h : XOk C N sc top X) (r : PSs X rest (tK C B W k)) : PSs X rest (tK C B W (.frz i k)) := ⟨fun pins s0 σ H D I ⟨Γ, F, s, p⟩ => by
  rw [evS, frzG] at p
  split at p
  · rename_i l hl
    obtain ⟨F', s', le⟩ := s.freeze hl rfl
    exact r.run pins s0 σ H D I (tK.mk s' (PoS.le p le))
  · rename_i kk ks vs hl
    cases kk with
    | true =>
      obtain ⟨F', s', le⟩ := s.freeze hl rfl
      exact r.run pins s0 σ H D I (tK.mk s' (PoS.le p le))
    | false =>
      obtain ⟨a, kas, xs, e1, fa, ba, ha, d⟩ := s.sl i _ hl
      have ha' : H a = some (.ext (NdOk X.prog X.w a ((G.D.nkL ks).zip (kas.zip xs)))) := by rw [h.eP, h.eW]; exact ha
      obtain ⟨q0, ⟨o, ho⟩, _⟩ := (show ObjOk X.prog X.w H s0.heap a (.ext _) from I.hok a _ ha')
      have new : ObjOk X.prog X.w (upd H a (dictO C a false ks kas xs (some o))) s0.heap a (dictO C a false ks kas xs (some o)) := by
        refine (show ObjOk X.prog X.w _ s0.heap a (.ext (NdP (some o) a (NdOk C.P C.w a ((G.D.nkL ks).zip (kas.zip xs))))) from ?_)
        rw [← h.eP, ← h.eW]
        exact ⟨⟨ho, q0⟩, ⟨o, ho⟩, fun h1 h2 q st => ⟨st _ q.1, NdOk.stay h1 h2 q.2 st⟩⟩
      have I2 : Inv X pins σ (upd H a (dictO C a false ks kas xs (some o))) s0 := d_write (h' := s0.heap) (t' := s0.toks) I (by rw [ha']; exact True.intro) (Heap.SameBut.refl _ _) ⟨o, ho⟩ new
      have s2 := s.freezeAs (d := .dict false ks vs) (u := dictO C a false ks kas xs (some o)) hl rfl (join_of e1) fa ba
        ⟨a, kas, xs, some o, rfl, updW_same, fun _ => rfl, d.1, d.2.1, d.2.2.1, fun z => RepL.le (le_upd fa) _ _ (d.2.2.2.1 z), RepL.le (le_upd fa) _ _ d.2.2.2.2⟩
      exact r.run pins s0 σ _ D I2 (tK.mk s2 (PoS.le p (le_upd fa)))
  · exact r.run pins s0 σ H D I (tK.mk s p)
  · exact False.elim p⟩
def withX (B : Bs) (a : Addr) (e : Ec) : Bs := { B with xa := a, xe := e }
theorem noExn_get {Γ : Gam} {i : Nat} {c : Cell} (h : (noExn Γ)[i]? = some c) : c = .dead ∨ (Γ[i]? = some c ∧ ∀ e, c ≠ .exn e) := by
  unfold noExn at h
  rw [List.getElem?_map] at h
  cases e : Γ[i]? with
  | none => rw [e] at h; cases h
  | some c0 =>
    rw [e] at h
    cases c0 <;> (cases Option.some.inj h; first | exact .inl rfl | exact .inr ⟨rfl, fun _ z => by cases z⟩)
theorem SR.nox {B : Bs} {F : Wd} {H : Hp} {σ : L2.St} {Γ : Gam} (s : SR C B F H σ Γ) {B2 : Bs} (hw : B2.w = B.w) (hh : B2.h = B.h) (hm : B2.me = B.me) (hi : B2.io = B.io) (hla : B2.la = B.la := by rfl) : SR C B2 F H σ (noExn Γ) := by
  refine ⟨s.fits, by rw [hw, hh]; exact s.ext, by unfold noExn; rw [List.length_map]; exact s.len, fun i c h => ?_, fun i j c c' a h1 h2 o1 o2 e1 e2 => ?_⟩
  · rcases noExn_get h with rfl | ⟨h', hne⟩
    · trivial
    · have q := s.sl i c h'
      cases c with
      | exn e => exact absurd rfl (hne e)
      | lent => have q : σ[i]?.join = some (.ref B.la) := q; show σ[i]?.join = some (.ref B2.la); rw [hla]; exact q
      | dead => trivial
      | val d => exact q
      | ownL l => obtain ⟨a, xs, h1, h2, h3, h4⟩ := q; exact ⟨a, xs, h1, h2, by rw [hh]; exact h3, h4⟩
      | ownD k ks vs => obtain ⟨a, kas, xs, h1, h2, h3, h4⟩ := q; exact ⟨a, kas, xs, h1, h2, by rw [hh]; exact h3, h4⟩
      | ownI c l => obtain ⟨a, xs, h1, h2, h3, h4, h5⟩ := q; exact ⟨a, xs, h1, by rw [hm]; exact h2, h3, by rw [hh]; exact h4, h5⟩
      | io ks vs => obtain ⟨a, kas, xs, h1, h2, h3, h4, h5⟩ := q; exact ⟨a, kas, xs, h1, by rw [hi]; exact h2, h3, by rw [hh]; exact h4, h5⟩
  · rcases noExn_get h1 with rfl | ⟨h1', _⟩
    · cases o1
    · rcases noExn_get h2 with rfl | ⟨h2', _⟩
      · cases o2
      · exact s.inj i j c c' a h1' h2' o1 o2 e1 e2
theorem SR.bnd {B : Bs} {F : Wd} {H : Hp} {σ : L2.St} {Γ : Gam} (s : SR C B F H σ Γ) {slot : Option Nat} {a : Addr} {e : Ec} : SR C (withX B a e) F H (setO slot a σ) (bindX slot e (noExn Γ)) := by
  have s1 : SR C (withX B a e) F H σ (noExn Γ) := s.nox rfl rfl rfl rfl
  cases slot with
  | none => exact s1
  | some i => exact s1.put (fun _ => ⟨rfl, rfl⟩) fun z => by cases z
theorem SR.enx {B : Bs} {F : Wd} {H : Hp} {σ : L2.St} {Γ : Gam} {a : Addr} {e : Ec} (s : SR C (withX B a e) F H σ Γ) (slot : Option Nat) : SR C B F H (match slot with | none => σ | some i => σ.set i none) (endX slot Γ) := by
  cases slot with
  | none => exact s.nox rfl rfl rfl rfl
  | some i =>
    have s1 : SR C (withX B a e) F H (σ.set i none) (Γ.set i .dead) := s.put (fun _ => trivial) fun z => by cases z
    exact s1.nox rfl rfl rfl rfl
theorem PoS.enx {B : Bs} {F0 : Wd} {D : Ends} {o : Out} {slot : Option Nat} {a : Addr} {e : Ec} (p : PoS C B W F0 D (o.mapG (endX slot))) : PoS C (withX B a e) W0 F0 (endD slot D) o := by
  cases o with
  | next Γ2 => exact fun σ F H s le => by have := p _ F H (s.enx slot) le; cases slot <;> exact this
  | brk Γ2 => exact fun σ F H s le => by have := p _ F H (s.enx slot) le; cases slot <;> exact this
  | cont Γ2 => exact fun σ F H s le => by have := p _ F H (s.enx slot) le; cases slot <;> exact this
  | ret d => exact fun v F H f x r => by have := p v F H f x r; cases slot <;> exact this
  | rio d ks vs => exact False.elim p
  | rown l => exact False.elim p
  | exc c Γ => exact False.elim p
  | bad => exact False.elim p
def tSu (C : Cfg) (B : Bs) (suite : Sm) : Addr → Value → Option Addr → TS := fun a cls d D σ H => ∃ n, cls = .ref (C.exa n) ∧ d = none ∧ C.hasX n = true ∧ tK C (withX B a (n, [])) W0 suite D σ H
def hdT (C : Cfg) (B : Bs) : Sm → List HdT
  | .hcons t slot suite r => (tyv C t, slot, tSu C B suite) :: hdT C B r
  | _ => []
def tokX (C : Cfg) : Ty → Bool
  | .x m => C.hasX m
  | _ => false
def tokH (C : Cfg) : Sm → Bool
  | .hcons t _ _ r => tokX C t && tokH C r
  | .hnil => true
  | _ => false
theorem evH_ok (w : Wld C T) {D : Ends} {e : Ec} (hx : C.hasX e.1 = true) : ∀ {hs : Sm} {F : Wd} {H : Hp} {σ : L2.St} {Γ : Gam}, tokH C hs = true → SR C B F H σ Γ → PoS C B W F D (evH C.toMng hs e Γ) → Ww C (fun cls d H => wGen C.K W D (hdT C B hs) cls d σ H) e H
  | .hnil, F, H, σ, Γ, ht, s, p => by
    rw [evH] at p
    exact p σ F H s (Le.refl _)
  | .hcons t slot suite r, F, H, σ, Γ, ht, s, p => by
    rw [evH] at p
    have ht : (tokX C t && tokH C r) = true := ht
    rw [Bool.and_eq_true] at ht
    have exm : ∀ b, C.hasX e.1 = true → C.sub (.x e.1) t = some b → PySem.W.exmOne C.K (.ref (C.exa e.1)) (tyv C t) = some b := fun b hx es => by
      cases t with
      | x m => exact w.exm _ m _ hx ht.1 es
      | _ => cases ht.1
    split at p
    · rename_i es
      split at p
      · rename_i he
        obtain ⟨n, vs⟩ := e
        have hv : vs = [] := by simpa using he
        subst hv
        intro hx
        rw [if_pos rfl]
        exact ⟨true, exm _ hx es, fun _ a ha => ⟨n, rfl, rfl, hx, _, F, s.bnd, p.enx⟩, fun z => by cases z⟩
      · exact False.elim p
    · rename_i es
      have ih := evH_ok w hx ht.2 s p
      intro hx
      have ih := ih hx
      by_cases hv : e.2 = []
      · rw [if_pos hv] at ih ⊢
        exact ⟨false, exm _ hx es, fun z => (by cases z), fun _ => ih⟩
      · rw [if_neg hv] at ih ⊢
        exact fun d hd => ⟨false, exm _ hx es, fun z => (by cases z), fun _ => ih d hd⟩
    · exact False.elim p
theorem st_try (w : Wld C T) (h : XOk C N sc top X) (hs : X.stack = X.env :: X.outer) (hf : X.env.frame = some X.env.locals) (tk : Takes X W) {sb hh : Sm} {lb : List Stmt} {h₀ : ExceptHandler} {hds : List ExceptHandler} (ht : tokH C hh = true)
    (hb : ∀ (W : WX) (pn : List (Addr × Obj)) (xe : Value → Shared → Prop), Takes (X.tr pn xe) W → PassesOwn (model X.prog X.w) X.A X.env xe → PSs (X.tr pn xe) lb (tK C B W sb))
    (hg : HdG X (h₀ :: hds) (hdT C B hh)) (r : PSs X rest (tK C B W k)) : PSs X (.Try lb (h₀ :: hds) [] [] pos :: rest) (tK C B W (.tryx sb hh k)) := by
  refine (pss_cons (ps_try_gen hs hf (by rw [h.eN]; exact h.nd) tk hb hg) r).imp fun D σ H ⟨Γ, F, s, p⟩ => ?_
  rw [evS] at p
  have p := PoS.seq p
  show tK C B (wGen X.K W { D with nx := tK C B W k D } (hdT C B hh)) sb { D with nx := tK C B W k D } σ H
  generalize ({ D with nx := tK C B W k D } : Ends) = D1 at p ⊢
  rw [h.eK]
  refine ⟨Γ, F, s, ?_⟩
  cases eo : evS C.toMng sb Γ with
  | exc e Γ1 =>
    rw [eo] at p
    have p : PoS C B W F D1 (evH C.toMng hh e Γ1) := p
    intro σ1 F1 H1 s1 le1 hx
    exact evH_ok w hx ht s1 (PoS.le p le1) hx
  | next Γ1 => rw [eo] at p; exact p
  | ret d => rw [eo] at p; exact p
  | rio d ks vs => rw [eo] at p; exact p
  | rown l => rw [eo] at p; exact p
  | brk Γ1 => rw [eo] at p; exact p
  | cont Γ1 => rw [eo] at p; exact p
  | bad => rw [eo] at p; exact p
theorem st_if {sa sb : Sm} {la lb : List Stmt} (hc : ∀ Γ, PT X c (tT C B Γ W ((evE C.toMng e Γ).bind truD))) (ha : PSs X la (tK C B W sa)) (hb : PSs X lb (tK C B W sb)) (r : PSs X rest (tK C B W k)) :
    PSs X (.If c la lb pos :: rest) (tK C B W (.ifs e sa sb k)) :=
  ⟨fun pins s0 σ H D I ⟨Γ, q⟩ => ((pss_cons (ps_if (hc Γ) ha hb) r).imp (t' := tS C B Γ W (evS C.toMng (.ifs e sa sb k) Γ)) fun D σ H ⟨F, s, p⟩ => ⟨F, s, by
    have p : PoS C B W F D (Out.of Γ ((evE C.toMng e Γ).bind truD) fun r => if r then (evS C.toMng sa Γ).andThen (evS C.toMng k) else (evS C.toMng sb Γ).andThen (evS C.toMng k)) := by
      rw [evS] at p
      cases he : evE C.toMng e Γ <;> rw [he] at p <;> exact p
    refine PoS.of s p fun b b' F' H' er e' s' rb p' => ?_
    obtain rfl : b' = b := rb
    cases b' with
    | true => exact tK.mk s' (PoS.seq p')
    | false => exact tK.mk s' (PoS.seq p')⟩).run pins s0 σ H D I q⟩
theorem st_for (h : XOk C N sc top X) (hcm : XCalm C X) (hp : PassesOwn (model X.prog X.w) X.A X.env X.xe) {tg kl : List Nat} {rng : Bool} {it : E} {sb : Sm} {etg eit : Expr} {lb : List Stmt}
    (hi : ∀ Γ, PI X etg eit (tI C B Γ W (if rng then (evL C.toMng it Γ).bind fun ds => walkD true (.tup ds) else (evE C.toMng it Γ).bind fun d => walkD false d))) (oit : okx eit = true) (hg : chkTg N top sc tg etg = true) (hb : PSs X lb (tK C B W sb)) (r : PSs X rest (tK C B W k)) :
    PSs X (.For etg eit lb [] pos :: rest) (tK C B W (.loop tg kl rng it sb k)) :=
  ⟨fun pins s0 σ H D I ⟨Γ, q⟩ => ((pss_cons (ps_for hp hcm.calm (hi Γ) (pg_tg h hcm hg) hb (folded_ok oit)) r).imp (t' := tS C B Γ W (evS C.toMng (.loop tg kl rng it sb k) Γ)) fun D σ H ⟨F, s, p⟩ => ⟨F, s, by
    rw [evS] at p
    refine PoS.of s p fun items J F1 H1 er e1 s1 rJ p1 => ?_
    have p1 := PoS.seq p1
    generalize ({ D with nx := tK C B W k D } : Ends) = D1 at p1 ⊢
    refine ⟨fun i m σ' H' => m = items.length - i ∧ i ≤ items.length ∧ ∃ F' Γ', SR C B F' H' σ' Γ' ∧ Le F1 F' ∧ PoS C B W F' D1 (forD tg kl (evS C.toMng sb) (items.drop i) Γ'),
      ⟨items.length, by simp, Nat.zero_le _, F1, Γ, s1, Le.refl _, by simpa using p1⟩, ?_⟩
    rintro i m σ' H' ⟨rfl, hi, F', Γ', s', le', q'⟩
    obtain ⟨hgo, hstop⟩ := rJ F' H' le' s'.fits
    by_cases hlt : i < items.length
    · have hd : items[i]? = some items[i] := List.getElem?_eq_getElem hlt
      obtain ⟨go, yl⟩ := hgo i _ hd
      rw [take_succ hd] at q'
      unfold forD at q'
      refine .inr ⟨go, fun σ2 H2 => ∃ F2 Γ2, SR C B F2 H2 σ2 Γ2 ∧ Le F1 F2 ∧ PoS C B W F2 D1 (forD tg kl (evS C.toMng sb) (items.drop (i + 1)) Γ2), fun σ2 H2 ⟨F2, Γ2, s2, le2, q2⟩ => ⟨items.length - (i + 1), by omega, rfl, hlt, F2, Γ2, s2, le2, q2⟩, fun x H2 hy => ?_⟩
      obtain ⟨F2, e2, f2, rx⟩ := yl x H2 hy
      have s2 := (s'.kill kl).ext_ e2 f2
      cases et : tgtD (killG Γ' kl) tg items[i] with
      | exc c =>
        exfalso
        unfold tgtD at et
        split at et
        · cases et
        · split at et
          · exact setAll_noexc _ _ _ et
          · cases et
      | bad => rw [et] at q'; exact False.elim q'
      | ok Γ3 =>
        rw [et] at q'
        have q' : PoS C B W F' D1 (match evS C.toMng sb Γ3 with
          | .next Γ2 => forD tg kl (evS C.toMng sb) (items.drop (i + 1)) Γ2
          | .cont Γ2 => forD tg kl (evS C.toMng sb) (items.drop (i + 1)) Γ2
          | .brk Γ2 => .next (killG Γ2 kl)
          | o => o) := q'
        refine gX_ok (vs := tg) s2 rx et (fun i hi => hi) fun σ3 s3 _ => tK.mk s3 ?_
        have le2 : Le F' F2 := e2.le
        cases eb : evS C.toMng sb Γ3 with
        | next Γ4 =>
          rw [eb] at q'
          exact fun σ4 F4 H4 s4 le4 => ⟨F4, Γ4, s4, (le'.trans le2).trans le4, PoS.le q' (le2.trans le4)⟩
        | cont Γ4 =>
          rw [eb] at q'
          exact fun σ4 F4 H4 s4 le4 => ⟨F4, Γ4, s4, (le'.trans le2).trans le4, PoS.le q' (le2.trans le4)⟩
        | brk Γ4 =>
          rw [eb] at q'
          exact fun σ4 F4 H4 s4 le4 => q' σ4 F4 H4 (s4.kill kl) (le2.trans le4)
        | ret d => rw [eb] at q'; exact q'
        | rio d ks vs => rw [eb] at q'; exact q'
        | rown l => rw [eb] at q'; exact q'
        | exc c Γ4 => rw [eb] at q'; exact fun σ4 F4 H4 s4 le4 => q' σ4 F4 H4 s4 (le2.trans le4)
        | bad => rw [eb] at q'; exact q'
    · have hi' : i = items.length := by omega
      subst hi'
      rw [List.drop_length] at q'
      unfold forD at q'
      exact .inl ⟨hstop _ (Nat.le_refl _), q' σ' F' H' (s'.kill kl) (Le.refl _)⟩⟩).run pins s0 σ H D I q⟩
def lendB (B : Bs) (a : Addr) (u : HO) : Bs := { B with h := upd B.h a u, la := a }
theorem SlotOk.toB {B B' : Bs} {F : Wd} {H : Hp} {v : Option V} (e1 : B'.me = B.me) (e2 : B'.io = B.io) (e3 : B'.xa = B.xa) (e4 : B'.xe = B.xe) : ∀ {c : Cell}, SlotOk C B F H v c → c ≠ .lent → (c.own = true → ∀ b, v = some (.ref b) → B.h b = none → B'.h b = none) → SlotOk C B' F H v c
  | .dead, _, _, _ => trivial
  | .val d, q, _, _ => q
  | .ownL l, q, _, n => by
    obtain ⟨b, xs, h, f, z, k, r⟩ := q
    exact ⟨b, xs, h, f, n rfl b h z, k, r⟩
  | .ownD _ _ _, q, _, n => by
    obtain ⟨b, kas, xs, h, f, z, k, r⟩ := q
    exact ⟨b, kas, xs, h, f, n rfl b h z, k, r⟩
  | .ownI c l, q, _, n => by
    obtain ⟨b, xs, h, me, f, z, k, r⟩ := q
    exact ⟨b, xs, h, by rw [e1]; exact me, f, n rfl b h z, k, r⟩
  | .io _ _, q, _, n => by
    obtain ⟨b, kas, xs, h, me, f, z, k, r⟩ := q
    exact ⟨b, kas, xs, h, by rw [e2]; exact me, f, n rfl b h z, k, r⟩
  | .exn _, q, _, _ => ⟨by rw [e3]; exact q.1, by rw [e4]; exact q.2⟩
  | .lent, _, n, _ => absurd rfl n
theorem noLent_at {Γ : Gam} (h : noLent Γ = true) {j : Nat} {c : Cell} (hj : Γ[j]? = some c) : c ≠ .lent := fun e => by
  subst e
  have := List.all_eq_true.mp h _ (List.mem_of_getElem? hj)
  cases this
theorem SR.lend {B : Bs} {F : Wd} {H : Hp} {σ : L2.St} {Γ : Gam} {i : Nat} {l : List D} (s : SR C B F H σ Γ) (hi : Γ[i]? = some (.ownL l)) (hn : noLent Γ = true) :
    ∃ a xs, σ[i]? = some (some (.ref a)) ∧ H a = some (.lst xs) ∧ RepL C F xs l ∧ F a = none ∧ B.h a = none ∧ SR C (lendB B a (.lst xs)) F H σ (Γ.set i .lent) := by
  obtain ⟨a, xs, e1, fa, ba, ha, rl⟩ := s.sl i _ hi
  have e1' := join_of e1
  have ap := s.apart hi rfl e1'
  refine ⟨a, xs, e1', ha, rl, fa, ba, ⟨s.fits, ⟨s.ext.le, fun b x hb => ?_, fun b u hu hm => ?_⟩, by rw [List.length_set]; exact s.len, fun j c' hj => ?_, fun j k c1 c2 b h1 h2 o1 o2 f1 f2 => ?_⟩⟩
  · rcases s.ext.new b x hb with h | h
    · exact .inl h
    · by_cases hba : b = a
      · subst hba; rw [fa] at hb; cases hb
      · exact .inr (by show upd B.h a (.lst xs) b = none; rw [upd_ne hba]; exact h)
  · have hu : upd B.h a (.lst xs) b = some u := hu
    by_cases hba : b = a
    · subst hba
      rw [upd_same] at hu
      cases hu
      exact ha
    · rw [upd_ne hba] at hu
      exact s.ext.keep b u hu hm
  · rcases set_get hj with ⟨rfl, rfl, hl⟩ | ⟨hne, hj⟩
    · have z : σ[i]?.join = some (V.ref a) := by rw [e1']; rfl
      exact z
    · refine SlotOk.toB (B := B) (B' := lendB B a (.lst xs)) rfl rfl rfl rfl (s.sl j c' hj) (noLent_at hn hj) fun o b hb hz => ?_
      show upd B.h a (.lst xs) b = none
      by_cases hba : b = a
      · subst hba
        exact absurd (join_of hb) (ap j c' (Ne.symm hne) hj o)
      · rw [upd_ne hba]; exact hz
  · rcases set_get h1 with ⟨rfl, rfl, hl⟩ | ⟨n1, g1⟩
    · cases o1
    · rcases set_get h2 with ⟨rfl, rfl, hl⟩ | ⟨n2, g2⟩
      · cases o2
      · exact s.inj j k c1 c2 b g1 g2 o1 o2 f1 f2
theorem SR.unlend {B : Bs} {F0 F : Wd} {H : Hp} {σ : L2.St} {Γ : Gam} {i : Nat} {l : List D} {a : Addr} {xs : List V} (s : SR C (lendB B a (.lst xs)) F H σ Γ) (hi : Γ[i]? = some .lent) (hn : noLent (Γ.set i (.ownL l)) = true) (hw : B.w a = none) (hh : B.h a = none) (rl : RepL C F0 xs l) (le : Le F0 F) :
    SR C B F H σ (Γ.set i (.ownL l)) := by
  have ei : σ[i]? = some (some (.ref a)) := join_of (s.sl i _ hi)
  have fa : F a = none := by
    cases q : F a with
    | none => rfl
    | some x =>
      rcases s.ext.new a x q with z | z
      · have z : B.w a = some x := z
        rw [hw] at z; cases z
      · have z : upd B.h a (.lst xs) a = none := z
        rw [upd_same] at z; cases z
  have ha : H a = some (.lst xs) := s.ext.keep a (.lst xs) (by show upd B.h a (.lst xs) a = _; rw [upd_same]) fun m z => by
    have z : B.w a = some (.c m) := z
    rw [hw] at z; cases z
  have far : ∀ (j : Nat) (c' : Cell) (b : Addr), Γ[j]? = some c' → c'.own = true → σ[j]? = some (some (.ref b)) → b ≠ a := fun j c' b hj o e z => by
    subst z
    have q := s.sl j c' hj
    rw [e] at q
    have up : upd B.h b (.lst xs) b = none → False := fun z => by rw [upd_same] at z; cases z
    cases c' with
    | ownL l => obtain ⟨b', xs', h, f, z, _⟩ := q; cases Option.some.inj h; exact up z
    | ownD k ks vs => obtain ⟨b', kas, xs', h, f, z, _⟩ := q; cases Option.some.inj h; exact up z
    | ownI c l => obtain ⟨b', xs', h, me, f, z, _⟩ := q; cases Option.some.inj h; exact up z
    | io ks vs => obtain ⟨b', kas, xs', h, me, f, z, _⟩ := q; cases Option.some.inj h; exact up z
    | _ => cases o
  refine ⟨s.fits, ⟨s.ext.le, fun b x hb => ?_, fun b u hu hm => ?_⟩, by rw [List.length_set]; exact s.len, fun j c' hj => ?_, fun j k c1 c2 b h1 h2 o1 o2 f1 f2 => ?_⟩
  · rcases s.ext.new b x hb with h | h
    · exact .inl h
    · have h : upd B.h a (.lst xs) b = none := h
      by_cases hba : b = a
      · subst hba; rw [upd_same] at h; cases h
      · rw [upd_ne hba] at h; exact .inr h
  · by_cases hba : b = a
    · subst hba; rw [hh] at hu; cases hu
    · exact s.ext.keep b u (by show upd B.h a (.lst xs) b = some u; rw [upd_ne hba]; exact hu) hm
  · rcases set_get hj with ⟨rfl, rfl, hl⟩ | ⟨hne, hj⟩
    · rw [ei]
      exact ⟨a, xs, rfl, fa, hh, ha, RepL.le le _ _ rl⟩
    · have hj' : (Γ.set i (.ownL l))[j]? = some c' := by rw [List.getElem?_set_ne hne]; exact hj
      refine SlotOk.toB (B := lendB B a (.lst xs)) (B' := B) rfl rfl rfl rfl (s.sl j c' hj) (noLent_at hn hj') fun o b hb hz => ?_
      have hz : upd B.h a (.lst xs) b = none := hz
      by_cases hba : b = a
      · subst hba; rw [upd_same] at hz; cases hz
      · rw [upd_ne hba] at hz; exact hz
  · rcases set_get h1 with ⟨rfl, rfl, hl⟩ | ⟨n1, g1⟩
    · rcases set_get h2 with ⟨rfl, rfl, hl2⟩ | ⟨n2, g2⟩
      · rfl
      · rw [ei] at f1
        cases Option.some.inj (Option.some.inj f1)
        exact absurd rfl (far k c2 a g2 o2 f2)
    · rcases set_get h2 with ⟨rfl, rfl, hl2⟩ | ⟨n2, g2⟩
      · rw [ei] at f2
        cases Option.some.inj (Option.some.inj f2)
        exact absurd rfl (far j c1 a g1 o1 f1)
      · exact s.inj j k c1 c2 b g1 g2 o1 o2 f1 f2
theorem st_loopB (h : XOk C N sc top X) (hcm : XCalm C X) (hp : PassesOwn (model X.prog X.w) X.A X.env X.xe) {tg kl : List Nat} {i : Nat} {sb : Sm} {etg : Expr} {px : Pos} {lb : List Stmt}
    (hN : N[i]? = some x) (hv : visB sc x = true) (hn : nmOk x = true) (hg : chkTg N top sc tg etg = true) (hb : ∀ a u, PSs X lb (tK C (lendB B a u) W sb)) (r : PSs X rest (tK C B W k)) :
    PSs X (.For etg (.Name x px) lb [] pos :: rest) (tK C B W (.loopB tg kl i sb k)) := by
  have hb' : PSs X lb (fun D σ H => ∃ a u, tK C (lendB B a u) W sb D σ H) := ⟨fun pins s σ H D I ⟨a, u, q⟩ => (hb a u).run pins s σ H D I q⟩
  refine (pss_cons (ps_for hp hcm.calm (pi_list (nd_own h hN hv hn)) (pg_tg h hcm hg) hb' (folded_ok rfl)) r).imp fun D σ H ⟨Γ, F, s, p⟩ => ?_
  rw [evS] at p
  split at p
  · rename_i l hl
    split at p
    · rename_i hno
      obtain ⟨a, xs, e1, ha, rl, fa, ba, s1⟩ := s.lend hl hno
      have wa : B.w a = none := by
        cases q : B.w a with
        | none => rfl
        | some y => have := s.ext.le a y q; rw [fa] at this; cases this
      have p1 : PoS C (lendB B a (.lst xs)) W F { D with nx := tK C B W k D } (forD tg kl (evS C.toMng sb) l (Γ.set i .lent)) := by
        cases eo : forD tg kl (evS C.toMng sb) l (Γ.set i .lent) with
        | next Γ2 =>
          rw [eo] at p
          dsimp only at p
          split at p
          · rename_i hl2
            split at p
            · rename_i hno2
              exact fun σ2 F2 H2 s2 le2 => ⟨_, F2, s2.unlend hl2 hno2 wa ba rl le2, PoS.le p le2⟩
            · exact False.elim p
          · exact False.elim p
        | _ => rw [eo] at p; exact False.elim p
      clear p
      show tFor _ _ _ { D with nx := tK C B W k D } σ H
      generalize ({ D with nx := tK C B W k D } : Ends) = D1 at p1 ⊢
      refine ⟨_, e1, a, rfl, ⟨xs, SqL.of ha⟩, ?_⟩
      refine ⟨fun i0 m σ' H' => m = l.length - i0 ∧ i0 ≤ l.length ∧ ∃ F' Γ', SR C (lendB B a (.lst xs)) F' H' σ' Γ' ∧ Le F F' ∧ PoS C (lendB B a (.lst xs)) W F' D1 (forD tg kl (evS C.toMng sb) (l.drop i0) Γ'),
        ⟨l.length, by simp, Nat.zero_le _, F, Γ.set i .lent, s1, Le.refl _, by simpa using p1⟩, ?_⟩
      rintro i0 m σ' H' ⟨rfl, hi, F', Γ', s', le', q'⟩
      have hH : H' a = some (.lst xs) := s'.ext.keep a (.lst xs) (by show upd B.h a (.lst xs) a = _; rw [upd_same]) fun m z => by
        have z : B.w a = some (.c m) := z
        rw [wa] at z; cases z
      by_cases hlt : i0 < l.length
      · have hd : l[i0]? = some l[i0] := List.getElem?_eq_getElem hlt
        obtain ⟨v, hv0, rv⟩ := rl.get hd
        rw [take_succ hd] at q'
        unfold forD at q'
        refine .inr ⟨⟨xs, v, SqL.of hH, hv0⟩, fun σ2 H2 => ∃ F2 Γ2, SR C (lendB B a (.lst xs)) F2 H2 σ2 Γ2 ∧ Le F F2 ∧ PoS C (lendB B a (.lst xs)) W F2 D1 (forD tg kl (evS C.toMng sb) (l.drop (i0 + 1)) Γ2), fun σ2 H2 ⟨F2, Γ2, s2, le2, q2⟩ => ⟨l.length - (i0 + 1), by omega, rfl, hlt, F2, Γ2, s2, le2, q2⟩, fun y H2 ⟨ey, hy⟩ => ?_⟩
        subst ey
        have := hy xs (SqL.of hH)
        rw [hv0] at this
        cases this
        have rx : Rep C F' v l[i0] := Rep.le le' _ _ rv
        have s2 := s'.kill kl
        cases et : tgtD (killG Γ' kl) tg l[i0] with
        | exc c =>
          exfalso
          unfold tgtD at et
          split at et
          · cases et
          · split at et
            · exact setAll_noexc _ _ _ et
            · cases et
        | bad => rw [et] at q'; exact False.elim q'
        | ok Γ3 =>
          rw [et] at q'
          have q' : PoS C (lendB B a (.lst xs)) W F' D1 (match evS C.toMng sb Γ3 with
            | .next Γ2 => forD tg kl (evS C.toMng sb) (l.drop (i0 + 1)) Γ2
            | .cont Γ2 => forD tg kl (evS C.toMng sb) (l.drop (i0 + 1)) Γ2
            | .brk Γ2 => .next (killG Γ2 kl)
            | o => o) := q'
          refine gX_ok (vs := tg) s2 rx et (fun i hi => hi) fun σ3 s3 _ => ⟨a, .lst xs, tK.mk s3 ?_⟩
          cases eb : evS C.toMng sb Γ3 with
          | next Γ4 =>
            rw [eb] at q'
            exact fun σ4 F4 H4 s4 le4 => ⟨F4, Γ4, s4, le'.trans le4, PoS.le q' le4⟩
          | cont Γ4 =>
            rw [eb] at q'
            exact fun σ4 F4 H4 s4 le4 => ⟨F4, Γ4, s4, le'.trans le4, PoS.le q' le4⟩
          | brk Γ4 =>
            rw [eb] at q'
            exact fun σ4 F4 H4 s4 le4 => q' σ4 F4 H4 (s4.kill kl) le4
          | ret d => rw [eb] at q'; exact q'
          | rio d ks vs => rw [eb] at q'; exact q'
          | rown l => rw [eb] at q'; exact q'
          | exc c Γ4 => rw [eb] at q'; exact fun σ4 F4 H4 s4 le4 => q' σ4 F4 H4 s4 le4
          | bad => rw [eb] at q'; exact q'
      · have hi' : i0 = l.length := by omega
        subst hi'
        rw [List.drop_length] at q'
        unfold forD at q'
        exact .inl ⟨⟨xs, SqL.of hH, by rw [rl.len]; exact Nat.le_refl _⟩, q' σ' F' H' (s'.kill kl) (Le.refl _)⟩
    · exact False.elim p
  · exact False.elim p
def tAnyW (C : Cfg) (B : Bs) (W : WX) (f : Gam → R Bool) : TT := fun σ H Q => ∃ Γ, tT C B Γ W (f Γ) σ H Q
theorem st_while (hp : PassesOwn (model X.prog X.w) X.A X.env X.xe) {kl : List Nat} {sb : Sm} {lb : List Stmt}
    (hc : ∀ Γ, PT X c (tT C B Γ W ((evE C.toMng e Γ).bind truD))) (hb : PSs X lb (tK C B W sb)) (r : PSs X rest (tK C B W k)) :
    PSs X (.While c lb [] pos :: rest) (tK C B W (.whl kl e sb k)) := by
  have hc' : PT X c (tAnyW C B W fun Γ => (evE C.toMng e Γ).bind truD) := ⟨fun pins s σ H Q I ⟨Γ, q⟩ => (hc Γ).run pins s σ H Q I q⟩
  refine (pss_cons (ps_while hp hc' hb) r).imp fun D σ H ⟨Γ, F, s, p⟩ => ?_
  rw [evS] at p
  have p := PoS.seq p
  show tWhile _ _ { D with nx := tK C B W k D } σ H
  generalize ({ D with nx := tK C B W k D } : Ends) = D1 at p ⊢
  refine ⟨fun m σ' H' => ∃ F' Γ', SR C B F' H' σ' Γ' ∧ PoS C B W F' D1 (whileD kl (fun Γ' => (evE C.toMng e Γ').bind truD) (evS C.toMng sb) m Γ'), ⟨FUEL, F, Γ, s, p⟩, ?_⟩
  rintro m σ' H' ⟨F', Γ', s', q'⟩
  cases m with
  | zero => exact False.elim q'
  | succ n =>
    unfold whileD at q'
    refine ⟨killG Γ' kl, F', s'.kill kl, PoS.of (s'.kill kl) q' fun b b' F2 H2 er e2 s2 rb p2 => ?_⟩
    obtain rfl : b' = b := rb
    cases b' with
    | false => exact p2 σ' F2 H2 s2 (Le.refl _)
    | true =>
      refine ⟨fun σ3 H3 => ∃ F3 Γ3, SR C B F3 H3 σ3 Γ3 ∧ PoS C B W F3 D1 (whileD kl (fun Γ' => (evE C.toMng e Γ').bind truD) (evS C.toMng sb) n Γ3), fun σ3 H3 q3 => ⟨n, Nat.lt_succ_self n, q3⟩, tK.mk s2 ?_⟩
      have p2 : PoS C B W F2 D1 (match evS C.toMng sb (killG Γ' kl) with
        | .next Γ2 => whileD kl (fun Γ' => (evE C.toMng e Γ').bind truD) (evS C.toMng sb) n Γ2
        | .cont Γ2 => whileD kl (fun Γ' => (evE C.toMng e Γ').bind truD) (evS C.toMng sb) n Γ2
        | .brk Γ2 => .next (killG Γ2 kl)
        | o => o) := p2
      cases eb : evS C.toMng sb (killG Γ' kl) with
      | next Γ4 => rw [eb] at p2; exact fun σ4 F4 H4 s4 le4 => ⟨F4, Γ4, s4, PoS.le p2 le4⟩
      | cont Γ4 => rw [eb] at p2; exact fun σ4 F4 H4 s4 le4 => ⟨F4, Γ4, s4, PoS.le p2 le4⟩
      | brk Γ4 => rw [eb] at p2; exact fun σ4 F4 H4 s4 le4 => p2 σ4 F4 H4 (s4.kill kl) le4
      | ret d => rw [eb] at p2; exact p2
      | rio d ks vs => rw [eb] at p2; exact p2
      | rown l => rw [eb] at p2; exact p2
      | exc c Γ4 => rw [eb] at p2; exact p2
      | bad => rw [eb] at p2; exact p2
theorem st_ret (he : ∀ Γ, PE X ex (tD C B Γ W (evE C.toMng e Γ))) : PSs X (.Return (some ex) pos :: rest) (tK C B W (.ret e)) :=
  ⟨fun pins s0 σ H D I ⟨Γ, q⟩ => ((pss_cons (ps_ret (he Γ)) pss_never).imp (t' := tS C B Γ W (evS C.toMng (.ret e) Γ)) fun D σ H ⟨F, s, p⟩ => ⟨F, s, PoS.of s p fun d v F' H' er e' s' rv p' => p' v F' H' s'.fits s'.ext rv⟩).run pins s0 σ H D I q⟩
theorem st_retO (h : XOk C N sc top X) {py : Pos} (hN : N[i]? = some y) (hv : visB sc y = true) (hn : nmOk y = true) : PSs X (.Return (some (.Name y py)) pos :: rest) (tK C B W (.retO i)) :=
  (pss_cons (ps_ret (nd_own h hN hv hn)) pss_never).imp fun D σ H ⟨Γ, F, s, p⟩ => by
    rw [evS] at p
    split at p
    · rename_i l hl
      obtain ⟨a, xs, e1, fa, ba, ha, rl⟩ := s.sl i _ hl
      exact ⟨.ref a, join_of e1, p a xs F H s.fits s.ext fa ba ha rl⟩
    · exact False.elim p
theorem st_retN : PSs X (.Return none pos :: rest) (tK C B W .retN) :=
  (pss_cons ps_retN pss_never).imp fun D σ H ⟨Γ, F, s, p⟩ => by rw [evS] at p; exact p .non F H s.fits s.ext rfl
theorem st_nil : PSs X [] (tK C B W .nil) := pss_nil.imp fun D σ H ⟨Γ, F, s, p⟩ => p σ F H s (Le.refl _)
theorem st_brk : PSs X (.Break pos :: rest) (tK C B W .brk) := (pss_cons ps_break pss_never).imp fun D σ H ⟨Γ, F, s, p⟩ => p σ F H s (Le.refl _)
theorem st_cont : PSs X (.Continue pos :: rest) (tK C B W .cont) := (pss_cons ps_continue pss_never).imp fun D σ H ⟨Γ, F, s, p⟩ => p σ F H s (Le.refl _)
theorem st_pass (r : PSs X rest (tK C B W k)) : PSs X (.Pass pos :: rest) (tK C B W (.pass k)) := (pss_cons ps_pass r).imp fun D σ H ⟨Γ, F, s, p⟩ => tK.mk s p
theorem st_drop (he : ∀ Γ, PE X ex (tD C B Γ W (evE C.toMng e Γ))) (oc : isComp ex = false) (o : okx ex = true) (r : PSs X rest (tK C B W k)) : PSs X (.Expr ex pos :: rest) (tK C B W (.drop e k)) :=
  ⟨fun pins s0 σ H D I ⟨Γ, q⟩ => ((pss_cons (ps_expr (he Γ) (swaps_no oc o)) r).imp (t' := tS C B Γ W (evS C.toMng (.drop e k) Γ)) fun D σ H ⟨F, s, p⟩ => ⟨F, s, PoS.of s p fun d v F' H' er e' s' rv p' => tK.mk s' p'⟩).run pins s0 σ H D I q⟩
theorem putF_new {f : Str} {v : V} : ∀ {fs : List (Str × V)}, fs.lookup f = none → putF f v fs = fs ++ [(f, v)]
  | [], _ => rfl
  | (g, u) :: r, h => by
    rw [List.lookup_cons] at h
    cases e : f == g with
    | true => rw [e] at h; cases h
    | false =>
      rw [e] at h
      have hne : ¬ g = f := fun z => by rw [z] at e; simp at e
      show (if g = f then (g, v) :: r else (g, u) :: putF f v r) = _
      rw [if_neg hne, putF_new h]
      rfl
theorem zip_snoc {α β : Type} : ∀ {l : List α} {m : List β} {a : α} {b : β}, l.length = m.length → (l ++ [a]).zip (m ++ [b]) = l.zip m ++ [(a, b)]
  | [], [], _, _, _ => rfl
  | x :: l, y :: m, a, b, h => by
    rw [List.cons_append, List.cons_append, List.zip_cons_cons, List.zip_cons_cons, zip_snoc (by simpa using h)]
    rfl
  | [], _ :: _, _, _, h => by simp at h
  | _ :: _, [], _, _, h => by simp at h
theorem lookup_none_of {ks : List Str} {vs : List V} {f : Str} (h : f ∉ ks) : (ks.zip vs).lookup f = none := by
  induction ks generalizing vs with
  | nil => rfl
  | cons k r ih =>
    cases vs with
    | nil => rfl
    | cons v t =>
      rw [List.mem_cons, not_or] at h
      rw [List.zip_cons_cons, List.lookup_cons, beq_eq_false_iff_ne.mpr h.1]
      exact ih h.2
theorem st_setfR {nm : Nat} (w : Wld C T) {rr : Gam → R D} {sm : Sm}
    (hsm : ∀ Γ, evS C.toMng sm Γ = Out.of Γ (rr Γ) fun d => match Γ[i]? with | some (.ownI c l) => if (C.flds c)[l.length]? = some nm then evS C.toMng k (Γ.set i (.ownI c (l ++ [d]))) else .bad | _ => .bad) (h : XOk C N sc top X) {f : Str} {px pf : Pos} (hf : T.fname nm = f) (hN : N[i]? = some x) (hv : visB sc x = true) (hn : nmOk x = true) (hsw : ∀ tg l, swapsWith ex (some tg) l X.env = pure false) (he : ∀ Γ, PE X ex (tD C B Γ W (rr Γ))) (r : PSs X rest (tK C B W k)) :
    PSs X (.Assign [.Attribute (.Name x px) f pf] ex pos :: rest) (tK C B W sm) :=
  ⟨fun pins s0 σ H Dd I ⟨Γ, q⟩ => ((pss_cons (ps_fld (nd_own h hN hv hn) (he Γ) (hsw _ _)) r).imp (t' := tS C B Γ W (evS C.toMng sm Γ)) fun Dd σ H ⟨F, s, p⟩ => ⟨F, s, by
    rw [hsm] at p
    refine PoS.of (f := fun d => match Γ[i]? with | some (.ownI c l) => if (C.flds c)[l.length]? = some nm then evS C.toMng k (Γ.set i (.ownI c (l ++ [d]))) else .bad | _ => .bad) s p fun d v F' H' er e' s' rv p' => ?_
    split at p'
    · rename_i c l hl
      split at p'
      · rename_i hm
        obtain ⟨a, xs, e1, me, fa, ba, ⟨dx, ha⟩, rl, hc⟩ := s'.sl i _ hl
        have e1' := join_of e1
        have q := w.cls c hc
        have hname : C.fnm nm = f := by rw [w.fnm, hf]
        have hlt : l.length < (C.flds c).length := (List.getElem?_eq_some_iff.mp hm).1
        have hlen : (((C.flds c).take l.length).map C.fnm).length = xs.length := by rw [List.length_map, List.length_take, rl.len]; omega
        have htk : (C.flds c).take (l.length + 1) = (C.flds c).take l.length ++ [nm] := by
          rw [List.take_add_one, hm]; rfl
        have hnin : f ∉ ((C.flds c).take l.length).map C.fnm := by
          have nd := q.nd
          rw [← List.take_append_drop l.length (C.flds c), List.map_append] at nd
          intro hin
          have hd : f ∈ ((C.flds c).drop l.length).map C.fnm := by
            rw [← hname]
            refine List.mem_map_of_mem ?_
            rw [List.mem_drop_iff_getElem]
            obtain ⟨h1, h2⟩ := List.getElem?_eq_some_iff.mp hm
            exact ⟨0, by omega, by simpa using h2⟩
          exact (List.nodup_append.mp nd).2.2 f hin f hd rfl
        refine ⟨_, e1', a, C.cls c, dx, _, rfl, ha, by rw [h.eK]; exact q.cl, by rw [h.eK, ← hname]; exact q.na nm (List.mem_of_getElem? hm), ?_, ?_⟩
        · unfold fieldsN
          rw [List.length_zip, hlen, Nat.min_self, rl.len]
          have : (C.flds c).length ≤ 100 := w.few c
          omega
        · refine tK.mk (s'.write (c' := .ownI c (l ++ [d])) hl rfl e1' fa ba ⟨a, xs ++ [v], rfl, me, fa, ba, ⟨dx, ?_⟩, rl.snoc rv, hc⟩) p'
          unfold fieldsN
          rw [upd_same, putF_new (lookup_none_of hnin), List.length_append, List.length_singleton, htk, List.map_append]
          show some (HO.ins _ _ _) = some (HO.ins _ _ _)
          rw [List.map_singleton, hname, zip_snoc hlen]
      · exact False.elim p'
    · exact False.elim p'⟩).run pins s0 σ H Dd I q⟩
theorem st_setf (w : Wld C T) (h : XOk C N sc top X) {nm : Nat} {f : Str} {px pf : Pos} (hf : T.fname nm = f) (hN : N[i]? = some x) (hv : visB sc x = true) (hn : nmOk x = true) (oc : isComp ex = false) (o2 : okx ex = true) (he : ∀ Γ, PE X ex (tD C B Γ W (evE C.toMng e Γ))) (r : PSs X rest (tK C B W k)) :
    PSs X (.Assign [.Attribute (.Name x px) f pf] ex pos :: rest) (tK C B W (.setf i nm e k)) :=
  st_setfR w (fun Γ => by first | (rw [evS]; done) | (rw [evS]; congr 1)) h hf hN hv hn (fun _ _ => swaps_no oc o2) he r
def setcR (i m : Nat) (Γ : Gam) : R D := match Γ[i]? with
  | some (.ownI _ l) => .ok (.cache (.tup l))
  | _ => .bad
theorem nd_cache (h : XOk C N sc top X) (hc : ∀ F H a d, H a = some (dictO C a false [] [] []) → C.cok F H a d) {r : R D} (hr : r = .bad ∨ ∃ d, r = .ok (.cache d)) : PE X (.Dict [] [] pos) (tD C B Γ W r) :=
  (pe_newD h false).imp fun σ H Q ⟨F, s, p⟩ => fun t ht => by
    rcases hr with hr | ⟨d, hr⟩
    · rw [hr] at p; exact False.elim p
    · rw [hr] at p
      have e1 := (Ext.refl F H).fresh (u := dictO C t false [] [] []) ht
      have f1 := s.fits.fresh (u := dictO C t false [] [] []) ht
      have hF := s.fits.free ht
      have fit : Fits C (updW F t (.c d)) (upd H t (dictO C t false [] [] [])) := fun b x hb => by
        by_cases e : b = t
        · subst e
          rw [updW_same] at hb
          cases hb
          exact ⟨hc _ _ _ _ upd_same, _, upd_same⟩
        · rw [updW_ne e] at hb
          have q := f1 b x hb
          cases x with
          | o u => exact q
          | c m =>
            obtain ⟨q1, q2⟩ := q
            exact ⟨C.cok_mono (fun b2 x2 h2 => by
              by_cases e2 : b2 = t
              · subst e2; rw [hF] at h2; cases h2
              · rw [updW_ne e2]; exact h2) rfl q1, q2⟩
      have ext : Ext F H (updW F t (.c d)) (upd H t (dictO C t false [] [] [])) := by
        refine ⟨fun b x hb => ?_, fun b x hb => ?_, e1.keep⟩
        · by_cases e : b = t
          · subst e; rw [hF] at hb; cases hb
          · rw [updW_ne e]; exact hb
        · by_cases e : b = t
          · subst e; exact .inr ht
          · rw [updW_ne e] at hb; exact .inl hb
      exact p (.ref t) _ _ ext fit ⟨t, rfl, updW_same⟩
theorem st_setc (w : Wld C T) (h : XOk C N sc top X) (hc : ∀ F H a d, H a = some (dictO C a false [] [] []) → C.cok F H a d) {nm m : Nat} {f : Str} {px pf p2 : Pos} (hf : T.fname nm = f) (hN : N[i]? = some x) (hv : visB sc x = true) (hn : nmOk x = true) (r : PSs X rest (tK C B W k)) :
    PSs X (.Assign [.Attribute (.Name x px) f pf] (.Dict [] [] p2) pos :: rest) (tK C B W (.setc i nm m k)) :=
  st_setfR (rr := setcR i m) w (fun Γ => by
    rw [evS]
    unfold setcR
    cases hi : Γ[i]? with
    | none => rfl
    | some c0 =>
      cases c0 with
      | ownI c l => rfl
      | _ => rfl) h hf hN hv hn (fun _ _ => rfl) (fun Γ => nd_cache h hc (by
    unfold setcR
    split
    · exact .inr ⟨_, rfl⟩
    · exact .inl rfl)) r
theorem st_raise (h : XOk C N sc top X) (hcm : XCalm C X) {n : Nat} (hx : C.hasX n = true) (tk : Takes X W) (he : PMk X ex (fun _ H Q => Q (.ref (C.exa n)) none H)) : PSs X (.Raise (some ex) none pos :: rest) (tK C B W (.raise n)) :=
  (pss_cons (ps_raise hcm.calm tk he) pss_never).imp fun D σ H ⟨Γ, F, s, p⟩ => by rw [evS] at p; exact (p σ F H s (Le.refl _) hx : if ([] : List Int) = [] then _ else _)
end
end G
namespace G
open PySem L2
def ExtA (F : Wd) (H : Hp) (a : Addr) (F' : Wd) (H' : Hp) : Prop := Ext F (fun b => if b = a then none else H b) F' H'
section
variable {C : Cfg} {T : Tb} {N : List Str} {sc : Scope} {top : Bool} {X : Cx} {B : Bs} {Γ : Gam} {W : WX} {pos p : Pos} {ex : Expr} {es es1 es2 : List Expr} {rs r1 r2 : R (List D)} {F F' : Wd} {H H' : Hp} {σ : L2.St} {a : Addr} {rest : List Stmt} {k : Sm} {x y : Str} {i j n : Nat} {sem : List D → R D}
theorem ExtA.own (e : ExtA F H a F' H') {b : Addr} {u : HO} (hb : b ≠ a) (h : H b = some u) (f : F b = none) : H' b = some u ∧ F' b = none :=
  Ext.own e (by show (if b = a then none else H b) = some u; rw [if_neg hb]; exact h) f
theorem SlotOk.extA (e : ExtA F H a F' H') {v : Option V} : ∀ {c : Cell}, SlotOk C B F H v c → (c.own = true → v ≠ some (.ref a)) → SlotOk C B F' H' v c
  | .dead, _, _ => trivial
  | .val d, q, _ => by
    obtain ⟨u, h, r⟩ := q
    exact ⟨u, h, Rep.le e.le d u r⟩
  | .ownL l, q, n => by
    obtain ⟨b, xs, h, f, z, k, r⟩ := q
    obtain ⟨k', f'⟩ := e.own (fun hb => n rfl (by rw [h, hb])) k f
    exact ⟨b, xs, h, f', z, k', RepL.le e.le _ _ r⟩
  | .ownD _ _ _, q, n => by
    obtain ⟨b, kas, xs, h, f, z, k, r⟩ := q
    obtain ⟨k', f'⟩ := e.own (fun hb => n rfl (by rw [h, hb])) k f
    exact ⟨b, kas, xs, h, f', z, k', r.le e.le⟩
  | .ownI c l, q, n => by
    obtain ⟨b, xs, h, me, f, z, ⟨dx, k⟩, r, hc⟩ := q
    obtain ⟨k', f'⟩ := e.own (fun hb => n rfl (by rw [h, hb])) k f
    exact ⟨b, xs, h, me, f', z, ⟨dx, k'⟩, RepL.le e.le _ _ r, hc⟩
  | .io _ _, q, n => by
    obtain ⟨b, kas, xs, h, me, f, z, k, r⟩ := q
    obtain ⟨k', f'⟩ := e.own (fun hb => n rfl (by rw [h, hb])) k f
    exact ⟨b, kas, xs, h, me, f', z, k', r.le e.le⟩
  | .exn _, q, _ => q
  | .lent, q, _ => q
theorem SR.ioCall (s : SR C B F H σ Γ) {c c' : Cell} (h : Γ[j]? = some c) (o : c.own = true) (e : σ[j]? = some (some (.ref a))) (fa : F a = none) (ba : B.h a = none) (x : ExtA F H a F' H') (f' : Fits C F' H') (q : SlotOk C B F' H' (some (.ref a)) c') : SR C B F' H' σ (Γ.set j c') := by
  have ap := s.apart h o e
  refine ⟨f', ⟨fun b y hb => x.le b y (s.ext.le b y hb), fun b y hb => ?_, fun b u hb nm => ?_⟩, by rw [List.length_set]; exact s.len, fun i c2 hj => ?_, fun i k c1 c2 b h1 h2 o1 o2 e1 e2 => ?_⟩
  · rcases x.new b y hb with h1 | h1
    · exact s.ext.new b y h1
    · by_cases hba : b = a
      · subst hba; exact .inr ba
      · have h1 : (if b = a then none else H b) = none := h1
        rw [if_neg hba] at h1
        exact .inr (s.base h1)
  · have hba : b ≠ a := fun z => by rw [z, ba] at hb; cases hb
    have h1 := s.ext.keep b u hb nm
    refine x.keep b u (by show (if b = a then none else H b) = some u; rw [if_neg hba]; exact h1) fun m z => ?_
    rcases s.ext.new b _ z with z1 | z1
    · exact nm m z1
    · rw [hb] at z1; cases z1
  · rcases set_get hj with ⟨rfl, rfl, hl⟩ | ⟨hne, hj⟩
    · rw [e]; exact q
    · exact (s.sl i c2 hj).extA x fun o2 e2 => ap i c2 (Ne.symm hne) hj o2 (join_of e2)
  · rcases set_get h1 with ⟨rfl, rfl, hl⟩ | ⟨n1, g1⟩
    · rcases set_get h2 with ⟨rfl, rfl, _⟩ | ⟨n2, g2⟩
      · rfl
      · rw [e] at e1
        cases Option.some.inj (Option.some.inj e1)
        exact absurd e2 (ap k c2 (Ne.symm n2) g2 o2)
    · rcases set_get h2 with ⟨rfl, rfl, hl⟩ | ⟨n2, g2⟩
      · rw [e] at e2
        cases Option.some.inj (Option.some.inj e2)
        exact absurd e1 (ap i c1 (Ne.symm n1) g1 o1)
      · exact s.inj i k c1 c2 b g1 g2 o1 o2 e1 e2
def tIO (C : Cfg) (B : Bs) (Γ : Gam) (j : Nat) (r1 r2 : R (List D)) (sem : List D → R D) : TE := fun σ H Q => ∃ F a ks vs kas xs ds es d ks' vs', SR C B F H σ Γ ∧ σ[j]? = some (some (.ref a)) ∧ F a = none ∧ H a = some (dictO C a false ks kas xs) ∧ DOk C F false ks kas xs vs ∧ r1 = .ok ds ∧ r2 = .ok es ∧
  sem (ds ++ .dict false ks vs :: es) = .ok (.tup [d, .dict false ks' vs']) ∧
  ∀ v F' H' kas' xs', ExtA F H a F' H' → Fits C F' H' → F' a = none → H' a = some (dictO C a false ks' kas' xs') → DOk C F' false ks' kas' xs' vs' → Rep C F' v d → Q v H'
def IoOk (C : Cfg) (args : Scope → Expr → Option (List Expr × Expr × List Expr)) (sem : List D → R D) : Prop :=
  ∀ (N : List Str) (sc : Scope) (top : Bool) (X : Cx), XOk C N sc top X → XCalm C X → ∀ (W : WX), Takes X W → ∀ (B : Bs) (Γ : Gam) (j : Nat) (x : Str) (px : Pos) (ex : Expr) (es1 es2 : List Expr) (r1 r2 : R (List D)),
    args sc ex = some (es1, .Name x px, es2) → N[j]? = some x → visB sc x = true → nmOk x = true → PL C X B Γ W es1 r1 → PL C X B Γ W es2 r2 → PE X ex (tIO C B Γ j r1 r2 sem)
theorem st_callIO (h : XOk C N sc top X) {l m : E} {py : Pos} (hy : N[i]? = some y) (hl : locB top sc y = true) (o : okx ex = true) (oc : isComp ex = false) (he : ∀ Γ, PE X ex (tIO C B Γ j (evL C.toMng l Γ) (evL C.toMng m Γ) (C.fn n))) (r : PSs X rest (tK C B W k)) :
    PSs X (.Assign [.Name y py] ex pos :: rest) (tK C B W (.callIO i n l j m k)) := by
  obtain ⟨l1, l2⟩ := loc_of h hl
  have nd : X.N.Nodup := by rw [h.eN]; exact h.nd
  have hy' : X.N[i]? = some y := by rw [h.eN]; exact hy
  exact ⟨fun pins s0 σ H D I ⟨Γ, q⟩ => ((pss_cons (ps_set nd hy' l1 (he Γ) (swaps_no oc o) l2) r).imp (t' := tS C B Γ W (evS C.toMng (.callIO i n l j m k) Γ)) fun D σ H ⟨F, s, p⟩ => by
    rw [evS] at p
    cases e1 : evL C.toMng l Γ with
    | exc c => rw [e1] at p; exact False.elim p
    | bad => rw [e1] at p; exact False.elim p
    | ok ds =>
      rw [e1] at p
      cases e2 : evL C.toMng m Γ with
      | exc c => rw [e2] at p; exact False.elim p
      | bad => rw [e2] at p; exact False.elim p
      | ok es =>
        rw [e2] at p
        have p : PoS C B W F D (onD Γ j fun b ks vs mk => if b = false ∧ i ≠ j then (match C.fn n (ds ++ .dict false ks vs :: es) with
          | .ok (.tup [d, .dict false ks' vs']) => evS C.toMng k ((Γ.set j (mk ks' vs')).set i (.val d))
          | _ => .bad) else .bad) := p
        obtain ⟨kk, ks, vs, mk, a, kas, xs, p2, hl, hown, e1', fa, ba, ha, d1, mkOk⟩ := onD_ok s p
        split at p2
        · rename_i hc
          obtain ⟨rfl, hij⟩ := hc
          split at p2
          · rename_i d ks' vs' hsem
            refine ⟨F, a, ks, vs, kas, xs, ds, es, d, ks', vs', s, e1', fa, ha, d1, rfl, rfl, hsem, fun v F' H' kas' xs' ea f' fa' ha' d' rv => ?_⟩
            have s2 := s.ioCall hl (hown _ _) e1' fa ba ea f' (mkOk F' H' ks' vs' kas' xs' fa' ha' d')
            exact tK.mk (s2.put_val rv) (PoS.le p2 ea.le)
          · exact False.elim p2
        · exact False.elim p2).run pins s0 σ H D I q⟩
theorem st_retIO {e : E} (he : ∀ Γ, PE X ex (tD C B Γ W (evE C.toMng e Γ))) : PSs X (.Return (some ex) pos :: rest) (tK C B W (.retIO e j)) :=
  ⟨fun pins s0 σ H D I ⟨Γ, q⟩ => ((pss_cons (ps_ret (he Γ)) pss_never).imp (t' := tS C B Γ W (evS C.toMng (.retIO e j) Γ)) fun D σ H ⟨F, s, p⟩ => ⟨F, s, by
    refine PoS.of (f := fun d => match Γ[j]? with | some (.io ks vs) => .rio d ks vs | _ => .bad) s p fun d v F' H' er e' s' rv p' => ?_
    split at p'
    · rename_i ks vs hl
      obtain ⟨a, kas, xs, e1, me, fa, ba, ha, d1⟩ := s'.sl j _ hl
      subst me
      exact p' v F' H' s'.fits s'.ext rv ⟨fa, ba, kas, xs, ha, d1⟩
    · exact False.elim p'⟩).run pins s0 σ H D I q⟩
end
end G
namespace L2
open PySem
theorem execs_app (env : Env) : ∀ a b : List Stmt, execs (a ++ b) env = (execs a env >>= fun f => match f with | .next => execs b env | f => pure f)
  | [], b => rfl
  | s :: a, b => by
    rw [List.cons_append, execs_cons, execs_cons, execs_app env a b, bind_assoc]
    refine congrArg _ (funext fun f => ?_)
    cases f <;> simp only [pure_bind]
section
variable {X : Cx} {a b : List Stmt} {t u : TS}
theorem pss_app (h1 : PSs X a t) (h2 : PSs X b u) : PSs X (a ++ b) (tSeq t u) := by
  refine ⟨fun pins s σ H D I h => ?_⟩
  rw [execs_app]
  refine wpAny_bind (thn (h1.run pins s σ H { D with nx := u D } I h) fun f s1 q => ?_)
  cases f with
  | next =>
    obtain ⟨σ', H', I', q⟩ := q
    exact h2.run pins s1 σ' H' D I' q
  | ret v => exact wpAny_pure q
  | brk => exact wpAny_pure q
  | cont => exact wpAny_pure q
end
end L2
namespace G
open PySem L2
def CokM (C : Cfg) (F : Wd) (H : Hp) (a : Addr) (m : D) : Prop :=
  ∃ ks kas xs vs, H a = some (dictO C a false ks kas xs) ∧ DOk C F false ks kas xs vs ∧ vs.all (D.isKey false) = true ∧ (D.nkL ks).Nodup ∧ ∀ x d, dGet ks vs x = some d → C.memo m x = some d
structure Memo (C : Cfg) : Prop where
  cok : ∀ F H a m, C.cok F H a m ↔ CokM C F H a m
  nk : ∀ m x y, x.nk = y.nk → C.memo m x = C.memo m y
  key : ∀ m x d, C.memo m x = some d → d.isKey false = true
  fin : ∀ m, ∃ L : List NestedKey, L.length < 16777216 ∧ ∀ x d, C.memo m x = some d → x.nk ∈ L
theorem nodup_le {α : Type} [DecidableEq α] : ∀ {l L : List α}, l.Nodup → (∀ x ∈ l, x ∈ L) → l.length ≤ L.length
  | [], _, _, _ => Nat.zero_le _
  | x :: l, L, n, h => by
    rw [List.nodup_cons] at n
    have hx := h x List.mem_cons_self
    have := nodup_le (l := l) (L := L.erase x) n.2 fun y hy => (List.mem_erase_of_ne (fun e => n.1 (by rw [← e]; exact hy))).mpr (h y (List.mem_cons_of_mem _ hy))
    have hl := List.length_erase_of_mem hx
    have := List.length_pos_of_mem hx
    rw [List.length_cons]
    omega
theorem dGet_put {y d : D} : ∀ {ks vs : List D} (x : D), ks.length = vs.length → dGet ks (dPut ks vs y d) x = if dHas ks y = true ∧ y.nk = x.nk then some d else dGet ks vs x
  | [], [], x, _ => by simp [dGet, dHas]
  | [], _ :: _, x, h => by cases h
  | _ :: _, [], x, h => by cases h
  | k :: ks, v :: vs, x, h => by
    have ih := dGet_put (ks := ks) (vs := vs) (y := y) (d := d) x (by simpa using h)
    unfold dPut dGet dHas
    rw [List.any_cons]
    unfold dHas at ih
    by_cases e : k.nk = x.nk
    · rw [if_pos e, if_pos e]
      by_cases e2 : k.nk = y.nk
      · rw [if_pos e2, if_pos ⟨by simp [e2], e2.symm.trans e⟩]
      · rw [if_neg e2, if_neg (fun z => e2 (e.trans z.2.symm))]
    · rw [if_neg e, if_neg e, ih]
      by_cases e3 : y.nk = x.nk
      · have e2 : k.nk ≠ y.nk := fun z => e (z.trans e3)
        simp [e2]
      · simp [e3]
theorem dGet_snoc {y d : D} : ∀ {ks vs : List D} (x : D), ks.length = vs.length → dGet (ks ++ [y]) (vs ++ [d]) x = match dGet ks vs x with | some v => some v | none => if y.nk = x.nk then some d else none
  | [], [], x, _ => by simp [dGet]
  | [], _ :: _, x, h => by cases h
  | _ :: _, [], x, h => by cases h
  | k :: ks, v :: vs, x, h => by
    have ih := dGet_snoc (y := y) (d := d) (ks := ks) (vs := vs) x (by simpa using h)
    simp only [List.cons_append]
    unfold dGet
    by_cases e : k.nk = x.nk
    · rw [if_pos e, if_pos e]
    · rw [if_neg e, if_neg e, ih]
theorem SR.cache {C : Cfg} {B : Bs} {F : Wd} {H : Hp} {σ : L2.St} {Γ : Gam} (s : SR C B F H σ Γ) {a : Addr} {m : D} {u : HO} (fa : F a = some (.c m)) (hc : C.cok F (upd H a u) a m) : SR C B F (upd H a u) σ Γ := by
  have hno : ∀ (c : Cell) (o : Option V), c.own = true → SlotOk C B F H o c → o ≠ some (.ref a) := fun c o ho q e => by
    subst e
    cases c with
    | dead => cases ho
    | val d => cases ho
    | ownL l =>
      obtain ⟨b, xs, hb, f, _⟩ := q
      cases Option.some.inj hb
      rw [fa] at f; cases f
    | ownD kk ks vs =>
      obtain ⟨b, kas, xs, hb, f, _⟩ := q
      cases Option.some.inj hb
      rw [fa] at f; cases f
    | ownI c l =>
      obtain ⟨b, xs, hb, _, f, _⟩ := q
      cases Option.some.inj hb
      rw [fa] at f; cases f
    | io ks vs =>
      obtain ⟨b, kas, xs, hb, _, f, _⟩ := q
      cases Option.some.inj hb
      rw [fa] at f; cases f
    | exn e => cases ho
    | lent => cases ho
  refine ⟨fun b x hb => ?_, ⟨s.ext.le, s.ext.new, fun b u' h n => ?_⟩, s.len, fun j c h => (s.sl j c h).upd fun o e => hno c _ o (s.sl j c h) e, s.inj⟩
  · have q := s.fits b x hb
    by_cases e : b = a
    · subst e
      rw [fa] at hb
      cases hb
      exact ⟨hc, _, upd_same⟩
    · cases x with
      | o v => show upd H a u b = _; rw [upd_ne e]; exact q
      | c m2 => exact ⟨C.cok_mono (fun _ _ h => h) (upd_ne e) q.1, by rw [upd_ne e]; exact q.2⟩
  · have hb : b ≠ a := fun z => by
      subst z
      rcases s.ext.new b _ fa with z | z
      · exact n m z
      · rw [h] at z; cases z
    rw [upd_ne hb]
    exact s.ext.keep b u' h n
end G
namespace G
open PySem L2
theorem dPut_all {p : D → Bool} {y d : D} (hd : p d = true) : ∀ {ks vs : List D}, vs.all p = true → (dPut ks vs y d).all p = true
  | [], _, _ => by unfold dPut; rfl
  | _ :: _, [], _ => by unfold dPut; rfl
  | k :: ks, v :: vs, h => by
    rw [List.all_cons, Bool.and_eq_true] at h
    unfold dPut
    rw [List.all_cons, Bool.and_eq_true]
    refine ⟨?_, dPut_all hd h.2⟩
    split
    · exact hd
    · exact h.1
def rNotInC (C : Cfg) : R2 := fun x y H Q => ∃ F dx a kas xs ks vs, y = .ref a ∧ Fits C F H ∧ Rep C F x dx ∧ H a = some (dictO C a false ks kas xs) ∧ DOk C F false ks kas xs vs ∧ dx.isKey false = true ∧ Q (.bl (!dHas ks dx)) H
def rIxC (C : Cfg) : R2 := fun x y H Q => ∃ F dx dy a kas xs ks vs, x = .ref a ∧ Fits C F H ∧ Rep C F y dx ∧ H a = some (dictO C a false ks kas xs) ∧ DOk C F false ks kas xs vs ∧ dx.isKey false = true ∧ dGet ks vs dx = some dy ∧ ∀ v, Rep C F v dy → Q v H
def tE (C : Cfg) (B : Bs) (W : WX) (e : E) : TE := fun σ H Q => ∃ Γ, tD C B Γ W (evE C.toMng e Γ) σ H Q
section
variable {C : Cfg} {T : Tb} {N : List Str} {sc : Scope} {top : Bool} {X : Cx} {B : Bs} {W : WX}
theorem op_notInC (h : XOk C N sc top X) : OpR X (compareOp .NotIn) (rNotInC C) := by
  intro pins s σ H x y v u Q I rx ry ⟨F, dx, a, kas, xs, ks, vs, ey, f, r1, e, d, hk, q⟩
  subst ey
  cases ry
  exact d2_notIn h.eP h.eW h.nine I f e d r1 hk rx fun s' I' => ⟨.bl _, H, I', rfl, q⟩
theorem ix_C (h : XOk C N sc top X) : IxR X (rIxC C) := by
  intro value slice pins s σ H x y v u Q I rx ry ⟨F, dx, dy, a, kas, xs, ks, vs, ex, f, r1, e, d, hk, hg, q⟩ hs
  subst ex
  cases rx
  exact PyProof.Rows.tail_any (dict_type h.eP h.eW I f e d).1 PySem.F.slot_dict_getitem.lookup (d2_get h.eP h.eW h.nine I f e d r1 hk ry hg fun w w' s' I' rw rw' => ⟨w, H, I', rw', q w rw⟩) hs
theorem pe_E {ex : Expr} {e : E} (h : ∀ Γ, PE X ex (tD C B Γ W (evE C.toMng e Γ))) : PE X ex (tE C B W e) := ⟨fun pins s σ H Q I ⟨Γ, q⟩ => (h Γ).run pins s σ H Q I q⟩
theorem kn_ex (w : Wld C T) (h : XOk C N sc top X) {nm i c : Nat} {f : Str} {l : List D} {m : D} (hx : T.fname nm = f) {F : Wd} {H : Hp} {σ : L2.St} {Γ : Gam} (s : SR C B F H σ Γ) (hΓ : Γ[i]? = some (.val (.obj c l))) (hd : fldD C.toMng nm (.obj c l) = .ok (.cache m)) :
    ∃ o Cl dx fs ca, σ[i]? = some (some (.ref o)) ∧ F o = some (.o (.ins Cl dx fs)) ∧ Cls X.K Cl ∧ NoAttr X.K Cl f ∧ fs.lookup f = some (.ref ca) ∧ F ca = some (.c m) := by
  obtain ⟨v, e1, r⟩ := s.val hΓ
  obtain ⟨o, Cl, dx, fs, u, ev, ho, h1, h2, h3, F', e', f', ru⟩ := wt_fld (Q := fun u H' => ∃ F', Ext F H F' H' ∧ Fits C F' H' ∧ Rep C F' u (.cache m)) (Ex := fun _ _ => False) w h hx s.fits (.inl r) (by rw [hd]; exact fun v F' H' e f r => ⟨F', e, f, r⟩)
  subst ev
  obtain ⟨ca, eu, fc⟩ := ru
  subst eu
  obtain ⟨o', dx', xs', eo, hc, fo, _⟩ := r
  cases eo
  have ho2 := s.fits o _ fo
  have ho3 : H o = some _ := ho2
  rw [ho] at ho3
  cases ho3
  refine ⟨o, _, _, _, ca, e1, fo, h1, h2, h3, ?_⟩
  rcases e'.new ca _ fc with z | z
  · exact z
  · obtain ⟨_, u, hu⟩ := f' ca _ fc
    rw [z] at hu; cases hu
end
end G
namespace G
open PySem L2
section
variable {C : Cfg} {T : Tb} {N : List Str} {sc : Scope} {top : Bool} {X : Cx} {B : Bs} {W : WX}
theorem kn_go {i : Nat} {f : Str} {o ca : Addr} {Cl : Addr} {dx : Addr} {fs : List (Str × V)} {F : Wd} {H : Hp} {σ : L2.St} {Q : VK} (e1 : σ[i]? = some (some (.ref o))) (fo : F o = some (.o (.ins Cl dx fs))) (h1 : Cls X.K Cl) (h2 : NoAttr X.K Cl f) (h3 : fs.lookup f = some (.ref ca)) (ft : Fits C F H) (q : Q (.ref ca) H) : tFld X.K (tVar i) f σ H Q :=
  ⟨_, e1, o, Cl, dx, fs, _, rfl, ft o _ fo, h1, h2, h3, q⟩
theorem CokM.put (mm : Memo C) {F : Wd} {H : Hp} {a : Addr} {m y d : D} {ks vs : List D} {kas : List Addr} {xs : List V} {v : V} (dk : DOk C F false ks kas xs vs) (va : vs.all (D.isKey false) = true) (nd : (D.nkL ks).Nodup) (hm : ∀ x d, dGet ks vs x = some d → C.memo m x = some d) (hd : C.memo m y = some d)
    (d3 : DOk C F false ks kas (dPut ks xs y v) (dPut ks vs y d)) (hH : H a = some (dictO C a false ks kas (dPut ks xs y v))) (hh : dHas ks y = true) : CokM C F H a m ∧ dGet ks (dPut ks vs y d) y = some d := by
  refine ⟨⟨ks, kas, _, _, hH, d3, dPut_all (mm.key _ _ _ hd) va, nd, fun x d' hx => ?_⟩, ?_⟩
  · rw [dGet_put x dk.2.2.1] at hx
    split at hx
    · rename_i hc
      cases hx
      rw [← mm.nk m y x hc.2]; exact hd
    · exact hm _ _ hx
  · rw [dGet_put y dk.2.2.1, if_pos ⟨hh, rfl⟩]
theorem has_mem {ks : List D} {y : D} : y.nk ∈ D.nkL ks → dHas ks y = true := by
  rw [nkL_map]
  intro h
  obtain ⟨k, hk, e⟩ := List.mem_map.mp h
  unfold dHas
  exact List.any_eq_true.mpr ⟨k, hk, by simp [e]⟩
theorem CokM.snoc (mm : Memo C) {F : Wd} {H : Hp} {a b : Addr} {m y d : D} {ks vs : List D} {kas : List Addr} {xs : List V} {v : V} (dk : DOk C F false ks kas xs vs) (va : vs.all (D.isKey false) = true) (nd : (D.nkL ks).Nodup) (hm : ∀ x d, dGet ks vs x = some d → C.memo m x = some d) (hd : C.memo m y = some d)
    (d3 : DOk C F false (ks ++ [y]) (kas ++ [b]) (xs ++ [v]) (vs ++ [d])) (hH : H a = some (dictO C a false (ks ++ [y]) (kas ++ [b]) (xs ++ [v]))) (hh : dHas ks y = false) : CokM C F H a m ∧ dGet (ks ++ [y]) (vs ++ [d]) y = some d := by
  have hn : dGet ks vs y = none := by
    have := dHas_get (ks := ks) (xs := vs) y dk.2.2.1
    rw [hh] at this
    cases e : dGet ks vs y with
    | none => rfl
    | some z => rw [e] at this; cases this
  refine ⟨⟨_, _, _, _, hH, d3, ?_, ?_, fun x d' hx => ?_⟩, ?_⟩
  · rw [List.all_append, va]
    simp [mm.key _ _ _ hd]
  · rw [nkL_app]
    refine List.nodup_append.mpr ⟨nd, by simp [D.nkL], fun p hp q hq e => ?_⟩
    subst e
    simp only [D.nkL, List.mem_singleton] at hq
    subst hq
    rw [has_mem hp] at hh
    cases hh
  · rw [dGet_snoc x dk.2.2.1] at hx
    split at hx
    · rename_i v' hv
      cases hx
      exact hm _ _ hv
    · split at hx
      · rename_i e
        cases hx
        rw [← mm.nk m y x e]; exact hd
      · cases hx
  · rw [dGet_snoc y dk.2.2.1, hn]
    simp
theorem CokM.small (mm : Memo C) {m : D} {ks vs : List D} (hl : ks.length = vs.length) (nd : (D.nkL ks).Nodup) (hm : ∀ x d, dGet ks vs x = some d → C.memo m x = some d) : ks.length < LINE := by
  obtain ⟨L, h1, h2⟩ := mm.fin m
  have : (D.nkL ks).length ≤ L.length := nodup_le nd fun n hn => by
    rw [nkL_map] at hn
    obtain ⟨k, hk, e⟩ := List.mem_map.mp hn
    have hs := dHas_get (ks := ks) (xs := vs) k hl
    have hd : dHas ks k = true := List.any_eq_true.mpr ⟨k, hk, by simp⟩
    rw [hd] at hs
    obtain ⟨d, hd⟩ := Option.isSome_iff_exists.mp hs
    rw [← e]
    exact h2 _ _ (hm _ _ hd)
  rw [nkL_len] at this
  have : LINE = 16777216 := rfl
  omega
end
end G
namespace G
open PySem L2
def tKp (C : Cfg) (B : Bs) (e : E) : TE := fun σ H Q => ∃ Γ F y, SR C B F H σ Γ ∧ evE C.toMng e Γ = .ok y ∧ ∀ v F' H', Ext F H F' H' → Fits C F' H' → Rep C F' v y → (∀ a m, F a = some (.c m) → H' a = H a) → Q v H'
section
variable {C : Cfg} {T : Tb} {N : List Str} {sc : Scope} {top : Bool} {X : Cx} {B : Bs} {W : WX}
theorem st_memo (w : Wld C T) (mm : Memo C) (h : XOk C N sc top X) {nm i : Nat} {f x : Str} {p1 p2 p3 p4 p5 p6 p7 p8 p9 p10 p11 p12 : Pos} {e1 e2 e3 ev : Expr} {xe ve : E} {sb : Sm} {lb : List Stmt}
    (hf : T.fname nm = f) (hN : N[i]? = some x) (hv : visB sc x = true) (hn : nmOk x = true)
    (hx1 : ∀ Γ, PE X e1 (tD C B Γ W (evE C.toMng xe Γ))) (hx2 : ∀ Γ, PE X e2 (tD C B Γ W (evE C.toMng xe Γ))) (hx3 : PE X e3 (tKp C B xe)) (o3 : okx e3 = true)
    (he : ∀ Γ, PE X ev (tD C B Γ W (evE C.toMng ve Γ))) (oc : isComp ev = false) (o2 : okx ev = true) (hb : PSs X lb (tK C B W sb)) :
    PSs X [.If (.Compare e1 [.NotIn] [.Attribute (.Name x p1) f p2] p3) (lb ++ [.Assign [.Subscript (.Attribute (.Name x p4) f p5) e2 p6] ev p7]) [] p8, .Return (some (.Subscript (.Attribute (.Name x p9) f p10) e3 p11)) p12] (tK C B W (.memo nm i xe sb ve)) := by
  have kn : ∀ q1 q2 : Pos, PE X (.Attribute (.Name x q1) f q2) (tFld X.K (tVar i) f) := fun q1 q2 => pe_fld (nd_own h hN hv hn) (attr_ok rfl)
  have key := pss_cons (ps_if (pos := p8) (pt_cmpR (pos := p3) (op_notInC h) (pe_E hx1) (kn p1 p2) rfl) (pss_app hb (pss_one (ps_put (pos := p7) (pos' := p6) h (kn p4 p5) (pe_E hx2) (pe_E he) (swaps_no oc o2)))) pss_nil)
    (pss_cons (rest := []) (ps_ret (pos := p12) (pe_ix (pos := p11) (ix_C h) (kn p9 p10) hx3 (plainIx_ok o3))) pss_never)
  refine key.imp fun D σ H ⟨Γ, F, s, p⟩ => ?_
  have fin : ∀ σ H, tFld X.K (tVar i) f σ H (fun x H1 => tKp C B xe σ H1 fun y H2 => rIxC C x y H2 D.rt) → tSeq (tRet (tOp (rIxC C) (tFld X.K (tVar i) f) (tKp C B xe))) tNever D σ H := fun _ _ q => q
  rw [evS] at p
  split at p
  · rename_i c l hΓ
    split at p
    · rename_i m hm
      refine ⟨Γ, F, s, PoS.of s p fun y vy F1 H1 er1 x1 s1 ry p1 => ?_⟩
      split at p1
      · rename_i hk
        split at p1
        · rename_i Γ2 hb2
          split at p1
          · rename_i c' l' y' d hΓ2 hy2 hd2
            split at p1
            · rename_i hcond
              split at p1
              · rename_i m' hm'
                split at p1
                · rename_i d' hmemo
                  split at p1
                  · rename_i hsame
                    rw [Bool.and_eq_true, G.D.same_iff, G.D.same_iff] at hsame
                    obtain ⟨hm2, hdd⟩ := hsame
                    subst hm2 hdd
                    obtain ⟨_, _, hnk, hky⟩ := hcond
                    obtain ⟨o, Cl, dx, fs, ca, k1, k2, k3, k4, k5, k6⟩ := kn_ex w h hf s1 hΓ hm
                    obtain ⟨ks, kas, xs, vs, ha, dk, va, nd, hall⟩ := (mm.cok _ _ _ _).1 (s1.fits ca _ k6).1
                    refine kn_go k1 k2 k3 k4 k5 s1.fits ⟨F1, y, ca, kas, xs, ks, vs, rfl, s1.fits, ry, ha, dk, hk, _, rfl, ?_⟩
                    cases hh : dHas ks y with
                    | true =>
                      rw [if_neg (by decide)]
                      refine fin σ H1 ?_
                      refine kn_go k1 k2 k3 k4 k5 s1.fits ⟨Γ, F1, y, s1, er1, fun v3 F3 H3 x3 f3 r3 kp => ?_⟩
                      have hs := dHas_get (ks := ks) (xs := vs) y dk.2.2.1
                      rw [hh] at hs
                      obtain ⟨z, hz⟩ := Option.isSome_iff_exists.mp hs
                      have hz2 := hall _ _ hz
                      rw [hmemo] at hz2
                      cases hz2
                      exact ⟨F3, y, _, ca, kas, xs, ks, vs, rfl, f3, r3, by rw [kp ca _ k6]; exact ha, dk.le x3.le, hk, hz, fun v rv => p1 v F3 H3 f3 (s1.ext_ x3 f3).ext rv⟩
                    | false =>
                      rw [if_pos (by decide)]
                      show tK C B W sb _ σ H1
                      refine ⟨Γ, F1, s1, ?_⟩
                      rw [hb2]
                      intro σ2 F2 H2 s2 le2
                      refine ⟨Γ2, F2, s2, ?_⟩
                      rw [hd2]
                      intro vd F3 H3 x3 f3 rd
                      have s3 := s2.ext_ x3 f3
                      clear ks kas xs vs ha dk va nd hall hh
                      obtain ⟨o, Cl, dx, fs, ca, k1, k2, k3, k4, k5, k6⟩ := kn_ex w h hf s3 hΓ2 hm'
                      refine kn_go k1 k2 k3 k4 k5 s3.fits ⟨Γ2, F3, s3, ?_⟩
                      rw [hy2]
                      intro vy2 F4 H4 x4 f4 ry2
                      have s4 := s3.ext_ x4 f4
                      have k6' := x4.le _ _ k6
                      obtain ⟨ks, kas, xs, vs, ha, dk, va, nd, hall⟩ := (mm.cok _ _ _ _).1 (s4.fits ca _ k6').1
                      have hmy := (mm.nk _ y' y hnk).trans hmemo
                      refine ⟨ca, F4, false, ks, kas, xs, vs, y', _, rfl, f4, ha, dk, ry2, Rep.le x4.le _ _ rd, hky, fun hh d3 => ?_, fun hh => ⟨by rw [line_eq]; exact CokM.small mm dk.2.2.1 nd hall, fun b d3 => ?_⟩⟩
                      · obtain ⟨ck, hg⟩ := CokM.put (H := upd H4 ca _) mm dk va nd hall hmy d3 upd_same hh
                        have s5 := s4.cache k6' ((mm.cok _ _ _ _).2 ck)
                        exact fin σ2 _ <| kn_go k1 (x4.le _ _ k2) k3 k4 k5 s5.fits ⟨Γ2, F4, y', s5, hy2, fun v6 F6 H6 x6 f6 r6 kp => ⟨F6, y', _, ca, kas, _, ks, _, rfl, f6, r6, by rw [kp ca _ k6']; exact upd_same, d3.le x6.le, hky, hg, fun v rv => p1 v F6 H6 f6 (s5.ext_ x6 f6).ext rv⟩⟩
                      · obtain ⟨ck, hg⟩ := CokM.snoc (H := upd H4 ca _) mm dk va nd hall hmy d3 upd_same hh
                        have s5 := s4.cache k6' ((mm.cok _ _ _ _).2 ck)
                        exact fin σ2 _ <| kn_go k1 (x4.le _ _ k2) k3 k4 k5 s5.fits ⟨Γ2, F4, y', s5, hy2, fun v6 F6 H6 x6 f6 r6 kp => ⟨F6, y', _, ca, _, _, _, _, rfl, f6, r6, by rw [kp ca _ k6']; exact upd_same, d3.le x6.le, hky, hg, fun v rv => p1 v F6 H6 f6 (s5.ext_ x6 f6).ext rv⟩⟩
                  · exact False.elim p1
                · exact False.elim p1
              · exact False.elim p1
            · exact False.elim p1
          · exact False.elim p1
        · exact False.elim p1
      · exact False.elim p1
    · exact False.elim p
  · exact False.elim p
end
end G
namespace G
open PySem L2
section
variable {C : Cfg} {N : List Str} {sc : Scope} {top : Bool} {X : Cx} {B : Bs}
theorem kp_pair (h : XOk C N sc top X) {i j : Nat} {x y : Str} {p1 p2 pos : Pos} {kt : Nat} (hi : N[i]? = some x) (hj : N[j]? = some y) (vx : visB sc x = true) (vy : visB sc y = true) (nx : nmOk x = true) (ny : nmOk y = true) :
    PE X (.Tuple [.Name x p1, .Name y p2] kt pos) (tKp C B (.tup (.cons (.var i) (.cons (.var j) .nil)))) := by
  refine (pe_tup (pa_cons (nd_own h hi vx nx) (pa_cons (nd_own h hj vy ny) pa_nil))).imp fun σ H Q ⟨Γ, F, z, s, ez, q⟩ => ?_
  have key : ∃ d1 d2, Γ[i]? = some (.val d1) ∧ Γ[j]? = some (.val d2) ∧ z = .tup [d1, d2] := by
    simp only [evE, evL] at ez
    cases e1 : Γ[i]? with
    | none => rw [e1] at ez; cases ez
    | some c1 =>
      rw [e1] at ez
      cases c1 with
      | val d1 =>
        cases e2 : Γ[j]? with
        | none => rw [e2] at ez; cases ez
        | some c2 =>
          rw [e2] at ez
          cases c2 with
          | val d2 =>
            refine ⟨d1, d2, rfl, rfl, ?_⟩
            simp [R.bind, LINE] at ez
            exact ez.symm
          | _ => cases ez
      | _ => cases ez
  obtain ⟨d1, d2, g1, g2, rfl⟩ := key
  obtain ⟨v1, e1, r1⟩ := s.val g1
  obtain ⟨v2, e2, r2⟩ := s.val g2
  refine ⟨v1, e1, v2, e2, by rw [sizeLine_eq]; show 2 ≤ _; decide, fun t ht => ?_⟩
  obtain ⟨e', f'⟩ := laid (u := .tup [v1, v2]) s.fits ht
  refine q (.ref t) _ _ e' f' ⟨t, _, rfl, updW_same, RepL.le (laid_le s.fits ht) _ _ ⟨v1, _, rfl, r1, v2, _, rfl, r2, rfl⟩⟩ fun a m ha => upd_ne fun ea => ?_
  subst ea
  obtain ⟨_, u, hu⟩ := s.fits _ _ ha
  rw [ht] at hu
  cases hu
end
end G
namespace G
open PySem L2
def ifP : Stmt → Option (Expr × List Stmt × List Stmt)
  | .If c a b _ => some (c, a, b)
  | _ => none
theorem ifP_eq {s : Stmt} {c : Expr} {a b : List Stmt} (h : ifP s = some (c, a, b)) : ∃ p, s = .If c a b p := by
  unfold ifP at h
  split at h
  · cases h; exact ⟨_, rfl⟩
  · cases h
def retP : Stmt → Option Expr
  | .Return (some e) _ => some e
  | _ => none
theorem retP_eq {s : Stmt} {e : Expr} (h : retP s = some e) : ∃ p, s = .Return (some e) p := by
  unfold retP at h
  split at h
  · cases h; exact ⟨_, rfl⟩
  · cases h
def asgP : Stmt → Option (Expr × Expr)
  | .Assign [t] v _ => some (t, v)
  | _ => none
theorem asgP_eq {s : Stmt} {t v : Expr} (h : asgP s = some (t, v)) : ∃ p, s = .Assign [t] v p := by
  unfold asgP at h
  split at h
  · cases h; exact ⟨_, rfl⟩
  · cases h
def notinP : Expr → Option (Expr × Expr)
  | .Compare a [.NotIn] [b] _ => some (a, b)
  | _ => none
theorem notinP_eq {s a b : Expr} (h : notinP s = some (a, b)) : ∃ p, s = .Compare a [.NotIn] [b] p := by
  unfold notinP at h
  split at h
  · cases h; exact ⟨_, rfl⟩
  · cases h
def subP : Expr → Option (Expr × Expr)
  | .Subscript a b _ => some (a, b)
  | _ => none
theorem subP_eq {s a b : Expr} (h : subP s = some (a, b)) : ∃ p, s = .Subscript a b p := by
  unfold subP at h
  split at h
  · cases h; exact ⟨_, rfl⟩
  · cases h
def atP : Expr → Option (Str × Str)
  | .Attribute (.Name x _) f _ => some (x, f)
  | _ => none
theorem atP_eq {s : Expr} {x f : Str} (h : atP s = some (x, f)) : ∃ p q, s = .Attribute (.Name x p) f q := by
  unfold atP at h
  split at h
  · cases h; exact ⟨_, _, rfl⟩
  · cases h
end G
namespace G
open PySem L2
theorem last_app {α : Type} {l : List α} {a : α} (h : l.getLast? = some a) : l.dropLast ++ [a] = l := by
  have hn : l ≠ [] := fun z => by rw [z] at h; cases h
  rw [List.getLast?_eq_some_getLast hn] at h
  cases h
  exact List.dropLast_concat_getLast hn
structure MP where
  x : Str
  f : Str
  e1 : Expr
  e2 : Expr
  e3 : Expr
  ev : Expr
  lb : List Stmt
def memoP : List Stmt → Option MP
  | [s1, s2] => match ifP s1 with
    | some (c, bs, []) => match notinP c, retP s2, bs.getLast? with
      | some (e1, k1), some r, some s3 => match subP r, asgP s3 with
        | some (k3, e3), some (t, ev) => match subP t, atP k1, atP k3 with
          | some (k2, e2), some (x, f), some (x3, f3) => match atP k2 with
            | some (x2, f2) => if x2 = x ∧ x3 = x ∧ f2 = f ∧ f3 = f then some ⟨x, f, e1, e2, e3, ev, bs.dropLast⟩ else none
            | none => none
          | _, _, _ => none
        | _, _ => none
      | _, _, _ => none
    | _ => none
  | _ => none
theorem memoP_eq {sts : List Stmt} {m : MP} (h : memoP sts = some m) : ∃ p1 p2 p3 p4 p5 p6 p7 p8 p9 p10 p11 p12 : Pos,
    sts = [.If (.Compare m.e1 [.NotIn] [.Attribute (.Name m.x p1) m.f p2] p3) (m.lb ++ [.Assign [.Subscript (.Attribute (.Name m.x p4) m.f p5) m.e2 p6] m.ev p7]) [] p8, .Return (some (.Subscript (.Attribute (.Name m.x p9) m.f p10) m.e3 p11)) p12] := by
  unfold memoP at h
  split at h
  · rename_i s1 s2
    split at h
    · rename_i c bs h1
      split at h
      · rename_i e1 k1 r s3 h2 h3 h4
        split at h
        · rename_i k3 e3 t ev h5 h6
          split at h
          · rename_i k2 e2 x f x3 f3 h7 h8 h9
            split at h
            · rename_i x2 f2 h10
              split at h
              · rename_i hc
                obtain ⟨g1, g2, g3, g4⟩ := hc
                subst g1 g2 g3 g4
                cases h
                obtain ⟨p8, rfl⟩ := ifP_eq h1
                obtain ⟨p3, rfl⟩ := notinP_eq h2
                obtain ⟨p12, rfl⟩ := retP_eq h3
                obtain ⟨p11, rfl⟩ := subP_eq h5
                obtain ⟨p7, rfl⟩ := asgP_eq h6
                obtain ⟨p6, rfl⟩ := subP_eq h7
                obtain ⟨p1, p2, rfl⟩ := atP_eq h8
                obtain ⟨p9, p10, rfl⟩ := atP_eq h9
                obtain ⟨p4, p5, rfl⟩ := atP_eq h10
                refine ⟨p1, p2, p3, p4, p5, p6, p7, p8, p9, p10, p11, p12, ?_⟩
                rw [last_app h4]
              · cases h
            · cases h
          · cases h
        · cases h
      · cases h
    · cases h
  · cases h
end G
namespace G
open PySem L2
def rdB (N : List Str) (sc : Scope) (i : Nat) (x : Str) : Bool := decide (N[i]? = some x) && visB sc x && nmOk x
def wrB (N : List Str) (sc : Scope) (i : Nat) (x : Str) : Bool := decide (N[i]? = some x) && locB true sc x
def chkIt (T : Tb) (N : List Str) (sc : Scope) (rng : Bool) (it : E) (eit : Expr) : Bool :=
  if rng then (match eit with | .Call (.Name x _) [a] [] _ => decide (x = "range") && glB sc x && chkL T N it sc [a] | .Call (.Name x _) [a, b] [] _ => decide (x = "range") && glB sc x && chkL T N it sc [a, b] | .Call (.Name x _) [a, b, c] [] _ => decide (x = "range") && glB sc x && chkL T N it sc [a, b, c] | _ => false) else chkE T N it sc eit
def hotT (T : Tb) : Tb := { T with calm := false, cb := fun _ => none, cm := fun _ => none, ow := fun _ => none, hs := fun _ => none }
def chkPair (N : List Str) (sc : Scope) (e : E) (ex : Expr) : Bool := match e, ex with
  | .tup (.cons (.var i) (.cons (.var j) .nil)), .Tuple [.Name x _, .Name y _] _ _ => rdB N sc i x && rdB N sc j y
  | _, _ => false
mutual
def chkS (T : Tb) (N : List Str) (sc : Scope) : Sm → List Stmt → Bool
  | .nil, sts => match sts with
    | [] => true
    | _ => false
  | .asg i e k, sts => match sts with
    | .Assign [.Name y _] ex _ :: r => wrB N sc i y && chkE T N e sc ex && (okx ex && !isCg e) && chkS T N sc k r
    | _ => false
  | .asgO i e k, sts => match sts with
    | .Assign [.Name y _] ex _ :: r => wrB N sc i y && chkE T N e sc ex && (okx ex && !isCg e) && newE e && chkS T N sc k r
    | _ => false
  | .newD b i k, sts => match sts with
    | .Assign [.Name y _] (.Dict [] [] _) _ :: r => wrB N sc i y && chkS T N sc k r
    | _ => false
  | .disp b i e e2 k, sts => match sts with
    | .Assign [.Name y _] (.Dict [some ek] [ev] _) _ :: r => !b && wrB N sc i y && chkE T N e sc ek && chkE T N e2 sc ev && chkS T N sc k r
    | _ => false
  | .unp is e k, sts => match sts with
    | .Assign [.Tuple es _ _] ex _ :: r => chkE T N e sc ex && unpOk ex && areNames N true sc is es && decide (2 ≤ is.length) && T.calm && chkS T N sc k r
    | _ => false
  | .swp i j a b k, sts => match sts with
    | .Assign [.Tuple [.Name x px, .Name y py] _ tp] (.Tuple [.Name a' _, .Name b' _] _ _) _ :: r => decide (px.line = py.line) && decide (N[i]? = some x) && decide (N[j]? = some y) && decide (i ≠ j) && decide (x ≠ y) && decide (sc.names.lookup x = some .local) && decide (sc.names.lookup y = some .local)
      && (match a with | .var n => rdB N sc n a' | _ => false) && (match b with | .var n => rdB N sc n b' | _ => false) && T.calm && chkS T N sc k r
    | _ => false
  | .aug i op e k, sts => match sts with
    | .AugAssign (.Name y _) o ex _ :: r => wrB N sc i y && augOk op o && chkE T N e sc ex && chkS T N sc k r
    | _ => false
  | .app i e k, sts => match sts with
    | .Expr (.Call (.Attribute (.Name x _) m apos) [ex] [] cpos) _ :: r => decide (m = "append") && rdB N sc i x && (apos.endLine == cpos.line) && chkE T N e sc ex && okx ex && chkS T N sc k r
    | _ => false
  | .ext i e k, sts => match sts with
    | .Expr (.Call (.Attribute (.Name x _) m apos) [ex] [] cpos) _ :: r => decide (m = "extend") && rdB N sc i x && (apos.endLine == cpos.line) && chkE T N e sc ex && okx ex && chkS T N sc k r
    | _ => false
  | .pop i j k, sts => match sts with
    | .Assign [.Name y _] (.Call (.Attribute (.Name x _) m apos) [] [] cpos) _ :: r => decide (m = "pop") && wrB N sc i y && rdB N sc j x && decide (i ≠ j) && (apos.endLine == cpos.line) && chkS T N sc k r
    | _ => false
  | .seti i a e k, sts => match sts with
    | .Assign [.Subscript (.Name x _) ei _] ex _ :: r => rdB N sc i x && okx ei && !isComp ex && okx ex && chkE T N e sc ex && chkE T N a sc ei && chkS T N sc k r
    | _ => false
  | .dput i a e k, sts => match sts with
    | .Assign [.Subscript (.Name x _) ei _] ex _ :: r => rdB N sc i x && !isComp ex && okx ex && chkE T N e sc ex && chkE T N a sc ei && chkS T N sc k r
    | _ => false
  | .frz i k, sts => chkS T N sc k sts
  | .ifs c a b k, sts => match sts with
    | .If ec la lb _ :: r => chkE T N c sc ec && chkS T N sc a la && chkS T N sc b lb && chkS T N sc k r
    | _ => false
  | .loop tg kl rng it body k, sts => match sts with
    | .For etg eit lb [] _ :: r => chkIt T N sc rng it eit && okx eit && chkTg N true sc tg etg && T.calm && chkS T N sc body lb && chkS T N sc k r
    | _ => false
  | .loopg n tg kl l body k, sts => match sts with
    | .For etg eit lb [] _ :: r => (match T.ga n with
      | some kk => (match kk sc eit with
        | some es => okx eit && chkTg N true sc tg etg && T.calm && chkL T N l sc es && chkS T N sc body lb && chkS T N sc k r
        | none => false)
      | none => false)
    | _ => false
  | .whl kl c body k, sts => match sts with
    | .While ec lb [] _ :: r => chkE T N c sc ec && T.calm && chkS T N sc body lb && chkS T N sc k r
    | _ => false
  | .ret e, sts => match sts with
    | .Return (some ex) _ :: _ => chkE T N e sc ex
    | _ => false
  | .retN, sts => match sts with
    | .Return none _ :: _ => true
    | _ => false
  | .brk, sts => match sts with
    | .Break _ :: _ => true
    | _ => false
  | .cont, sts => match sts with
    | .Continue _ :: _ => true
    | _ => false
  | .raise n, sts => match sts with
    | .Raise (some (.Call (.Name x _) [.Constant (.str _) _ _] [] _)) none _ :: _ => decide (T.rname n = some x) && decide (T.ename n = some x) && glB sc x && T.calm
    | _ => false
  | .drop e k, sts => match sts with
    | .Expr ex _ :: r => chkE T N e sc ex && !isComp ex && okx ex && chkS T N sc k r
    | _ => false
  | .pass k, sts => match sts with
    | .Pass _ :: r => chkS T N sc k r
    | _ => false
  | .setf i nm e k, sts => match sts with
    | .Assign [.Attribute (.Name x _) f _] ex _ :: r => decide (T.fname nm = f) && rdB N sc i x && !isComp ex && okx ex && chkE T N e sc ex && chkS T N sc k r
    | _ => false
  | .hook n k, sts => match T.hs n with
    | some f => match sts with
      | st :: r => f N sc st && T.calm && chkS T N sc k r
      | _ => false
    | none => false
  | .any, _ => true
  | .tryx body hs k, sts => match sts with
    | .Try lb (h0 :: hds) [] [] _ :: r => T.calm && chkS T N sc body lb && chkH T N sc hs (h0 :: hds) && chkS T N sc k r
    | _ => false
  | .hnil, _ => false
  | .hcons _ _ _ _, _ => false
  | .raiseV _ _, _ => false
  | .memo nm i xe sb ve, sts => match memoP sts with
    | some m => decide (T.fname nm = m.f) && rdB N sc i m.x && (okx m.e3 && okx m.ev && !isComp m.ev) && T.memo && (chkE T N xe sc m.e1 && chkE T N xe sc m.e2 && chkPair N sc xe m.e3) && chkE T N ve sc m.ev && chkS T N sc sb m.lb
    | none => false
  | .setc i nm m k, sts => match sts with
    | .Assign [.Attribute (.Name x _) f _] (.Dict [] [] _) _ :: r => decide (T.fname nm = f) && rdB N sc i x && T.calm && chkS T N sc k r
    | _ => false
  | .callIO i n l j m k, sts => match sts with
    | .Assign [.Name y _] ex _ :: r => (match T.io n with | some kk => (match kk sc ex with | some (es1, .Name x _, es2) => wrB N sc i y && rdB N sc j x && T.calm && (!isComp ex && okx ex && chkL T N l sc es1 && chkL T N m sc es2) && chkS T N sc k r | _ => false) | none => false)
    | _ => false
  | .retIO e j, sts => match sts with
    | .Return (some ex) _ :: _ => chkE T N e sc ex
    | _ => false
  | .asgN i n l k, sts => match sts with
    | .Assign [.Name y _] ex _ :: r => (match T.nw n with | some kk => (match kk sc ex with | some es => wrB N sc i y && T.calm && (!isComp ex && okx ex && chkL T N l sc es) && chkS T N sc k r | none => false) | none => false)
    | _ => false
  | .loopB tg kl i body k, sts => match sts with
    | .For etg (.Name x _) lb [] _ :: r => rdB N sc i x && chkTg N true sc tg etg && T.calm && chkS T N sc body lb && chkS T N sc k r
    | _ => false
  | .retO i, sts => match sts with
    | .Return (some (.Name y _)) _ :: _ => rdB N sc i y
    | _ => false
  | .superI _ _ _ _, _ => false
  | .clr i k, sts => match sts with
    | .Expr (.Call (.Attribute (.Name x _) m apos) [] [] cpos) _ :: r => decide (m = "clear") && rdB N sc i x && (apos.endLine == cpos.line) && chkS T N sc k r
    | _ => false
  | .rev i k, sts => match sts with
    | .Expr (.Call (.Attribute (.Name x _) m apos) [] [] cpos) _ :: r => decide (m = "reverse") && rdB N sc i x && (apos.endLine == cpos.line) && chkS T N sc k r
    | _ => false
  | .ins i a e k, sts => match sts with
    | .Expr (.Call (.Attribute (.Name x _) m apos) [ea, ex] [] cpos) _ :: r => decide (m = "insert") && rdB N sc i x && (apos.endLine == cpos.line) && okx ea && okx ex && chkE T N a sc ea && chkE T N e sc ex && chkS T N sc k r
    | _ => false
def chkH (T : Tb) (N : List Str) (sc : Scope) : Sm → List ExceptHandler → Bool
  | .hnil, hs => match hs with
    | [] => true
    | _ => false
  | .hcons t slot suite r, hs => match hs with
    | .ExceptHandler (some (.Name x _)) nm (b0 :: lb) _ :: hds => (match t with | .x n => decide (T.ename n = some x) && glB sc x | _ => false) &&
      (match slot, nm with | none, none => true | some i, some y => decide (N[i]? = some y) && decide (sc.names.lookup y = some .local) | _, _ => false) && chkS (hotT T) N sc suite (b0 :: lb) && chkH T N sc r hds
    | _ => false
  | _, _ => false
end
theorem pair_ok {C : Cfg} {N : List Str} {sc : Scope} {top : Bool} {X : Cx} {B : Bs} (h : XOk C N sc top X) {e : E} {ex : Expr} (c : chkPair N sc e ex = true) : PE X ex (tKp C B e) := by
  unfold chkPair at c
  split at c
  · simp only [rdB, Bool.and_eq_true, decide_eq_true_eq] at c
    obtain ⟨⟨⟨a1, a2⟩, a3⟩, ⟨⟨b1, b2⟩, b3⟩⟩ := c
    exact kp_pair h a1 b1 a2 b2 a3 b3
  · cases c
structure EnOk (C : Cfg) (n : Nat) (x : Str) : Prop where
  mg : C.mg x = some (.ref (C.exa n))
  ex : PySem.W.excIn C.K (C.exa n) [.type "ValueError", .type "Exception", .type "BaseException", .type "object"] "ValueError.__new__" = true
  kp : PySem.W.keepIn C.K (.ref (C.exa n)) = true
  sb : PySem.W.subIn C.K (.ref (C.exa n)) (.type "BaseException") = some true
  ty : PySem.W.typeIn C.K (.ref (C.exa n)) = some (.type "type")
def HsOk (C : Cfg) (f : List Str → Scope → Stmt → Bool) (sem : Gam → Out) : Prop :=
  ∀ (N : List Str) (sc : Scope) (X : Cx), XOk C N sc true X → XCalm C X → sc.kind = .function → PassesOwn (model X.prog X.w) X.A X.env X.xe → ∀ (W : WX), Takes X W → ∀ (B : Bs) (st : Stmt), f N sc st = true → ∀ Γ, PS X st (tS C B Γ W (sem Γ))
structure Wl2 (C : Cfg) (T : Tb) : Prop extends Wld C T where
  exs : ∀ n x, T.rname n = some x → EnOk C n x
  hs : ∀ n f, T.hs n = some f → HsOk C f (C.hs n)
  cok0 : ∀ F H a d, H a = some (dictO C a false [] [] []) → C.cok F H a d
  mm : T.memo = true → Memo C
  nw : ∀ n k, T.nw n = some k → CnOk C k (C.fn n)
  io : ∀ n k, T.io n = some k → IoOk C k (C.fn n)
section
variable {C : Cfg} {T : Tb} {N : List Str} {sc : Scope} {X : Cx} {B : Bs} {W : WX}
theorem exc_mk (w : Wl2 C T) {top : Bool} (h : XOk C N sc top X) {n : Nat} {x m : Str} {j : Nat} {p p2 pos : Pos} (hx : T.rname n = some x) (hg : glB sc x = true) : PMk X (.Call (.Name x p) [.Constant (.str m) j p2] [] pos) (fun _ H Q => Q (.ref (C.exa n)) none H) := by
  have q := w.exs n x hx
  exact pmk_own PySem.F.excBase_ValueError (by rw [h.eK]; exact q.ex) (by rw [h.eM]; exact q.mg) (by rw [h.eK]; exact q.kp) (raises_own (by rw [h.eK]; exact q.sb) (by rw [h.eK]; exact q.ty)) (h.gl hg) (nm_d (glB_nm hg))
theorem snd_it (w : Wl2 C T) {top : Bool} (h : XOk C N sc top X) (hcm : T.calm = true → XCalm C X) (hB : BOk C T X B) (tk : Takes X W) {rng : Bool} {it : E} {etg eit : Expr} (c5 : chkIt T N sc rng it eit = true) (Γ : Gam) :
    PI X etg eit (tI C B Γ W (if rng then (evL C.toMng it Γ).bind fun ds => walkD true (.tup ds) else (evE C.toMng it Γ).bind fun d => walkD false d)) := by
  unfold chkIt at c5
  cases rng with
  | true =>
    rw [if_pos rfl] at c5 ⊢
    split at c5
    · simp only [Bool.and_eq_true, decide_eq_true_eq] at c5
      obtain ⟨⟨hx, hg⟩, hl⟩ := c5
      subst hx
      exact nd_range1 w.toWld h hg (sndL w.toWld it h hcm hB hl W tk Γ)
    · simp only [Bool.and_eq_true, decide_eq_true_eq] at c5
      obtain ⟨⟨hx, hg⟩, hl⟩ := c5
      subst hx
      exact nd_range2 w.toWld h hg (sndL w.toWld it h hcm hB hl W tk Γ)
    · simp only [Bool.and_eq_true, decide_eq_true_eq] at c5
      obtain ⟨⟨hx, hg⟩, hl⟩ := c5
      subst hx
      exact nd_range3 w.toWld h hg (sndL w.toWld it h hcm hB hl W tk Γ)
    · cases c5
  | false =>
    rw [if_neg Bool.false_ne_true] at c5 ⊢
    exact nd_iter h ((sndE w.toWld it h hcm hB c5).pe W tk Γ)
theorem st_swp {i j : Nat} {x y a' b' : Str} {px py pa pb tp p2 pos : Pos} {kt k2 : Nat} {a b : E} {k : Sm} {rest : List Stmt} (h : XOk C N sc true X) (hcm : XCalm C X) (hk : sc.kind = .function) (hl : px.line = py.line) (hi : N[i]? = some x) (hj : N[j]? = some y) (hij : i ≠ j) (hxy : x ≠ y)
    (hx : sc.names.lookup x = some .local) (hy : sc.names.lookup y = some .local) (ha : ∀ Γ, PE X (.Name a' pa) (tD C B Γ W (evE C.toMng a Γ))) (hb : ∀ Γ, PE X (.Name b' pb) (tD C B Γ W (evE C.toMng b Γ))) (na : nmOk a' = true) (nb : nmOk b' = true) (r : PSs X rest (tK C B W k)) :
    PSs X (.Assign [.Tuple [.Name x px, .Name y py] kt tp] (.Tuple [.Name a' pa, .Name b' pb] k2 p2) pos :: rest) (tK C B W (.swp i j a b k)) := by
  have hx' : X.env.scope.names.lookup x = some .local := by rw [h.eS]; exact hx
  have hy' : X.env.scope.names.lookup y = some .local := by rw [h.eS]; exact hy
  have bk : X.env.blockKind = .function := by
    unfold Env.blockKind
    rw [h.eS, hk]
    rfl
  have hw : swappedStores [.Tuple [.Name x px, .Name y py] kt tp] (.Tuple [.Name a' pa, .Name b' pb] k2 p2) X.env = pure (some [x, y]) := by
    have e1 : (X.env.kindOf x == some .local) = true := by rw [show X.env.kindOf x = some .local from hx']; rfl
    have e2 : (X.env.kindOf y == some .local) = true := by rw [show X.env.kindOf y = some .local from hy']; rfl
    have e3 : (py.line == px.line) = true := by rw [hl]; exact beq_self_eq_true _
    have ed : ([x, y] : List Str).eraseDups = [x, y] := by
      have : (y == x) = false := beq_eq_false_iff_ne.mpr (Ne.symm hxy)
      rw [List.eraseDups_cons]
      simp [this, List.eraseDups_cons]
    have hf : foldedForSure 8 (.Name a' pa) = false := rfl
    have hcA : constantsAlone 8 (.Name a' pa) = false := nm_d na
    unfold swappedStores
    simp [bk, e1, e2, e3, ed, hf, hcA, hl]
    have p1 : (Expr.Name x px).pos.line = py.line := hl
    have k1 : X.env.kindOf x = some NameKind.local := hx'
    have k2 : X.env.kindOf y = some NameKind.local := hy'
    have fm : ∀ f : Expr → Option Str, f (.Name x px) = some x → f (.Name y py) = some y → List.filterMap f [Expr.Name x px, Expr.Name y py] = [x, y] := fun f h1 h2 => by
      rw [List.filterMap_cons_some h1, List.filterMap_cons_some h2, List.filterMap_nil]
    rw [fm _ (by show (if _ then _ else _) = _; rw [if_pos ⟨k1, rfl⟩]) (by show (if _ then _ else _) = _; rw [if_pos ⟨k2, p1.symm⟩]), ed]
    simp
  refine ⟨fun pins s0 σ H D I ⟨Γ, q⟩ => ((pss_cons (ps_par hcm.calm (by rw [h.eN]; exact h.nd) (by rw [h.eN]; exact hi) (by rw [h.eN]; exact hj) hij hx' hy' (pa_cons (ha Γ) (pa_cons (hb Γ) pa_nil (star_cons rfl)) (star_cons rfl)) hw) r).imp (t' := tS C B Γ W (evS C.toMng (.swp i j a b k) Γ)) fun D σ H ⟨F, s, p⟩ => ⟨F, s, by
    refine PoS.of s p fun d v F' H' er e' s' rv p' => ⟨F', s', PoS.of s' p' fun d2 v2 F2 H2 er2 e2 s2 rv2 p2 => ?_⟩
    exact ⟨v, v2, rfl, tK.mk ((s2.put_val (Rep.le e2.le _ _ rv)).put_val rv2) p2⟩⟩).run pins s0 σ H D I q⟩
theorem walkD_noexc {d : D} {c : Ec} : walkD false d ≠ .exc c := by
  intro h
  cases d with
  | dict k ks vs => cases k <;> cases h
  | _ => cases h
theorem st_forG {args : Scope → Expr → Option (List Expr)} {n : Nat} (h : XOk C N sc true X) (hcm : XCalm C X) (hp : PassesOwn (model X.prog X.w) X.A X.env X.xe) (tk : Takes X W) {tg kl : List Nat} {l : E} {sb k : Sm} {etg eit : Expr} {es : List Expr} {lb rest : List Stmt} {pos : Pos}
    (G : GaOk C args (C.fn n)) (ha : args sc eit = some es) (hl : ∀ Γ, PL C X B Γ W es (evL C.toMng l Γ)) (oit : okx eit = true) (hg : PG (X.tr X.pn fun _ _ => False) etg (gX X.K tg)) (hb : PSs (X.tr X.pn fun _ _ => False) lb (tK C B W0 sb)) (r : PSs X rest (tK C B W k)) :
    PSs X (.For etg eit lb [] pos :: rest) (tK C B W (.loopg n tg kl l sb k)) :=
  ⟨fun pins s0 σ H D I ⟨Γ, q⟩ => ((pss_cons (G.fo N sc true X h hcm hp W tk B Γ eit es _ ha (hl Γ) oit etg lb pos (gX X.K tg) (tK C B W0 sb) hg hb) r).imp (t' := tS C B Γ W (evS C.toMng (.loopg n tg kl l sb k) Γ)) fun D σ H ⟨F, s, p⟩ => ⟨F, s, by
    rw [evS] at p
    cases er : ((evL C.toMng l Γ).noexc.bind (C.fn n)).noexc.bind (walkD false) with
    | exc c =>
      exfalso
      cases e2 : (evL C.toMng l Γ).noexc.bind (C.fn n) with
      | ok d => rw [e2] at er; exact walkD_noexc er
      | exc c => rw [e2] at er; cases er
      | bad => rw [e2] at er; cases er
    | bad =>
      have er : ((evL C.toMng l Γ).noexc.bind (C.toMng.fn n)).noexc.bind (walkD false) = .bad := er
      rw [er] at p
      exact False.elim p
    | ok items =>
      refine ⟨items, rfl, fun F1 H1 e1 f1 => ?_⟩
      have er : ((evL C.toMng l Γ).noexc.bind (C.toMng.fn n)).noexc.bind (walkD false) = .ok items := er
      rw [er] at p
      have p1 := PoS.seq (show PoS C B W F D ((forD tg kl (fun Γ' => (evS C.toMng sb Γ').nox) items Γ).andThen (evS C.toMng k)) from p)
      generalize ({ D with nx := tK C B W k D } : Ends) = D1 at p1 ⊢
      refine ⟨fun i F' σ' H' => ∃ Γ', SR C B F' H' σ' Γ' ∧ i ≤ items.length ∧ PoS C B W F' D1 (forD tg kl (fun Γ' => (evS C.toMng sb Γ').nox) (items.drop i) Γ'), ⟨Γ, s.ext_ e1 f1, Nat.zero_le _, by simpa using p1.le e1.le⟩, fun F' σ' H' ⟨Γ', s', _, q'⟩ F2 H2 e2 f2 => ?_, fun i hlt F' σ' H' ⟨Γ', s', _, q'⟩ x F2 H2 e2 f2 rx => ?_⟩
      · rw [List.drop_length] at q'
        unfold forD at q'
        exact q' σ' F2 H2 ((s'.kill kl).ext_ e2 f2) e2.le
      · have hd : items[i]? = some items[i] := List.getElem?_eq_getElem hlt
        rw [take_succ hd] at q'
        unfold forD at q'
        rw [List.getD_eq_getElem?_getD, hd] at rx
        have s2 := (s'.kill kl).ext_ e2 f2
        cases et : tgtD (killG Γ' kl) tg items[i] with
        | exc c =>
          exfalso
          unfold tgtD at et
          split at et
          · cases et
          · split at et
            · exact setAll_noexc _ _ _ et
            · cases et
        | bad => rw [et] at q'; exact False.elim q'
        | ok Γ3 =>
          rw [et] at q'
          have q' : PoS C B W F' D1 (match (evS C.toMng sb Γ3).nox with
            | .next Γ2 => forD tg kl (fun Γ' => (evS C.toMng sb Γ').nox) (items.drop (i + 1)) Γ2
            | .cont Γ2 => forD tg kl (fun Γ' => (evS C.toMng sb Γ').nox) (items.drop (i + 1)) Γ2
            | .brk Γ2 => .next (killG Γ2 kl)
            | o => o) := q'
          refine gX_ok (vs := tg) s2 rx et (fun i hi => hi) fun σ3 s3 _ => tK.mk s3 ?_
          have le2 : Le F' F2 := e2.le
          cases eb : evS C.toMng sb Γ3 with
          | next Γ4 =>
            rw [eb] at q'
            exact fun σ4 F4 H4 s4 le4 => ⟨F4, le4, s4.fits, Γ4, s4, hlt, PoS.le q' (le2.trans le4)⟩
          | cont Γ4 =>
            rw [eb] at q'
            exact fun σ4 F4 H4 s4 le4 => ⟨F4, le4, s4.fits, Γ4, s4, hlt, PoS.le q' (le2.trans le4)⟩
          | brk Γ4 =>
            rw [eb] at q'
            exact fun σ4 F4 H4 s4 le4 => q' σ4 F4 H4 (s4.kill kl) (le2.trans le4)
          | ret d => rw [eb] at q'; exact q'
          | rio d ks vs => rw [eb] at q'; exact q'
          | rown l => rw [eb] at q'; exact q'
          | exc c Γ4 => rw [eb] at q'; exact q'.elim
          | bad => rw [eb] at q'; exact q'⟩).run pins s0 σ H D I q⟩
structure SOk (C : Cfg) (T : Tb) (N : List Str) (sc : Scope) (X : Cx) (B : Bs) (W : WX) : Prop where
  w : Wl2 C T
  h : XOk C N sc true X
  hcm : T.calm = true → XCalm C X
  hB : BOk C T X B
  hk : sc.kind = .function
  hp : T.calm = true → PassesOwn (model X.prog X.w) X.A X.env X.xe
  hs : T.calm = true → X.stack = X.env :: X.outer ∧ X.env.frame = some X.env.locals
  tk : Takes X W
theorem Wl2.hotW (w : Wl2 C T) : Wl2 C (hotT T) :=
  { w with hot := fun _ => ⟨fun _ => rfl, fun _ => rfl, fun _ => rfl⟩, cb := fun _ _ z => (by cases z), cm := fun _ _ z => (by cases z), ow := fun _ _ z => (by cases z), hs := fun _ _ z => (by cases z) }
theorem SOk.tr (q : SOk C T N sc X B W) (hc : T.calm = true) {W2 : WX} {pn : List (Addr × Obj)} {xe : Value → Shared → Prop} (tk : Takes (X.tr pn xe) W2) (hp : PassesOwn (model X.prog X.w) X.A X.env xe) : SOk C T N sc (X.tr pn xe) B W2 :=
  ⟨q.w, ⟨q.h.eP, q.h.eW, q.h.eK, q.h.eM, q.h.eB, q.h.eN, q.h.eS, q.h.nd, q.h.dp, q.h.un, q.h.fnT⟩, fun z => ⟨(q.hcm z).calm, (q.hcm z).room⟩, fun z => (by rw [hc] at z; cases z), q.hk, fun _ => hp, fun z => q.hs z, tk⟩
theorem SOk.lend {a : Addr} {u : HO} (q : SOk C T N sc X B W) (hc : T.calm = true) : SOk C T N sc X (lendB B a u) W :=
  ⟨q.w, q.h, q.hcm, fun z => (by rw [hc] at z; cases z), q.hk, q.hp, q.hs, q.tk⟩
theorem SOk.suite (q : SOk C T N sc X B W) {a : Addr} {oe : Obj} {n : Nat} {pn : List (Addr × Obj)} (hz : Zc (.ref (C.exa n)) none oe) (hf : ∃ vs, oe.data = .fields vs) (hx : C.hasX n = true) : SOk C (hotT T) N sc (X.suite a ((a, oe) :: pn)) (withX B a (n, [])) W0 :=
  ⟨q.w.hotW, ⟨q.h.eP, q.h.eW, q.h.eK, q.h.eM, q.h.eB, q.h.eN, q.h.eS, q.h.nd, q.h.dp, q.h.un, q.h.fnT⟩, fun z => (by cases z), fun _ => ⟨X, oe, pn, rfl, hz, hf, hx⟩, q.hk, fun z => (by cases z), fun z => (by cases z), noWish⟩
mutual
theorem sndS : ∀ (s : Sm) {T : Tb} {X : Cx} {B : Bs} {W : WX} (Q : SOk C T N sc X B W) (sts : List Stmt), chkS T N sc s sts = true → PSs X sts (tK C B W s)
  | .nil, T, X, B, W, Q, sts, c => by
    unfold chkS at c
    split at c
    · exact st_nil
    · cases c
  | .asg i e k, T, X, B, W, Q, sts, c => by
    unfold chkS at c
    split at c
    · simp only [wrB, Bool.and_eq_true, decide_eq_true_eq] at c
      obtain ⟨⟨⟨⟨c1, c2⟩, c3⟩, c4⟩, c5⟩ := c
      exact st_asg Q.w.toWld Q.h Q.hcm Q.hB Q.hk c1 c2 c3 c4.1 (by simpa using c4.2) Q.tk (sndS k Q _ c5)
    · cases c
  | .asgO i e k, T, X, B, W, Q, sts, c => by
    unfold chkS at c
    split at c
    · simp only [wrB, Bool.and_eq_true, decide_eq_true_eq] at c
      obtain ⟨⟨⟨⟨⟨c1, c2⟩, c3⟩, c4⟩, c6⟩, c5⟩ := c
      exact st_asgO Q.w.toWld Q.h Q.hcm Q.hB Q.hk c1 c2 c3 c4.1 c6 (by simpa using c4.2) Q.tk (sndS k Q _ c5)
    · cases c
  | .newD bb i k, T, X, B, W, Q, sts, c => by
    unfold chkS at c
    split at c
    · simp only [wrB, Bool.and_eq_true, decide_eq_true_eq] at c
      exact st_newD Q.h c.1.1 c.1.2 (sndS k Q _ c.2)
    · cases c
  | .disp bb i e e2 k, T, X, B, W, Q, sts, c => by
    unfold chkS at c
    split at c
    · simp only [wrB, Bool.and_eq_true, decide_eq_true_eq, Bool.not_eq_true'] at c
      obtain ⟨⟨⟨⟨c0, c1, c2⟩, c3⟩, c4⟩, c5⟩ := c
      subst c0
      exact st_disp Q.h c1 c2 (fun Γ => (sndE Q.w.toWld e Q.h Q.hcm Q.hB c3).pe W Q.tk Γ) (fun Γ => (sndE Q.w.toWld e2 Q.h Q.hcm Q.hB c4).pe W Q.tk Γ) (sndS k Q _ c5)
    · cases c
  | .unp is e k, T, X, B, W, Q, sts, c => by
    unfold chkS at c
    split at c
    · simp only [Bool.and_eq_true, decide_eq_true_eq] at c
      obtain ⟨⟨⟨⟨⟨c1, c2⟩, c3⟩, c4⟩, cc⟩, c5⟩ := c
      exact st_unp Q.h (Q.hcm cc) (fun Γ => (sndE Q.w.toWld e Q.h Q.hcm Q.hB c1).pe W Q.tk Γ) c2 c3 c4 (sndS k Q _ c5)
    · cases c
  | .swp i j a b k, T, X, B, W, Q, sts, c => by
    unfold chkS at c
    split at c
    · simp only [Bool.and_eq_true, decide_eq_true_eq] at c
      obtain ⟨⟨⟨⟨⟨⟨⟨⟨⟨⟨c1, c2⟩, c3⟩, c4⟩, c5⟩, c6⟩, c7⟩, c8⟩, c9⟩, cc⟩, c10⟩ := c
      split at c8
      · split at c9
        · simp only [rdB, Bool.and_eq_true, decide_eq_true_eq] at c8 c9
          exact st_swp Q.h (Q.hcm cc) Q.hk c1 c2 c3 c4 c5 c6 c7 (fun Γ => nd_var Q.h c8.1.1 c8.1.2 c8.2) (fun Γ => nd_var Q.h c9.1.1 c9.1.2 c9.2) c8.2 c9.2 (sndS k Q _ c10)
        · cases c9
      · cases c8
    · cases c
  | .aug i op e k, T, X, B, W, Q, sts, c => by
    unfold chkS at c
    split at c
    · simp only [wrB, Bool.and_eq_true, decide_eq_true_eq] at c
      obtain ⟨⟨⟨⟨c1, c2⟩, c3⟩, c4⟩, c5⟩ := c
      exact st_aug Q.h c3 c1 c2 (fun Γ => (sndE Q.w.toWld e Q.h Q.hcm Q.hB c4).pe W Q.tk Γ) (sndS k Q _ c5)
    · cases c
  | .app i e k, T, X, B, W, Q, sts, c => by
    unfold chkS at c
    split at c
    · simp only [rdB, Bool.and_eq_true, decide_eq_true_eq] at c
      obtain ⟨⟨⟨⟨⟨c0, ⟨⟨c1, c2⟩, c3⟩⟩, c4⟩, c5⟩, c6⟩, c7⟩ := c
      subst c0
      exact st_app Q.h c1 c2 c3 c4 c6 (fun Γ => (sndE Q.w.toWld e Q.h Q.hcm Q.hB c5).pe W Q.tk Γ) (sndS k Q _ c7)
    · cases c
  | .ext i e k, T, X, B, W, Q, sts, c => by
    unfold chkS at c
    split at c
    · simp only [rdB, Bool.and_eq_true, decide_eq_true_eq] at c
      obtain ⟨⟨⟨⟨⟨c0, ⟨⟨c1, c2⟩, c3⟩⟩, c4⟩, c5⟩, c6⟩, c7⟩ := c
      subst c0
      exact st_ext Q.h c1 c2 c3 c4 c6 (fun Γ => (sndE Q.w.toWld e Q.h Q.hcm Q.hB c5).pe W Q.tk Γ) (sndS k Q _ c7)
    · cases c
  | .pop i j k, T, X, B, W, Q, sts, c => by
    unfold chkS at c
    split at c
    · simp only [rdB, wrB, Bool.and_eq_true, decide_eq_true_eq] at c
      obtain ⟨⟨⟨⟨⟨c0, c1, c2⟩, ⟨⟨c3, c4⟩, c5⟩⟩, c6⟩, c7⟩, c8⟩ := c
      subst c0
      exact st_pop Q.h c1 c2 c3 c4 c5 c6 c7 (sndS k Q _ c8)
    · cases c
  | .seti i a e k, T, X, B, W, Q, sts, c => by
    unfold chkS at c
    split at c
    · simp only [rdB, Bool.and_eq_true, decide_eq_true_eq, Bool.not_eq_true'] at c
      obtain ⟨⟨⟨⟨⟨⟨⟨⟨c1, c2⟩, c3⟩, c4⟩, c5⟩, c6⟩, c7⟩, c8⟩, c9⟩ := c
      exact st_seti Q.h c1 c2 c3 c4 c5 c6 (fun Γ => (sndE Q.w.toWld e Q.h Q.hcm Q.hB c7).pe W Q.tk Γ) (fun Γ => (sndE Q.w.toWld a Q.h Q.hcm Q.hB c8).pe W Q.tk Γ) (sndS k Q _ c9)
    · cases c
  | .dput i a e k, T, X, B, W, Q, sts, c => by
    unfold chkS at c
    split at c
    · simp only [rdB, Bool.and_eq_true, decide_eq_true_eq, Bool.not_eq_true'] at c
      obtain ⟨⟨⟨⟨⟨⟨⟨c1, c2⟩, c3⟩, c5⟩, c6⟩, c7⟩, c8⟩, c9⟩ := c
      exact st_dput Q.h c1 c2 c3 c5 c6 (fun Γ => (sndE Q.w.toWld e Q.h Q.hcm Q.hB c7).pe W Q.tk Γ) (fun Γ => (sndE Q.w.toWld a Q.h Q.hcm Q.hB c8).pe W Q.tk Γ) (sndS k Q _ c9)
    · cases c
  | .frz i k, T, X, B, W, Q, sts, c => by
    unfold chkS at c
    exact st_frz Q.h (sndS k Q _ c)
  | .ifs cc a b k, T, X, B, W, Q, sts, c => by
    unfold chkS at c
    split at c
    · simp only [Bool.and_eq_true] at c
      obtain ⟨⟨⟨c1, c2⟩, c3⟩, c4⟩ := c
      exact st_if (fun Γ => (sndE Q.w.toWld cc Q.h Q.hcm Q.hB c1).pt W Q.tk Γ) (sndS a Q _ c2) (sndS b Q _ c3) (sndS k Q _ c4)
    · cases c
  | .loop tg kl rng it body k, T, X, B, W, Q, sts, c => by
    unfold chkS at c
    split at c
    · simp only [Bool.and_eq_true] at c
      obtain ⟨⟨⟨⟨⟨c1, c2⟩, c3⟩, cc⟩, c4⟩, c5⟩ := c
      exact st_for Q.h (Q.hcm cc) (Q.hp cc) (fun Γ => snd_it Q.w Q.h Q.hcm Q.hB Q.tk c1 Γ) c2 c3 (sndS body Q _ c4) (sndS k Q _ c5)
    · cases c
  | .loopg n tg kl l body k, T, X, B, W, Q, sts, c => by
    unfold chkS at c
    split at c
    · split at c
      · rename_i kk hk
        split at c
        · rename_i es hes
          simp only [Bool.and_eq_true] at c
          obtain ⟨⟨⟨⟨⟨c1, c2⟩, cc⟩, c3⟩, c4⟩, c5⟩ := c
          have Q' := Q.tr cc (pn := X.pn) (xe := fun _ _ => False) (W2 := W0) noWish PassesOwn.never
          exact st_forG Q.h (Q.hcm cc) (Q.hp cc) Q.tk (Q.w.ga n kk hk) hes (fun Γ => sndL Q.w.toWld l Q.h Q.hcm Q.hB c3 W Q.tk Γ) c1 (pg_tg Q'.h (Q'.hcm cc) c2) (sndS body Q' _ c4) (sndS k Q _ c5)
        · cases c
      · cases c
    · cases c
  | .whl kl ce body k, T, X, B, W, Q, sts, c => by
    unfold chkS at c
    split at c
    · simp only [Bool.and_eq_true] at c
      obtain ⟨⟨⟨c1, cc⟩, c4⟩, c5⟩ := c
      exact st_while (Q.hp cc) (fun Γ => (sndE Q.w.toWld ce Q.h Q.hcm Q.hB c1).pt W Q.tk Γ) (sndS body Q _ c4) (sndS k Q _ c5)
    · cases c
  | .ret e, T, X, B, W, Q, sts, c => by
    unfold chkS at c
    split at c
    · exact st_ret (fun Γ => (sndE Q.w.toWld e Q.h Q.hcm Q.hB c).pe W Q.tk Γ)
    · cases c
  | .retN, T, X, B, W, Q, sts, c => by
    unfold chkS at c
    split at c
    · exact st_retN
    · cases c
  | .brk, T, X, B, W, Q, sts, c => by
    unfold chkS at c
    split at c
    · exact st_brk
    · cases c
  | .cont, T, X, B, W, Q, sts, c => by
    unfold chkS at c
    split at c
    · exact st_cont
    · cases c
  | .raise n, T, X, B, W, Q, sts, c => by
    unfold chkS at c
    split at c
    · simp only [Bool.and_eq_true, decide_eq_true_eq] at c
      exact st_raise Q.h (Q.hcm c.2) (Q.w.xnm _ _ c.1.1.2).2 Q.tk (exc_mk Q.w Q.h c.1.1.1 c.1.2)
    · cases c
  | .drop e k, T, X, B, W, Q, sts, c => by
    unfold chkS at c
    split at c
    · simp only [Bool.and_eq_true, Bool.not_eq_true'] at c
      obtain ⟨⟨⟨c1, c2⟩, c3⟩, c4⟩ := c
      exact st_drop (fun Γ => (sndE Q.w.toWld e Q.h Q.hcm Q.hB c1).pe W Q.tk Γ) c2 c3 (sndS k Q _ c4)
    · cases c
  | .pass k, T, X, B, W, Q, sts, c => by
    unfold chkS at c
    split at c
    · exact st_pass (sndS k Q _ c)
    · cases c
  | .setf i nm e k, T, X, B, W, Q, sts, c => by
    unfold chkS at c
    split at c
    · simp only [rdB, Bool.and_eq_true, decide_eq_true_eq, Bool.not_eq_true'] at c
      obtain ⟨⟨⟨⟨⟨c0, ⟨⟨c1, c2⟩, c3⟩⟩, c4⟩, c5⟩, c6⟩, c7⟩ := c
      exact st_setf Q.w.toWld Q.h c0 c1 c2 c3 c4 c5 (fun Γ => (sndE Q.w.toWld e Q.h Q.hcm Q.hB c6).pe W Q.tk Γ) (sndS k Q _ c7)
    · cases c
  | .hook n k, T, X, B, W, Q, sts, c => by
    unfold chkS at c
    split at c
    · rename_i f hf
      split at c
      · simp only [Bool.and_eq_true] at c
        exact ⟨fun pins s0 σ H D I ⟨Γ, q⟩ => ((pss_cons (Q.w.hs n f hf N sc X Q.h (Q.hcm c.1.2) Q.hk (Q.hp c.1.2) W Q.tk B _ c.1.1 Γ) (sndS k Q _ c.2)).imp (t' := tS C B Γ W (evS C.toMng (.hook n k) Γ)) fun D σ H ⟨F, s, p⟩ => ⟨F, s, PoS.seq p⟩).run pins s0 σ H D I q⟩
      · cases c
    · cases c
  | .tryx body hs k, T, X, B, W, Q, sts, c => by
    unfold chkS at c
    split at c
    · rename_i lb h0 hds pos r
      simp only [Bool.and_eq_true] at c
      obtain ⟨⟨⟨cc, c1⟩, c2⟩, c3⟩ := c
      obtain ⟨hg, ht⟩ := sndH hs Q cc _ c2
      exact st_try Q.w.toWld Q.h (Q.hs cc).1 (Q.hs cc).2 Q.tk ht (fun W2 pn xe tk2 hp2 => sndS body (Q.tr cc tk2 hp2) _ c1) hg (sndS k Q _ c3)
    · cases c
  | .hnil, T, X, B, W, Q, sts, c => by unfold chkS at c; cases c
  | .hcons _ _ _ _, T, X, B, W, Q, sts, c => by unfold chkS at c; cases c
  | .raiseV _ _, T, X, B, W, Q, sts, c => by unfold chkS at c; cases c
  | .memo nm i xe sb ve, T, X, B, W, Q, sts, c => by
    unfold chkS at c
    split at c
    · rename_i m hl
      simp only [rdB, Bool.and_eq_true, decide_eq_true_eq, Bool.not_eq_true'] at c
      obtain ⟨⟨⟨⟨⟨⟨c0, ⟨⟨c5, c6⟩, c7⟩⟩, ⟨⟨c8, c9⟩, c10⟩⟩, c11⟩, ⟨⟨c12, c13⟩, c14⟩⟩, c15⟩, c16⟩ := c
      obtain ⟨p1, p2, p3, p4, p5, p6, p7, p8, p9, p10, p11, p12, hs⟩ := memoP_eq hl
      rw [hs]
      exact st_memo Q.w.toWld (Q.w.mm c11) Q.h c0 c5 c6 c7 (fun Γ => (sndE Q.w.toWld xe Q.h Q.hcm Q.hB c12).pe W Q.tk Γ) (fun Γ => (sndE Q.w.toWld xe Q.h Q.hcm Q.hB c13).pe W Q.tk Γ) (pair_ok Q.h c14) c8 (fun Γ => (sndE Q.w.toWld ve Q.h Q.hcm Q.hB c15).pe W Q.tk Γ) c10 c9 (sndS sb Q _ c16)
    · cases c
  | .setc i nm m k, T, X, B, W, Q, sts, c => by
    unfold chkS at c
    split at c
    · simp only [rdB, Bool.and_eq_true, decide_eq_true_eq] at c
      obtain ⟨⟨⟨c0, ⟨⟨c1, c2⟩, c3⟩⟩, cc⟩, c7⟩ := c
      exact st_setc Q.w.toWld Q.h Q.w.cok0 c0 c1 c2 c3 (sndS k Q _ c7)
    · cases c
  | .callIO i n l j m k, T, X, B, W, Q, sts, c => by
    unfold chkS at c
    split at c
    · split at c
      · rename_i kk hk
        split at c
        · rename_i es1 x px es2 hes
          simp only [wrB, rdB, Bool.and_eq_true, decide_eq_true_eq, Bool.not_eq_true'] at c
          obtain ⟨⟨⟨⟨⟨c1, c2⟩, ⟨⟨c3, c4⟩, c5⟩⟩, cc⟩, ⟨⟨⟨c6, c7⟩, c8⟩, c9⟩⟩, c10⟩ := c
          exact st_callIO Q.h c1 c2 c7 c6 (fun Γ => Q.w.io n kk hk N sc true X Q.h (Q.hcm cc) W Q.tk B Γ j x px _ es1 es2 _ _ hes c3 c4 c5 (sndL Q.w.toWld l Q.h Q.hcm Q.hB c8 W Q.tk Γ) (sndL Q.w.toWld m Q.h Q.hcm Q.hB c9 W Q.tk Γ)) (sndS k Q _ c10)
        · cases c
      · cases c
    · cases c
  | .retIO e j, T, X, B, W, Q, sts, c => by
    unfold chkS at c
    split at c
    · exact st_retIO (fun Γ => (sndE Q.w.toWld e Q.h Q.hcm Q.hB c).pe W Q.tk Γ)
    · cases c
  | .asgN i n l k, T, X, B, W, Q, sts, c => by
    unfold chkS at c
    split at c
    · split at c
      · rename_i kk hk
        split at c
        · rename_i es hes
          simp only [wrB, Bool.and_eq_true, decide_eq_true_eq, Bool.not_eq_true'] at c
          obtain ⟨⟨⟨⟨c1, c2⟩, cc⟩, ⟨⟨c3, c4⟩, c5⟩⟩, c6⟩ := c
          exact st_asgN Q.h c1 c2 c4 c3 (fun Γ => Q.w.nw n kk hk _ _ _ _ Q.h (Q.hcm cc) W Q.tk _ _ _ _ _ hes (sndL Q.w.toWld l Q.h Q.hcm Q.hB c5 W Q.tk Γ)) (sndS k Q _ c6)
        · cases c
      · cases c
    · cases c
  | .loopB tg kl i body k, T, X, B, W, Q, sts, c => by
    unfold chkS at c
    split at c
    · simp only [rdB, Bool.and_eq_true, decide_eq_true_eq] at c
      obtain ⟨⟨⟨⟨⟨⟨c1, c2⟩, c3⟩, c4⟩, cc⟩, c5⟩, c6⟩ := c
      exact st_loopB Q.h (Q.hcm cc) (Q.hp cc) c1 c2 c3 c4 (fun a u => sndS body (Q.lend cc) _ c5) (sndS k Q _ c6)
    · cases c
  | .retO i, T, X, B, W, Q, sts, c => by
    unfold chkS at c
    split at c
    · simp only [rdB, Bool.and_eq_true, decide_eq_true_eq] at c
      obtain ⟨⟨c1, c2⟩, c3⟩ := c
      exact st_retO Q.h c1 c2 c3
    · cases c
  | .superI _ _ _ _, T, X, B, W, Q, sts, c => by unfold chkS at c; cases c
  | .clr i k, T, X, B, W, Q, sts, c => by
    unfold chkS at c
    split at c
    · simp only [rdB, Bool.and_eq_true, decide_eq_true_eq] at c
      obtain ⟨⟨⟨c0, ⟨⟨c1, c2⟩, c3⟩⟩, c4⟩, c5⟩ := c
      subst c0
      exact st_clr Q.h c1 c2 c3 c4 (sndS k Q _ c5)
    · cases c
  | .rev i k, T, X, B, W, Q, sts, c => by
    unfold chkS at c
    split at c
    · simp only [rdB, Bool.and_eq_true, decide_eq_true_eq] at c
      obtain ⟨⟨⟨c0, ⟨⟨c1, c2⟩, c3⟩⟩, c4⟩, c5⟩ := c
      subst c0
      exact st_rev Q.h c1 c2 c3 c4 (sndS k Q _ c5)
    · cases c
  | .ins i a e k, T, X, B, W, Q, sts, c => by
    unfold chkS at c
    split at c
    · simp only [rdB, Bool.and_eq_true, decide_eq_true_eq] at c
      obtain ⟨⟨⟨⟨⟨⟨⟨c0, ⟨⟨c1, c2⟩, c3⟩⟩, c4⟩, c5⟩, c6⟩, c7⟩, c8⟩, c9⟩ := c
      subst c0
      exact st_ins Q.h c1 c2 c3 c4 c5 c6 (fun Γ => (sndE Q.w.toWld a Q.h Q.hcm Q.hB c7).pe W Q.tk Γ) (fun Γ => (sndE Q.w.toWld e Q.h Q.hcm Q.hB c8).pe W Q.tk Γ) (sndS k Q _ c9)
    · cases c
  | .any, T, X, B, W, Q, sts, c => ⟨fun pins s0 σ H D I ⟨Γ, F, s, p⟩ => False.elim p⟩
theorem sndH : ∀ (s : Sm) {T : Tb} {X : Cx} {B : Bs} {W : WX} (Q : SOk C T N sc X B W) (hc : T.calm = true) (hds : List ExceptHandler), chkH T N sc s hds = true → HdG X hds (hdT C B s) ∧ tokH C s = true
  | .hnil, T, X, B, W, Q, hc, hds, c => by
    unfold chkH at c
    split at c
    · exact ⟨.nil, rfl⟩
    · cases c
  | .hcons t slot suite r, T, X, B, W, Q, hc, hds, c => by
    unfold chkH at c
    split at c
    · rename_i x p nm b0 lb p2 hds2
      simp only [Bool.and_eq_true] at c
      obtain ⟨⟨⟨c1, c2⟩, c3⟩, c4⟩ := c
      obtain ⟨ih1, ih2⟩ := sndH r Q hc _ c4
      split at c1
      · rename_i n
        simp only [Bool.and_eq_true, decide_eq_true_eq] at c1
        have xn := Q.w.xnm _ _ c1.1
        have nm1 : Names X x (.ref (C.exa n)) := ⟨Q.h.gl c1.2, nm_d (glB_nm c1.2), .inl (by rw [Q.h.eM]; exact xn.1)⟩
        have su : SuOk X (b0 :: lb) (tSu C B suite) := fun a oe cls d pn hz hf => ⟨fun pins s σ H D I ⟨m, e1, e2, hx, q⟩ => by
          subst e1 e2
          exact (sndS suite (Q.suite hz hf hx) _ c3).run pins s σ H D I q⟩
        refine ⟨?_, by show (C.hasX n && tokH C r) = true; rw [xn.2, ih2]; rfl⟩
        split at c2
        · exact .plain nm1 su ih1
        · simp only [Bool.and_eq_true, decide_eq_true_eq] at c2
          exact .named nm1 (by rw [Q.h.eN]; exact c2.1) (show X.env.scope.names.lookup _ = _ by rw [Q.h.eS]; exact c2.2) su ih1
        · cases c2
      · cases c1
    · cases c
  | .nil, T, X, B, W, Q, hc, hds, c => by unfold chkH at c; cases c
  | .asg _ _ _, T, X, B, W, Q, hc, hds, c => by unfold chkH at c; cases c
  | .asgO _ _ _, T, X, B, W, Q, hc, hds, c => by unfold chkH at c; cases c
  | .newD _ _ _, T, X, B, W, Q, hc, hds, c => by unfold chkH at c; cases c
  | .disp _ _ _ _ _, T, X, B, W, Q, hc, hds, c => by unfold chkH at c; cases c
  | .unp _ _ _, T, X, B, W, Q, hc, hds, c => by unfold chkH at c; cases c
  | .swp _ _ _ _ _, T, X, B, W, Q, hc, hds, c => by unfold chkH at c; cases c
  | .aug _ _ _ _, T, X, B, W, Q, hc, hds, c => by unfold chkH at c; cases c
  | .app _ _ _, T, X, B, W, Q, hc, hds, c => by unfold chkH at c; cases c
  | .ext _ _ _, T, X, B, W, Q, hc, hds, c => by unfold chkH at c; cases c
  | .pop _ _ _, T, X, B, W, Q, hc, hds, c => by unfold chkH at c; cases c
  | .seti _ _ _ _, T, X, B, W, Q, hc, hds, c => by unfold chkH at c; cases c
  | .dput _ _ _ _, T, X, B, W, Q, hc, hds, c => by unfold chkH at c; cases c
  | .frz _ _, T, X, B, W, Q, hc, hds, c => by unfold chkH at c; cases c
  | .ifs _ _ _ _, T, X, B, W, Q, hc, hds, c => by unfold chkH at c; cases c
  | .loop _ _ _ _ _ _, T, X, B, W, Q, hc, hds, c => by unfold chkH at c; cases c
  | .loopg _ _ _ _ _ _, T, X, B, W, Q, hc, hds, c => by unfold chkH at c; cases c
  | .whl _ _ _ _, T, X, B, W, Q, hc, hds, c => by unfold chkH at c; cases c
  | .ret _, T, X, B, W, Q, hc, hds, c => by unfold chkH at c; cases c
  | .retN, T, X, B, W, Q, hc, hds, c => by unfold chkH at c; cases c
  | .brk, T, X, B, W, Q, hc, hds, c => by unfold chkH at c; cases c
  | .cont, T, X, B, W, Q, hc, hds, c => by unfold chkH at c; cases c
  | .raise _, T, X, B, W, Q, hc, hds, c => by unfold chkH at c; cases c
  | .raiseV _ _, T, X, B, W, Q, hc, hds, c => by unfold chkH at c; cases c
  | .drop _ _, T, X, B, W, Q, hc, hds, c => by unfold chkH at c; cases c
  | .pass _, T, X, B, W, Q, hc, hds, c => by unfold chkH at c; cases c
  | .setf _ _ _ _, T, X, B, W, Q, hc, hds, c => by unfold chkH at c; cases c
  | .hook _ _, T, X, B, W, Q, hc, hds, c => by unfold chkH at c; cases c
  | .any, T, X, B, W, Q, hc, hds, c => by unfold chkH at c; cases c
  | .tryx _ _ _, T, X, B, W, Q, hc, hds, c => by unfold chkH at c; cases c
  | .memo _ _ _ _ _, T, X, B, W, Q, hc, hds, c => by unfold chkH at c; cases c
  | .setc _ _ _ _, T, X, B, W, Q, hc, hds, c => by unfold chkH at c; cases c
  | .callIO _ _ _ _ _ _, T, X, B, W, Q, hc, hds, c => by unfold chkH at c; cases c
  | .retIO _ _, T, X, B, W, Q, hc, hds, c => by unfold chkH at c; cases c
  | .asgN _ _ _ _, T, X, B, W, Q, hc, hds, c => by unfold chkH at c; cases c
  | .retO _, T, X, B, W, Q, hc, hds, c => by unfold chkH at c; cases c
  | .loopB _ _ _ _ _, T, X, B, W, Q, hc, hds, c => by unfold chkH at c; cases c
  | .superI _ _ _ _, T, X, B, W, Q, hc, hds, c => by unfold chkH at c; cases c
  | .clr _ _, T, X, B, W, Q, hc, hds, c => by unfold chkH at c; cases c
  | .rev _ _, T, X, B, W, Q, hc, hds, c => by unfold chkH at c; cases c
  | .ins _ _ _ _, T, X, B, W, Q, hc, hds, c => by unfold chkH at c; cases c
end
end
end G
namespace G
open PySem L2
def spP (C : Cfg) (n : Nat) (sem : List D → R D) : Sp := fun vs H Q E => ∃ F ds, Fits C F H ∧ RepL C F vs ds ∧ vs.length = n ∧ Po C (RpD C) F H (sem ds) Q (Ww C E)
def outR : Out → R D
  | .next _ => .ok .non
  | .ret d => .ok d
  | .exc c _ => .exc c
  | _ => .bad
def gam0 (N : List Str) (ds : List D) : Gam := ds.map Cell.val ++ List.replicate (N.length - ds.length) .dead
def gamI (N : List Str) (c : Nat) (ds : List D) : Gam := Cell.ownI c [] :: (ds.map Cell.val ++ List.replicate (N.length - (ds.length + 1)) .dead)
def doneI (M : Mng) (c : Nat) : Gam → R D
  | .ownI e l :: _ => if e = c ∧ l.length = (M.flds c).length then .ok (.obj c l) else .bad
  | _ => .bad
def outI (M : Mng) (c : Nat) : Out → R D
  | .next Γ => doneI M c Γ
  | .exc e _ => .exc e
  | _ => .bad
abbrev Cfg.at (C : Cfg) (j : Nat) : Cfg := { C with J := j }
abbrev FnP (C : Cfg) (k : Nat) (f : Addr) (fd : FuncData) (ps : List Str) (sp : Sp) : Prop := FnOk C.P C.w C.K C.mg C.base (L2.CX C.P C.w) k f fd ps sp
section
variable {C : Cfg} {T : Tb} {N ps : List Str} {F0 : Wd} {H : Hp} {vs : List V} {ds : List D}
theorem slots0 {B : Bs} {k : Nat} (r : RepL C F0 vs ds) : ∀ (i : Nat) (c : Cell), (ds.map Cell.val ++ List.replicate k .dead)[i]? = some c → SlotOk C B F0 H ((vs.map some ++ List.replicate k none)[i]?.join) c := by
  intro i c h
  have hl := r.len
  by_cases hi : i < ds.length
  · rw [List.getElem?_append_left (by simpa using hi), List.getElem?_map] at h
    cases e : ds[i]? with
    | none => rw [e] at h; cases h
    | some d =>
      rw [e] at h
      cases h
      obtain ⟨v, hv, rv⟩ := r.get e
      refine ⟨v, ?_, rv⟩
      rw [List.getElem?_append_left (by simp; omega), List.getElem?_map, hv]
      rfl
  · rw [List.getElem?_append_right (by simp; omega), List.getElem?_replicate] at h
    split at h
    · cases h; trivial
    · cases h
theorem cells0 {k : Nat} : ∀ (i : Nat) (c : Cell), (ds.map Cell.val ++ List.replicate k Cell.dead)[i]? = some c → c.own = false := by
  intro i c h
  by_cases hi : i < ds.length
  · rw [List.getElem?_append_left (by simpa using hi), List.getElem?_map] at h
    cases e : ds[i]? with
    | none => rw [e] at h; cases h
    | some d => rw [e] at h; cases h; rfl
  · rw [List.getElem?_append_right (by simp; omega), List.getElem?_replicate] at h
    split at h
    · cases h; rfl
    · cases h
theorem start_SR (f : Fits C F0 H) (r : RepL C F0 vs ds) : SR C { w := F0, h := H, me := 0 } F0 H (L2.start N vs) (gam0 N ds) := by
  have hl := r.len
  have e  : L2.start N vs = vs.map some ++ List.replicate (N.length - ds.length) none := by unfold L2.start; rw [hl]
  rw [e]
  refine ⟨f, Ext.refl _ _, by unfold gam0; simp [hl], slots0 r, fun i j c c' a h1 h2 o1 o2 _ _ => ?_⟩
  rw [cells0 i c h1] at o1; cases o1
theorem startI_SR {H1 : Hp} {p dx : Addr} {c : Nat} (hc : C.has c = true) (f : Fits C F0 H1) (r : RepL C F0 vs ds) (hp : H1 p = none) (hd : H1 dx = none) (hne : dx ≠ p) :
    SR C { w := F0, h := H1, me := p } F0 (upd (upd H1 dx (.own p)) p (.ins (C.cls c) dx [])) (L2.start N (.ref p :: vs)) (gamI N c ds) := by
  have hl := r.len
  have e  : L2.start N (.ref p :: vs) = some (.ref p) :: (vs.map some ++ List.replicate (N.length - (ds.length + 1)) none) := by unfold L2.start; simp [hl]
  rw [e]
  have hp2 : upd H1 dx (.own p) p = none := by rw [upd_ne (Ne.symm hne)]; exact hp
  have ef : Ext F0 H1 F0 (upd (upd H1 dx (.own p)) p (.ins (C.cls c) dx [])) := ((Ext.refl F0 H1).fresh hd).fresh hp
  refine ⟨(f.fresh hd).fresh hp2, ef, by unfold gamI; simp [hl], fun i c' h => ?_, fun i j c1 c2 a h1 h2 o1 o2 _ _ => ?_⟩
  · cases i with
    | zero =>
      cases h
      exact ⟨p, [], rfl, rfl, f.free hp, hp, ⟨dx, by rw [upd_same]; rfl⟩, rfl, hc⟩
    | succ i => exact slots0 (k := N.length - (ds.length + 1)) r i c' h
  · have key : ∀ (i : Nat) (c' : Cell), (gamI N c ds)[i]? = some c' → c'.own = true → i = 0 := by
      intro i c' h o
      cases i with
      | zero => rfl
      | succ i =>
        have := cells0 (k := N.length - (ds.length + 1)) i c' h
        rw [this] at o; cases o
    rw [key i c1 h1 o1, key j c2 h2 o2]
variable {x qual : Str} {st : Stmt} {f : Addr} {fd : FuncData} {body : Sm} {sem : List D → R D}
theorem xok_def {Pp : Program} {w : World} {K : PySem.W.Frag} {mg : Str → Option Value} {base : Heap} (eP : Pp = C.P) (eW : w = C.w) (eK : K = C.K) (eM : mg = C.mg) (eB : base = C.base) {sc : Scope} (nd : N.Nodup) {cdv : Value} {A : Around} {outer : List Env} {s : Shared} {H : Hp} {E : XK}
    (hr : Room C.J (A.deeper (PyProof.Rows.envOfC qual sc s.heap.objs.size f cdv))) : XOk C N sc true (cxOf (L2.CX Pp w) Pp w K mg base N qual sc f cdv A outer s H E) :=
  ⟨eP, eW, eK, eM, eB, rfl, rfl, nd, hr.dp, hr.un, fun _ _ => rfl⟩
theorem def_ok (w2 : Wl2 C T) (hcalm : T.calm = true) (F : Fun C.K x qual st f fd) (S : FnScope N ps (defScope st)) (hc : chkS T N (defScope st) body (defBody st) = true)
    (hs : ∀ ds, ds.length = ps.length → sem ds ≠ .bad → outR (evS C.toMng body (gam0 N ds)) = sem ds) : FnP C (C.J + 1) f fd ps (spP C ps.length sem) := by
  refine F.okX S (fun vs H Q E h => ?_) (fun cdv A outer s H vs Q E hr h => ?_)
  · obtain ⟨_, _, _, _, e, _⟩ := h
    exact e
  · obtain ⟨F0, ds, ft, r, e, p⟩ := h
    have hx : XOk C N (defScope st) true _ := xok_def (Pp := C.P) (E := E) (H := H) (s := s) (outer := outer) (cdv := cdv) rfl rfl rfl rfl rfl S.nd hr
    refine ⟨_, sndS body (B := { w := F0, h := H, me := 0 }) (W := fun cls d _ H => E cls d H) ⟨w2, hx, fun _ => ⟨rfl, hr⟩, fun z => (by rw [hcalm] at z; cases z), S.kind, fun _ => passes_of rfl, fun _ => ⟨rfl, rfl⟩, takes_of rfl rfl rfl rfl⟩ _ hc, ?_⟩
    refine ⟨gam0 N ds, F0, start_SR ft r, ?_⟩
    have hsem := hs ds (by rw [← r.len, e])
    cases eo : sem ds with
    | bad => rw [eo] at p; exact False.elim p
    | ok d =>
      rw [eo] at p hsem
      have hsem := hsem (fun z => by cases z)
      cases ev : evS C.toMng body (gam0 N ds) with
      | next Γ =>
        rw [ev] at hsem
        cases hsem
        exact fun σ F' H' sr _ => p _ F' H' sr.ext sr.fits rfl
      | ret d' =>
        rw [ev] at hsem
        cases hsem
        exact fun v F' H' fi ex rv => p v F' H' ex fi rv
      | rio d ks vs => rw [ev] at hsem; cases hsem
      | rown l => rw [ev] at hsem; cases hsem
      | brk Γ => rw [ev] at hsem; cases hsem
      | cont Γ => rw [ev] at hsem; cases hsem
      | exc c Γ => rw [ev] at hsem; cases hsem
      | bad => rw [ev] at hsem; cases hsem
    | exc c0 =>
      rw [eo] at p hsem
      have hsem := hsem (fun z => by cases z)
      cases ev : evS C.toMng body (gam0 N ds) with
      | exc c Γ =>
        rw [ev] at hsem
        cases hsem
        exact fun σ F' H' sr _ => p F' H' sr.ext sr.fits
      | next Γ => rw [ev] at hsem; cases hsem
      | ret d' => rw [ev] at hsem; cases hsem
      | rio d ks vs => rw [ev] at hsem; cases hsem
      | rown l => rw [ev] at hsem; cases hsem
      | brk Γ => rw [ev] at hsem; cases hsem
      | cont Γ => rw [ev] at hsem; cases hsem
      | bad => rw [ev] at hsem; cases hsem
def outN : Out → R D
  | .rown l => .ok (.lst l)
  | .exc c _ => .exc c
  | _ => .bad
def spN (C : Cfg) (n : Nat) (sem : List D → R D) : Sp := fun vs H Q E => ∃ F ds, Fits C F H ∧ RepL C F vs ds ∧ vs.length = n ∧ Po C (RpN C H) F H (sem ds) Q (Ww C E)
theorem defN_ok (w2 : Wl2 C T) (hcalm : T.calm = true) (F : Fun C.K x qual st f fd) (S : FnScope N ps (defScope st)) (hc : chkS T N (defScope st) body (defBody st) = true)
    (hs : ∀ ds, ds.length = ps.length → sem ds ≠ .bad → outN (evS C.toMng body (gam0 N ds)) = sem ds) : FnP C (C.J + 1) f fd ps (spN C ps.length sem) := by
  refine F.okX S (fun vs H Q E h => ?_) (fun cdv A outer s H vs Q E hr h => ?_)
  · obtain ⟨_, _, _, _, e, _⟩ := h
    exact e
  · obtain ⟨F0, ds, ft, r, e, p⟩ := h
    have hx : XOk C N (defScope st) true _ := xok_def (Pp := C.P) (E := E) (H := H) (s := s) (outer := outer) (cdv := cdv) rfl rfl rfl rfl rfl S.nd hr
    refine ⟨_, sndS body (B := { w := F0, h := H, me := 0 }) (W := fun cls d _ H => E cls d H) ⟨w2, hx, fun _ => ⟨rfl, hr⟩, fun z => (by rw [hcalm] at z; cases z), S.kind, fun _ => passes_of rfl, fun _ => ⟨rfl, rfl⟩, takes_of rfl rfl rfl rfl⟩ _ hc, ?_⟩
    refine ⟨gam0 N ds, F0, start_SR ft r, ?_⟩
    have hsem := hs ds (by rw [← r.len, e])
    cases eo : sem ds with
    | bad => rw [eo] at p; exact False.elim p
    | ok d =>
      rw [eo] at p hsem
      have hsem := hsem (fun z => by cases z)
      cases ev : evS C.toMng body (gam0 N ds) with
      | next Γ => rw [ev] at hsem; cases hsem
      | ret d' => rw [ev] at hsem; cases hsem
      | rio d ks vs => rw [ev] at hsem; cases hsem
      | rown l =>
        rw [ev] at hsem
        cases hsem
        exact fun a xs F' H' fi ex fa ba ha rl => p _ F' H' ex fi ⟨a, xs, rfl, ba, fa, ha, rl⟩
      | brk Γ => rw [ev] at hsem; cases hsem
      | cont Γ => rw [ev] at hsem; cases hsem
      | exc c Γ => rw [ev] at hsem; cases hsem
      | bad => rw [ev] at hsem; cases hsem
    | exc c0 =>
      rw [eo] at p hsem
      have hsem := hsem (fun z => by cases z)
      cases ev : evS C.toMng body (gam0 N ds) with
      | exc c Γ =>
        rw [ev] at hsem
        cases hsem
        exact fun σ F' H' sr _ => p F' H' sr.ext sr.fits
      | next Γ => rw [ev] at hsem; cases hsem
      | ret d' => rw [ev] at hsem; cases hsem
      | rio d ks vs => rw [ev] at hsem; cases hsem
      | rown l => rw [ev] at hsem; cases hsem
      | brk Γ => rw [ev] at hsem; cases hsem
      | cont Γ => rw [ev] at hsem; cases hsem
      | bad => rw [ev] at hsem; cases hsem
def spI (C : Cfg) (c n : Nat) (sem : List D → R D) : Sp := fun vs H Q E => ∃ F ds H1 p dx us, vs = .ref p :: us ∧ H1 p = none ∧ H1 dx = none ∧ dx ≠ p ∧ H = upd (upd H1 dx (.own p)) p (.ins (C.cls c) dx []) ∧
  Fits C F H1 ∧ RepL C F us ds ∧ us.length + 1 = n ∧ Po C (RpD C) F H1 (sem ds) (fun v H' => v = .ref p → Q .non H') (Ww C E)
theorem init_ok {c : Nat} (w2 : Wl2 C T) (hcalm : T.calm = true) (hcls : C.has c = true) (F : Fun C.K x qual st f fd) (S : FnScope N ps (defScope st)) (hc : chkS T N (defScope st) body (defBody st) = true)
    (hs : ∀ ds, ds.length + 1 = ps.length → sem ds ≠ .bad → outI C.toMng c (evS C.toMng body (gamI N c ds)) = sem ds) : FnP C (C.J + 1) f fd ps (spI C c ps.length sem) := by
  refine F.okX S (fun vs H Q E h => ?_) (fun cdv A outer s H vs Q E hr h => ?_)
  · obtain ⟨_, _, _, _, _, us, rfl, _, _, _, _, _, _, e, _⟩ := h
    exact e
  · obtain ⟨F0, ds, H1, a, dx, us, rfl, ha, hd, hne, rfl, ft, r, e, p⟩ := h
    have hx : XOk C N (defScope st) true _ := xok_def (Pp := C.P) (E := E) (H := (upd (upd H1 dx (.own a)) a (.ins (C.cls c) dx []))) (s := s) (outer := outer) (cdv := cdv) rfl rfl rfl rfl rfl S.nd hr
    refine ⟨_, sndS body (B := { w := F0, h := H1, me := a }) (W := fun cls d _ H => E cls d H) ⟨w2, hx, fun _ => ⟨rfl, hr⟩, fun z => (by rw [hcalm] at z; cases z), S.kind, fun _ => passes_of rfl, fun _ => ⟨rfl, rfl⟩, takes_of rfl rfl rfl rfl⟩ _ hc, ?_⟩
    have s0 := startI_SR (N := N) (c := c) hcls ft r ha hd hne
    refine ⟨gamI N c ds, F0, s0, ?_⟩
    have hsem := hs ds (by rw [← r.len, e])
    cases ev : evS C.toMng body (gamI N c ds) with
    | next Γ =>
      rw [ev] at hsem
      have slot0 : ∀ σ F' H', SR C { w := F0, h := H1, me := a } F' H' σ Γ → True := fun _ _ _ _ => trivial
      cases eo : sem ds with
      | bad => rw [eo] at p; exact False.elim p
      | exc c0 =>
        rw [eo] at hsem
        have hsem : doneI C.toMng c Γ = .exc c0 := hsem (fun z => by cases z)
        unfold doneI at hsem
        split at hsem
        · split at hsem <;> cases hsem
        · cases hsem
      | ok d =>
        rw [eo] at hsem p
        have hsem : doneI C.toMng c Γ = .ok d := hsem (fun z => by cases z)
        unfold doneI at hsem
        split at hsem
        · rename_i c1 l Γr _
          split at hsem
          · rename_i hcl
            obtain ⟨rfl, hl⟩ := hcl
            cases hsem
            intro σ F' H' sr _
            obtain ⟨b, xs, e1, me, fa, ba, ⟨dx', hb⟩, rl, hcc⟩ := sr.sl 0 _ rfl
            subst me
            have htk : (C.flds c1).take l.length = C.flds c1 := by rw [hl]; exact List.take_length
            refine p (.ref b) _ H' (sr.ext.adopt fa ba) (sr.fits.adopt fa hb) ⟨b, dx', xs, rfl, hcc, updW_same, Nat.le_of_eq hl, RepL.le (le_upd fa) _ _ rl⟩ rfl
          · cases hsem
        · cases hsem
    | ret d' =>
      exfalso
      rw [ev] at hsem
      cases eo : sem ds with
      | bad => rw [eo] at p; exact False.elim p
      | exc c0 => rw [eo] at hsem; have := hsem (fun z => by cases z); cases this
      | ok d => rw [eo] at hsem; have := hsem (fun z => by cases z); cases this
    | rio d' ks vs =>
      exfalso
      rw [ev] at hsem
      cases eo : sem ds with
      | bad => rw [eo] at p; exact False.elim p
      | exc c0 => rw [eo] at hsem; have := hsem (fun z => by cases z); cases this
      | ok d => rw [eo] at hsem; have := hsem (fun z => by cases z); cases this
    | rown l' =>
      exfalso
      rw [ev] at hsem
      cases eo : sem ds with
      | bad => rw [eo] at p; exact False.elim p
      | exc c0 => rw [eo] at hsem; have := hsem (fun z => by cases z); cases this
      | ok d => rw [eo] at hsem; have := hsem (fun z => by cases z); cases this
    | brk Γ =>
      exfalso
      rw [ev] at hsem
      cases eo : sem ds with
      | bad => rw [eo] at p; exact False.elim p
      | exc c0 => rw [eo] at hsem; have := hsem (fun z => by cases z); cases this
      | ok d => rw [eo] at hsem; have := hsem (fun z => by cases z); cases this
    | cont Γ =>
      exfalso
      rw [ev] at hsem
      cases eo : sem ds with
      | bad => rw [eo] at p; exact False.elim p
      | exc c0 => rw [eo] at hsem; have := hsem (fun z => by cases z); cases this
      | ok d => rw [eo] at hsem; have := hsem (fun z => by cases z); cases this
    | exc c0 Γ =>
      rw [ev] at hsem
      cases eo : sem ds with
      | bad => rw [eo] at p; exact False.elim p
      | ok d => rw [eo] at hsem; have := hsem (fun z => by cases z); cases this
      | exc c1 =>
        rw [eo] at hsem p
        have := hsem (fun z => by cases z)
        cases this
        exact fun σ F' H' sr _ => p F' H' sr.ext sr.fits
    | bad =>
      exfalso
      rw [ev] at hsem
      cases eo : sem ds with
      | bad => rw [eo] at p; exact False.elim p
      | exc c0 => rw [eo] at hsem; have := hsem (fun z => by cases z); cases this
      | ok d => rw [eo] at hsem; have := hsem (fun z => by cases z); cases this
end
end G
namespace G
open PySem L2
mutual
theorem Rep_at (C : Cfg) (j : Nat) (F : Wd) : ∀ (d : D) (v : V), Rep (C.at j) F v d = Rep C F v d
  | .non, _ => rfl
  | .bl _, _ => rfl
  | .int _, _ => rfl
  | .str _, _ => rfl
  | .tup l, v => by rw [Rep, Rep]; simp only [RepL_at C j F l]
  | .lst l, v => by rw [Rep, Rep]; simp only [RepL_at C j F l]
  | .obj c l, v => by rw [Rep, Rep]; simp only [RepL_at C j F l]; rfl
  | .scr l, v => rfl
  | .byt _, _ => rfl
  | .dict k ks l, v => by rw [Rep, Rep]; simp only [RepL_at C j F l, RepL_at C j F ks]; rfl
  | .cache m, v => rfl
  | .cls n, v => rfl
theorem RepL_at (C : Cfg) (j : Nat) (F : Wd) : ∀ (l : List D) (vs : List V), RepL (C.at j) F vs l = RepL C F vs l
  | [], _ => rfl
  | d :: ds, vs => by rw [RepL, RepL]; simp only [Rep_at C j F d, RepL_at C j F ds]
end
theorem RpD_at (C : Cfg) (j : Nat) : RpD (C.at j) = RpD C := by funext F H v d; exact Rep_at C j F d v
theorem Po_at {α β : Type} (C : Cfg) (j : Nat) {Rp : Wd → Hp → β → α → Prop} {F : Wd} {H : Hp} {r : R α} {Q : β → Hp → Prop} {Ex : Ec → Hp → Prop} : Po (C.at j) Rp F H r Q Ex = Po C Rp F H r Q Ex := by
  cases r <;> rfl
theorem at_sp (C : Cfg) (j n : Nat) (sem : List D → R D) : spP (C.at j) n sem = spP C n sem := by
  funext vs H Q E
  unfold spP
  simp only [RepL_at, Po_at, RpD_at]
  rfl
theorem at_spN (C : Cfg) (j n : Nat) (sem : List D → R D) : spN (C.at j) n sem = spN C n sem := by
  funext vs H Q E
  unfold spN
  have e : RpN (C.at j) H = RpN C H := by
    funext F H' v d
    cases d <;> simp only [RpN, Rep_at, RepL_at]
  simp only [RepL_at, Po_at, e]
  rfl
theorem at_spI (C : Cfg) (j c n : Nat) (sem : List D → R D) : spI (C.at j) c n sem = spI C c n sem := by
  funext vs H Q E
  unfold spI
  simp only [RepL_at, Po_at, RpD_at]
  rfl
theorem Po.monoN {C : Cfg} {F F1 : Wd} {H H1 : Hp} {r : R D} {Q : VK} {Ex : Ec → Hp → Prop} (p : Po C (RpN C H) F1 H1 r Q Ex) (e : Ext F H F1 H1) : Po C (RpN C H1) F1 H1 r Q Ex := by
  cases r with
  | ok d =>
    intro v F' H' e' f q
    refine p v F' H' e' f ?_
    cases d with
    | lst l =>
      obtain ⟨a, xs, rfl, h0, fa, r⟩ := q
      refine ⟨a, xs, rfl, ?_, fa, r⟩
      cases hh : H a with
      | none => rfl
      | some u =>
        have := e.keep a u hh fun m hm => by
          have := e'.le a _ (e.le a _ hm)
          rw [fa] at this; cases this
        rw [h0] at this; cases this
    | _ => exact q
  | exc c => exact p
  | bad => exact p
section
variable {C : Cfg} {T : Tb} {X : Cx} {B : Bs} {Γ : Gam} {W : WX} {N ps : List Str} {sc : Scope} {top : Bool} {F0 : Wd} {H : Hp} {vs : List V} {ds : List D} {k n : Nat} {f : Addr} {fd : FuncData} {x m : Str} {sem : List D → R D} {es : List Expr} {rs : R (List D)} {p pos : Pos}
theorem XOk.fn (h : XOk C N sc top X) {k : Nat} {f : Addr} {fd : FuncData} {ps : List Str} {sp : Sp} (F : FnP C k f fd ps sp) : FnOk X.prog X.w X.K X.mg X.base (L2.CX X.prog X.w) k f fd ps sp := by
  rw [h.eP, h.eW, h.eK, h.eM, h.eB]; exact F
theorem PL.call (h : PL C X B Γ W es rs) {σ : L2.St} {H : Hp} {Q : VK} (q : tD C B Γ W (rs.bind sem) σ H Q) (hn : es.length = n) : tL C B Γ W rs σ H fun vs H1 => spP C n sem vs H1 Q (WE W σ) := by
  obtain ⟨F, s, p⟩ := q
  exact ⟨F, s, p.bind.mono fun vs H1 ⟨F1, ds, e1, f1, r1, er, p1⟩ => ⟨F1, ds, f1, r1, by rw [r1.len, h.len er, hn], p1⟩⟩
theorem cb_fn (hk : k ≤ C.J) (F : FnP C k f fd ps (spP C n sem)) (hm : C.mg x = some (.ref f)) (hkp : PySem.W.keepIn C.K (.ref f) = true) (hb : Binds C.K fd ps []) : CbOk C (cbArgs (.fn x) n) sem := by
  intro N sc top X h hcm W tk B Γ ex es rs ha hl
  unfold cbArgs at ha
  dsimp only at ha
  split at ha
  · rename_i y p args pos
    split at ha
    · rename_i hc
      obtain ⟨rfl, hg, hlen⟩ := hc
      cases ha
      have hm' : X.mg y = some (.ref f) := by rw [h.eM]; exact hm
      have hkp' : PySem.W.keepIn X.K (.ref f) = true := by rw [h.eK]; exact hkp
      have hb' : Binds X.K fd ps [] := by rw [h.eK]; exact hb
      have pe : PE X (.Call (.Name y p) es [] pos) (tD C B Γ W (rs.bind sem)) := by
        cases es with
        | nil =>
          refine ⟨fun pins s σ H Q I q => ?_⟩
          refine wpAny_Call_Name_kw (ld_glob I (h.gl hg) hm' ?_ (nm_d (glB_nm hg)))
          obtain ⟨F9, sr, p⟩ := q
          rw [hl.nil_inv] at p
          exact PySem.W.callWith_K0 I.kIn hkp' (run_fnS (us := []) (E := WE W) (h.fn F) (hcm.room.mono hk) hb' (passAt tk σ) I .nil ⟨F9, [], sr.fits, rfl, hlen, p⟩)
        | cons e es =>
          have o := hl.ok
          simp only [List.all_cons, Bool.and_eq_true] at o
          exact (pe_callS (E := WE W) (h.fn F) (hcm.room.mono hk) (h.gl hg) hm' hkp' hb' (fun σ => passAt tk σ) hl.pa (nm_d (glB_nm hg)) (star_cons o.1) (star_any o.2)).imp fun σ H Q q => hl.call q hlen
      exact ⟨pe, nd_truth h pe (fun _ => rfl)⟩
    · cases ha
  · cases ha
theorem PL.callN (h : PL C X B Γ W es rs) {σ : L2.St} {H : Hp} {Q : VK} (q : tN C B Γ W (rs.bind sem) σ H Q) (hn : es.length = n) : tL C B Γ W rs σ H fun vs H1 => spN C n sem vs H1 Q (WE W σ) := by
  obtain ⟨F, s, p⟩ := q
  exact ⟨F, s, p.bind.mono fun vs H1 ⟨F1, ds, e1, f1, r1, er, p1⟩ => ⟨F1, ds, f1, r1, by rw [r1.len, h.len er, hn], p1.monoN e1⟩⟩
theorem cn_fn (hk : k ≤ C.J) (F : FnP C k f fd ps (spN C n sem)) (hm : C.mg x = some (.ref f)) (hkp : PySem.W.keepIn C.K (.ref f) = true) (hb : Binds C.K fd ps []) : CnOk C (cbArgs (.fn x) n) sem := by
  intro N sc top X h hcm W tk B Γ ex es rs ha hl
  unfold cbArgs at ha
  dsimp only at ha
  split at ha
  · rename_i y p args pos
    split at ha
    · rename_i hc
      obtain ⟨rfl, hg, hlen⟩ := hc
      cases ha
      have hm' : X.mg y = some (.ref f) := by rw [h.eM]; exact hm
      have hkp' : PySem.W.keepIn X.K (.ref f) = true := by rw [h.eK]; exact hkp
      have hb' : Binds X.K fd ps [] := by rw [h.eK]; exact hb
      have pe : PE X (.Call (.Name y p) es [] pos) (tN C B Γ W (rs.bind sem)) := by
        cases es with
        | nil =>
          refine ⟨fun pins s σ H Q I q => ?_⟩
          refine wpAny_Call_Name_kw (ld_glob I (h.gl hg) hm' ?_ (nm_d (glB_nm hg)))
          obtain ⟨F9, sr, p⟩ := q
          rw [hl.nil_inv] at p
          exact PySem.W.callWith_K0 I.kIn hkp' (run_fnS (us := []) (E := WE W) (h.fn F) (hcm.room.mono hk) hb' (passAt tk σ) I .nil ⟨F9, [], sr.fits, rfl, hlen, p⟩)
        | cons e es =>
          have o := hl.ok
          simp only [List.all_cons, Bool.and_eq_true] at o
          exact (pe_callS (E := WE W) (h.fn F) (hcm.room.mono hk) (h.gl hg) hm' hkp' hb' (fun σ => passAt tk σ) hl.pa (nm_d (glB_nm hg)) (star_cons o.1) (star_any o.2)).imp fun σ H Q q => hl.callN q hlen
      exact pe
    · cases ha
  · cases ha
theorem cb_fnN (hk : k ≤ C.J) (F : FnP C k f fd ps (spN C n sem)) (hm : C.mg x = some (.ref f)) (hkp : PySem.W.keepIn C.K (.ref f) = true) (hb : Binds C.K fd ps []) : CbOk C (cbArgs (.fn x) n) sem := by
  intro N sc top X h hcm W tk B Γ ex es rs ha hl
  have pe := nd_adopt (cn_fn hk F hm hkp hb N sc top X h hcm W tk B Γ ex es rs ha hl)
  unfold cbArgs at ha
  dsimp only at ha
  split at ha
  · split at ha
    · cases ha
      exact ⟨pe, nd_truth h pe (fun _ => rfl)⟩
    · cases ha
  · cases ha
theorem run_makeS {pins : List (Addr × Obj)} {σ : L2.St} {H : Hp} {s : Shared} {Q : VK} {us : List Value} {vs : List V} {CX : CXT} {Cl : Addr} {sp : Sp} {E : L2.St → XK} (M : Mk X.K Cl f) (F : FnOk X.prog X.w X.K X.mg X.base CX k f fd ps sp) (hr : Room (k + 1) X.A) (hb : Binds X.K fd ps [])
    (hx : PassesAt CX X σ (E σ)) (I : Inv X pins σ H s) (r : Vals vs us)
    (h : ∀ x dx, H x = none → H dx = none → dx ≠ x → sp (.ref x :: vs) (upd (upd H dx (.own x)) x (.ins Cl dx [])) (fun v H2 => v = .non ∧ Q (.ref x) H2) (E σ)) :
    wpAny (model X.prog X.w) X.A (call (.ref Cl) us) (EP X pins σ Q) X.xe s := by
  have hq := h (s.heap.objs.size + 1) s.heap.objs.size (I.hok.fresh (Nat.le_succ _)) (I.hok.fresh (Nat.le_refl _)) (Nat.ne_of_lt (Nat.lt_succ_self _))
  have I2 := Inv.made (C := Cl) I
  have r2 : Vals (V.ref (s.heap.objs.size + 1) :: vs) (Value.ref (s.heap.objs.size + 1) :: us) := .cons rfl r
  have hl : (Value.ref (s.heap.objs.size + 1) :: us).length = ps.length := by
    have e := r2.length
    rw [F.len _ _ _ _ hq] at e
    exact e.symm
  have b := hb _ (Value.ref (s.heap.objs.size + 1) :: us) I2.kIn (by rw [List.append_nil]; exact hl)
  rw [List.append_nil] at b
  refine wpAny_call (make_map (f := f) I.kIn M.makes M.init (beq_iff_eq.mp M.fn) (codeAny_mono (F.run _ X.stack _ _ ⟨Value.ref (s.heap.objs.size + 1) :: us, []⟩ (Value.ref (s.heap.objs.size + 1) :: us) _ _ (E σ) (hr.make Cl us [])
    (I2.env0.make Cl us []) b r2 hq) fun r s' hq' => ?_))
  cases r with
  | error e => exact hx pins _ _ e s' I2 hq'
  | ok fl =>
    cases fl with
    | ret u =>
      obtain ⟨v, H', I3, rv, ev, q3⟩ := I2.after hq'
      subst ev
      exact ⟨rv, ⟨V.ref (s.heap.objs.size + 1), H', I3, rfl, q3⟩⟩
    | next => exact False.elim hq'
    | brk => exact False.elim hq'
    | cont => exact False.elim hq'
theorem cb_make {c : Nat} (hk : k + 1 ≤ C.J) (F : FnP C k f fd ps (spI C c (n + 1) sem)) (M : Mk C.K (C.cls c) f) (hm : C.mg x = some (.ref (C.cls c))) (hb : Binds C.K fd ps []) : CbOk C (cbArgs (.fn x) n) sem := by
  intro N sc top X h hcm W tk B Γ ex es rs ha hl
  unfold cbArgs at ha
  dsimp only at ha
  split at ha
  · rename_i y p args pos
    split at ha
    · rename_i hc
      obtain ⟨rfl, hg, hlen⟩ := hc
      cases ha
      have hm' : X.mg y = some (.ref (C.cls c)) := by rw [h.eM]; exact hm
      have M' : Mk X.K (C.cls c) f := by rw [h.eK]; exact M
      have hb' : Binds X.K fd ps [] := by rw [h.eK]; exact hb
      have pe : PE X (.Call (.Name y p) es [] pos) (tD C B Γ W (rs.bind sem)) := by
        have key : ∀ {σ : L2.St} {H1 : Hp} {Q : VK} {vs : List V} {F1 : Wd} {ds : List D}, Fits C F1 H1 → RepL C F1 vs ds → vs.length = n → Po C (RpD C) F1 H1 (sem ds) Q (Wx C W σ) →
            ∀ x dx, H1 x = none → H1 dx = none → dx ≠ x → spI C c (n + 1) sem (.ref x :: vs) (upd (upd H1 dx (.own x)) x (.ins (C.cls c) dx [])) (fun v H2 => v = .non ∧ Q (.ref x) H2) (WE W σ) := by
          intro σ H1 Q vs F1 ds f1 r1 hl1 p1 x dx hx hdx hne
          exact ⟨F1, ds, H1, x, dx, vs, rfl, hx, hdx, hne, rfl, f1, r1, by rw [hl1], p1.mono fun v H' q e => ⟨rfl, by rw [← e]; exact q⟩⟩
        cases es with
        | nil =>
          refine ⟨fun pins s σ H Q I q => ?_⟩
          refine wpAny_Call_Name_kw (ld_glob I (h.gl hg) hm' ?_ (nm_d (glB_nm hg)))
          obtain ⟨F9, sr, p⟩ := q
          rw [hl.nil_inv] at p
          exact PySem.W.callWith_K0 I.kIn M'.kp (run_makeS (us := []) (E := WE W) M' (h.fn F) (hcm.room.mono hk) hb' (passAt tk σ) I .nil (key (vs := []) (ds := []) sr.fits rfl hlen p))
        | cons e es =>
          have o := hl.ok
          simp only [List.all_cons, Bool.and_eq_true] at o
          refine ⟨fun pins s σ H Q I q => ?_⟩
          obtain ⟨F2, sr, p⟩ := q
          refine wpAny_Call_Name_kw (ld_glob I (h.gl hg) hm' ?_ (nm_d (glB_nm hg)))
          refine PySem.W.callWith_K (h₀ := X.base) I.ok.mod.kin M'.kp (thn (hl.pa.run pos pins s σ H _ I ⟨F2, sr, p.bind⟩) fun us s1 ⟨vs, H1, I1, r, q⟩ => ⟨I1.kIn, ?_⟩) (star_cons o.1) (star_any o.2)
          obtain ⟨F1, ds, e1, f1, r1, er, p1⟩ := q
          exact run_makeS (E := WE W) M' (h.fn F) (hcm.room.mono hk) hb' (passAt tk σ) I1 r (key f1 r1 (by rw [r1.len, hl.len er, hlen]) p1)
      exact ⟨pe, nd_truth h pe (fun _ => rfl)⟩
    · cases ha
  · cases ha
end
end G
namespace G
open PySem L2
section
variable {C : Cfg} {T : Tb} {X : Cx} {B : Bs} {Γ : Gam} {W : WX} {N ps : List Str} {sc : Scope} {top : Bool} {F0 : Wd} {H : Hp} {vs : List V} {ds : List D} {k n : Nat} {f g : Addr} {fd : FuncData} {x m : Str} {sem : List D → R D} {es : List Expr} {rs : R (List D)} {p pos : Pos}
theorem obj_at {c : Nat} {l : List D} {F : Wd} {H : Hp} {v : V} (r : Rep C F v (.obj c l)) (f : Fits C F H) : ∃ a dx xs, v = .ref a ∧ H a = some (.ins (C.cls c) dx (fieldsN C c l.length xs)) := by
  obtain ⟨a, dx, xs, rfl, _, h, _⟩ := r
  exact ⟨a, dx, xs, rfl, f _ _ h⟩
theorem Po.noexc {F : Wd} {H : Hp} {r : R D} {Q : VK} {Ex Ex' : Ec → Hp → Prop} (p : Po C (RpD C) F H r.noexc Q Ex) : Po C (RpD C) F H r Q Ex' := by
  cases r with
  | ok a => exact p
  | exc c => exact False.elim p
  | bad => exact p
structure DunOk (C : Cfg) (c : Nat) (m : Str) (f : Addr) : Prop where
  at_ : PySem.W.findIn C.K (.ref (C.cls c)) m = some (some (.ref f))
  fn : PySem.W.isFn C.K (.ref f) = true
end
end G
namespace G
open PySem L2
def Tb.only (T : Tb) (l : List Nat) : Tb := { T with cb := fun n => if n ∈ l then T.cb n else none, cm := fun n => if n ∈ l then T.cm n else none, ow := fun n => if n ∈ l then T.ow n else none, nw := fun n => if n ∈ l then T.nw n else none, cv := fun n => if n ∈ l then T.cv n else none, io := fun n => if n ∈ l then T.io n else none, ga := fun n => if n ∈ l then T.ga n else none }
structure Base (C : Cfg) (T : Tb) : Prop where
  blt : ∀ x ∈ BLT, C.mg x = none
  gl : ∀ n x, T.gname n = some x → ∃ u v, C.mg x = some u ∧ RelV v u ∧ ∀ F, Rep C F v (C.gl n)
  fnm : ∀ n, C.fnm n = T.fname n
  cls : ∀ n, C.has n = true → ClsOk C n
  few : ∀ n, (C.flds n).length ≤ 100
  cnm : ∀ n x, T.cname n = some x → C.mg x = some (.ref (C.cls n)) ∧ C.has n = true
  xnm : ∀ n x, T.ename n = some x → C.mg x = some (.ref (C.exa n)) ∧ C.hasX n = true
  exc : ∀ n, C.hasX n = true → ExcC C.K (C.exa n)
  exm : ∀ n m b, C.hasX n = true → C.hasX m = true → C.sub (.x n) (.x m) = some b → PySem.W.exmOne C.K (.ref (C.exa n)) (.ref (C.exa m)) = some b
  sub : ∀ t u b, tok C t = true → tok C u = true → C.sub t u = some b → PySem.W.kitOne C.K (tyv C t) (tyv C u) = some b
  calm : T.calm = true
  exs : ∀ n x, T.rname n = some x → EnOk C n x
  hs : ∀ n f, T.hs n = some f → ∀ j, HsOk (C.at j) f (C.hs n)
  cok0 : ∀ F H a d, H a = some (dictO C a false [] [] []) → C.cok F H a d
  mm : T.memo = true → ∀ j, Memo (C.at j)
section
variable {C : Cfg} {T : Tb} {k n j : Nat} {f : Addr} {fd : FuncData} {x m qual : Str} {st : Stmt} {N ps : List Str} {body : Sm} {sem : List D → R D}
theorem Base.wl (b : Base C T) (j : Nat) (l : List Nat) (h : ∀ n ∈ l, ∀ k, T.cb n = some k → CbOk (C.at j) k (C.fn n)) (hc : ∀ n ∈ l, ∀ k, T.cm n = some k → CmOk (C.at j) k (C.fn n)) (ho : ∀ n ∈ l, ∀ k, T.ow n = some k → OwOk (C.at j) k (C.fn n)) (hw : ∀ n ∈ l, ∀ k, T.nw n = some k → CnOk (C.at j) k (C.fn n)) (hv : ∀ n ∈ l, ∀ cs k, T.cv n = some (cs, k) → CvOk (C.at j) cs k (C.fn n)) (hi : ∀ n ∈ l, ∀ k, T.io n = some k → IoOk (C.at j) k (C.fn n) := by intro _ _ _ e; cases e) (hga : ∀ n ∈ l, ∀ k, T.ga n = some k → GaOk (C.at j) k (C.fn n) := by intro _ _ _ e; cases e) : Wl2 (C.at j) (T.only l) where
  blt := b.blt
  gl := fun n x e => by
    obtain ⟨u, v, h1, h2, h3⟩ := b.gl n x e
    exact ⟨u, v, h1, h2, fun F => by rw [Rep_at]; exact h3 F⟩
  fnm := b.fnm
  cls := fun n e => by
    have q := b.cls n e
    exact ⟨q.cl, q.ha, q.hn, q.htk, q.hm, q.na, q.nd⟩
  few := b.few
  cnm := b.cnm
  xnm := b.xnm
  exc := fun n e => b.exc n e
  exm := fun n m v h1 h2 e => b.exm n m v h1 h2 e
  sub := fun t u v h1 h2 e => by
    have e2 : ∀ t, tok (C.at j) t = tok C t := fun t => by cases t <;> rfl
    rw [e2] at h1 h2
    have q := b.sub t u v h1 h2 e
    have e1 : ∀ t, tyv (C.at j) t = tyv C t := fun t => by cases t <;> rfl
    rw [e1, e1]
    exact q
  hot := fun z => by
    have z : T.calm = false := z
    rw [b.calm] at z; cases z
  cb := fun n k e => by
    have e : (if n ∈ l then T.cb n else none) = some k := e
    split at e
    · rename_i hn
      exact h n hn k e
    · cases e
  cm := fun n k e => by
    have e : (if n ∈ l then T.cm n else none) = some k := e
    split at e
    · rename_i hn
      exact hc n hn k e
    · cases e
  ow := fun n k e => by
    have e : (if n ∈ l then T.ow n else none) = some k := e
    split at e
    · rename_i hn
      exact ho n hn k e
    · cases e
  ga := fun n k e => by
    have e : (if n ∈ l then T.ga n else none) = some k := e
    split at e
    · rename_i hn
      exact hga n hn k e
    · cases e
  cv := fun n cs k e => by
    have e : (if n ∈ l then T.cv n else none) = some (cs, k) := e
    split at e
    · rename_i hn
      exact hv n hn cs k e
    · cases e
  exs := fun n x e => by
    have q := b.exs n x e
    exact ⟨q.mg, q.ex, q.kp, q.sb, q.ty⟩
  hs := fun n f e => b.hs n f e j
  cok0 := b.cok0
  mm := fun e => b.mm e j
  io := fun n k e => by
    have e : (if n ∈ l then T.io n else none) = some k := e
    split at e
    · rename_i hn
      exact hi n hn k e
    · cases e
  nw := fun n k e => by
    have e : (if n ∈ l then T.nw n else none) = some k := e
    split at e
    · rename_i hn
      exact hw n hn k e
    · cases e
theorem Base.wl0 (b : Base C T) (j : Nat) : Wl2 (C.at j) (T.only []) := b.wl j [] (fun n hn => by cases hn) (fun n hn => by cases hn) (fun n hn => by cases hn) (fun n hn => by cases hn) (fun n hn => by cases hn) (fun n hn => by cases hn) (fun n hn => by cases hn)
theorem def_at (w2 : Wl2 (C.at j) T) (hcalm : T.calm = true) (F : Fun C.K x qual st f fd) (S : FnScope N ps (defScope st)) (hc : chkS T N (defScope st) body (defBody st) = true)
    (hs : ∀ ds, ds.length = ps.length → sem ds ≠ .bad → outR (evS C.toMng body (gam0 N ds)) = sem ds) : FnP C (j + 1) f fd ps (spP C ps.length sem) := by
  have q := def_ok (C := C.at j) w2 hcalm F S hc hs
  rw [at_sp] at q
  exact q
theorem defN_at (w2 : Wl2 (C.at j) T) (hcalm : T.calm = true) (F : Fun C.K x qual st f fd) (S : FnScope N ps (defScope st)) (hc : chkS T N (defScope st) body (defBody st) = true)
    (hs : ∀ ds, ds.length = ps.length → sem ds ≠ .bad → outN (evS C.toMng body (gam0 N ds)) = sem ds) : FnP C (j + 1) f fd ps (spN C ps.length sem) := by
  have q := defN_ok (C := C.at j) w2 hcalm F S hc hs
  rw [at_spN] at q
  exact q
theorem init_at {c : Nat} (w2 : Wl2 (C.at j) T) (hcalm : T.calm = true) (hcls : C.has c = true) (F : Fun C.K x qual st f fd) (S : FnScope N ps (defScope st)) (hc : chkS T N (defScope st) body (defBody st) = true)
    (hs : ∀ ds, ds.length + 1 = ps.length → sem ds ≠ .bad → outI C.toMng c (evS C.toMng body (gamI N c ds)) = sem ds) : FnP C (j + 1) f fd ps (spI C c ps.length sem) := by
  have q := init_ok (C := C.at j) w2 hcalm hcls F S hc hs
  rw [at_spI] at q
  exact q
theorem fn_at (hk : k ≤ j) (F : FnP C k f fd ps (spP C n sem)) (hm : C.mg x = some (.ref f)) (hkp : PySem.W.keepIn C.K (.ref f) = true) (hb : Binds C.K fd ps []) : CbOk (C.at j) (cbArgs (.fn x) n) sem :=
  cb_fn (C := C.at j) hk (by rw [at_sp]; exact F) hm hkp hb
theorem cbN_at (hk : k ≤ j) (F : FnP C k f fd ps (spN C n sem)) (hm : C.mg x = some (.ref f)) (hkp : PySem.W.keepIn C.K (.ref f) = true) (hb : Binds C.K fd ps []) : CbOk (C.at j) (cbArgs (.fn x) n) sem :=
  cb_fnN (C := C.at j) hk (by rw [at_spN]; exact F) hm hkp hb
theorem cnN_at (hk : k ≤ j) (F : FnP C k f fd ps (spN C n sem)) (hm : C.mg x = some (.ref f)) (hkp : PySem.W.keepIn C.K (.ref f) = true) (hb : Binds C.K fd ps []) : CnOk (C.at j) (cbArgs (.fn x) n) sem :=
  cn_fn (C := C.at j) hk (by rw [at_spN]; exact F) hm hkp hb
theorem make_at {c : Nat} (hk : k + 1 ≤ j) (F : FnP C k f fd ps (spI C c (n + 1) sem)) (M : Mk C.K (C.cls c) f) (hm : C.mg x = some (.ref (C.cls c))) (hb : Binds C.K fd ps []) : CbOk (C.at j) (cbArgs (.fn x) n) sem :=
  cb_make (C := C.at j) hk (by rw [at_spI]; exact F) M hm hb
def spLaw (K : PySem.W.Frag) : Sp := fun vs H Q _ => ∃ (a : Addr) (ns : List Int), vs = [.ref a] ∧ SqL K H a (ns.map V.int) ∧ ns.length ≤ 63 ∧ ∀ H', Q (.bl true) H'
theorem law_of (F : FnP C k f fd ps (spP C 1 sem)) (h : ∀ ns : List Int, ns.length ≤ 63 → sem [.scr ns] = .ok (.bl true)) : FnP C k f fd ps (spLaw C.K) := F.imp fun vs H Q E ⟨a, ns, e, hS, hl, q⟩ => by
  subst e
  have hf : ∀ b u, H b = some u → fo (fun b => (H b).map Fz.o) b = some u := fun b u e => by
    show (match (H b).map Fz.o with | some (.o u) => some u | _ => none) = some u
    rw [e]
    rfl
  refine ⟨fun b => (H b).map Fz.o, [.scr ns], fun b y e => ?_, ⟨_, _, rfl, ⟨a, rfl, SqL.le hf hS⟩, rfl⟩, rfl, ?_⟩
  · have e : (H b).map Fz.o = some y := e
    cases eb : H b with
    | none => rw [eb] at e; cases e
    | some u =>
      rw [eb] at e
      cases e
      rfl
  · rw [h ns hl]
    intro v F' H' _ _ rv
    rw [show v = _ from rv]
    exact q H'
theorem noCX {P : Program} {w : World} {H : Hp} {s : Shared} {e : Value} {s' : Shared} (h : L2.CX P w [] H s (fun _ _ _ => False) e s') : False := by
  obtain ⟨_, _, _, _, _, _, _, _, _, _, _, _, z⟩ := h
  exact z
end
end G
namespace G
open PySem L2
section
variable {C : Cfg} {T : Tb} {X : Cx} {B : Bs} {Γ : Gam} {W : WX} {N ps : List Str} {sc : Scope} {top : Bool} {F0 : Wd} {H : Hp} {vs : List V} {ds : List D} {k n : Nat} {f g : Addr} {fd : FuncData} {x m : Str} {sem : List D → R D} {es : List Expr} {rs : R (List D)} {p pos : Pos}
theorem PL.two {a b : Expr} (hl : PL C X B Γ W [a, b] rs) : ∃ ra rb, rs = (ra.bind fun x => rb.bind fun y => .ok [x, y]) ∧ okx a = true ∧ okx b = true ∧ PE X a (tD C B Γ W ra) ∧ PE X b (tD C B Γ W rb) := by
  obtain ⟨ra, r1, e1, o1, p1, h1⟩ := hl.cons_inv
  obtain ⟨rb, r2, e2, o2, p2, h2⟩ := h1.cons_inv
  refine ⟨ra, rb, ?_, o1, o2, p1, p2⟩
  rw [e1, e2, h2.nil_inv]
  cases ra <;> cases rb <;> rfl
def rIn (C : Cfg) (c : Nat) (sem : List D → R D) (neg : Bool) : R2 := fun x y H Q => ∃ F a dx fs l d k, y = .ref a ∧ Fits C F H ∧ Rep C F (.ref a) (.obj c l) ∧ Rep C F x d ∧ H a = some (.ins (C.cls c) dx fs) ∧ sem [.obj c l, d] = .ok (.bl k) ∧
  ∀ F' H', G.Ext F H F' H' → Fits C F' H' → Q (.bl (if neg then !k else k)) H'
end
end G
namespace G
open PySem L2
def methS (cs : List Nat) (sem : List D → R D) : List D → R D
  | .obj c l :: ds => if cs.contains c then sem (.obj c l :: ds) else .bad
  | _ => .bad
def mArgs (m : Str) (n : Nat) (sc : Scope) (ex : Expr) : Option (List Expr) := match ex with
  | .Call (.Attribute o m' ap) args [] cp => if m' = m ∧ notSuper o = true ∧ args.length + 1 = n ∧ (ap.endLine == cp.line) = true ∧ n ≤ 20 then some (o :: args) else none
  | _ => none
section
variable {C : Cfg} {T : Tb} {X : Cx} {B : Bs} {Γ : Gam} {W : WX} {N ps : List Str} {sc : Scope} {top : Bool} {F0 : Wd} {H : Hp} {vs : List V} {ds : List D} {k n : Nat} {f g : Addr} {fd : FuncData} {x m : Str} {sem : List D → R D} {es : List Expr} {rs : R (List D)} {p pos apos : Pos} {o e : Expr}
theorem meth_ht {args : List Expr} {env : Env} (hn : notSuper o = true) (ho : args.all okx = true) (hl : args.length < 25) (hline : (apos.endLine == pos.line) = true) : ∃ pl : Sem Bool, eval (.Call (.Attribute o m apos) args [] pos) env = (do
      let ov ← eval o env
      standAt apos.atName
      let (f, first) ← holding [ov] (getMethod ov m pl)
      callWith pos f first (backTo pos (starEach args env)) (backToKw pos (keywordEach [] env))) := by
  have hfew : methodCallForm (args.length + ([] : List Keyword).length) (backTo pos (starEach args env)) (backToKw pos (keywordEach [] env)) = true := by
    have h1 := star_any (pos := pos) (env := env) ho
    unfold methodCallForm
    rw [Bool.and_eq_true, Bool.and_eq_true]
    refine ⟨⟨List.all_eq_true.mpr fun x hx => ?_, rfl⟩, ?_⟩
    · cases e : x.1 with
      | false => rfl
      | true => rw [List.any_eq_false] at h1; exact absurd e (h1 x hx)
    · rw [decide_eq_true_eq]
      show args.length + 0 + (if ([] : List (Option Str × Sem Value)).isEmpty then 0 else 1) < 30
      simp
      omega
  refine ⟨do return (← importBound o env).getD true, ?_⟩
  show (do let ov ← attributeBase o m env (eval o env); standAt apos.atName; methodCall o m apos pos env ov (args.length + ([] : List Keyword).length) (backTo pos (starEach args env)) (backToKw pos (keywordEach [] env))) = _
  rw [attr_ok hn]
  have hm : ∀ ov, methodCall o m apos pos env ov (args.length + ([] : List Keyword).length) (backTo pos (starEach args env)) (backToKw pos (keywordEach [] env)) = (do
      let (f, first) ← holding [ov] (getMethod ov m (do return (← importBound o env).getD true))
      callWith pos f first (backTo pos (starEach args env)) (backToKw pos (keywordEach [] env))) := fun ov => by
    unfold methodCall methodCallPos calleeOf
    rw [hfew, hline]
    rfl
  simp only [hm]
theorem PL.conc {e : Expr} (hl : PL C X B Γ W (e :: es) rs) : ∃ ra r1, rs = (ra.bind fun x => r1.bind fun l => .ok (x :: l)) ∧ okx e = true ∧ PE X e (tD C B Γ W ra) ∧ PL C X B Γ W es r1 := by
  obtain ⟨ra, r1, e1, o1, p1, h1⟩ := hl.cons_inv
  exact ⟨ra, r1, e1, o1, p1, h1⟩
structure MethK (C : Cfg) (cs : List Nat) (m : Str) (f : Addr) : Prop where
  me : ∀ c ∈ cs, Meth C.K (C.cls c) m f
  cl : ∀ c ∈ cs, C.has c = true
  nf : ∀ c ∈ cs, ∀ n ∈ C.flds c, C.fnm n ≠ m
theorem cm_meth {cs : List Nat} (w : Wld C T) (hk : k ≤ C.J) (F : FnP C k f fd ps (spP C n sem)) (hb : Binds C.K fd ps []) (hm : MethK C cs m f) : CmOk C (mArgs m n) (methS cs sem) := by
  intro N sc top X h hcm W tk B Γ ex es rs ha hl
  unfold mArgs at ha
  split at ha
  · rename_i o m' apos args pos
    split at ha
    · rename_i hc
      obtain ⟨rfl, hn, hlen, hline, h20⟩ := hc
      cases ha
      have pe : PE X (.Call (.Attribute o m' apos) args [] pos) (tD C B Γ W (rs.noexc.bind (methS cs sem))) := by
        obtain ⟨ra, r1, e, oa, pa, pl⟩ := hl.conc
        obtain ⟨plb, ht⟩ := meth_ht (m := m') (apos := apos) (pos := pos) (args := args) (env := X.env) hn pl.ok (by omega) hline
        refine ⟨fun pins s σ H Q I ⟨F0, sr, q⟩ => ?_⟩
        -- the outcome of the receiver and the arguments
        cases ra with
        | exc c => rw [e] at q; exact False.elim q
        | bad => rw [e] at q; exact False.elim q
        | ok dx =>
          cases r1 with
          | exc c => rw [e] at q; exact False.elim q
          | bad => rw [e] at q; exact False.elim q
          | ok dl =>
            rw [e] at q
            have q : Po C (RpD C) F0 H (methS cs sem (dx :: dl)) Q (Wx C W σ) := q
            unfold methS at q
            split at q
            · rename_i c l ds' e2
              cases e2
              split at q
              · rename_i hcs
                rw [List.contains_eq_mem, decide_eq_true_eq] at hcs
                have cl := (w.cls c (hm.cl c hcs)).cl
                have me := hm.me c hcs
                rw [← h.eK] at cl me
                refine PySem.W.methodCall_KW (pl := plb) (thn (pa.run pins s σ H (fun x H1 => ∃ F1, SR C B F1 H1 σ Γ ∧ Rep C F1 x (.obj c l) ∧ Po C (RpD C) F1 H1 (sem (.obj c l :: dl)) Q (Wx C W σ)) I ⟨F0, sr, fun v F1 H1 e1 f1 r => ⟨F1, sr.ext_ e1 f1, r, q.ext e1⟩⟩) fun u s1 ⟨x, H1, I1, rx, F1, sr1, r, q1⟩ => ?_) ht
                obtain ⟨a, dx, fs, hx, hH⟩ := obj_at r sr1.fits
                subst hx
                obtain rfl : u = Value.ref a := rx
                have nf : (fieldsN C c l.length fs).lookup m' = none := by
                  refine lookup_none_of fun hin => ?_
                  obtain ⟨n0, hn0, e0⟩ := List.mem_map.mp hin
                  exact hm.nf c hcs n0 (List.mem_of_mem_take hn0) e0
                refine getmeth_ok I1 hH cl me nf ?_
                have fin : ∀ (us : List Value) (vs : List V) (s2 : Shared) (H2 : Hp), Inv X pins σ H2 s2 → Vals vs us → (∃ F2, Ext F1 H1 F2 H2 ∧ Fits C F2 H2 ∧ RepL C F2 vs dl) → wpAny (model X.prog X.w) X.A (call (.ref f) (.ref a :: us)) (EP X pins σ Q) X.xe s2 := fun us vs s2 H2 I2 rv ⟨F2, e2, f2, rl⟩ => by
                  refine run_fnS (E := WE W) (vs := V.ref a :: vs) (h.fn F) (hcm.room.mono hk) (by rw [h.eK]; exact hb) (passAt tk σ) I2 (.cons rfl rv) ⟨F2, .obj c l :: dl, f2, ⟨_, _, rfl, Rep.le e2.le _ _ r, rl⟩, ?_, q1.ext e2⟩
                  rw [List.length_cons, rl.len, ← hlen, pl.len rfl]
                cases args with
                | nil =>
                  have := pl.nil_inv
                  cases this
                  exact PySem.W.callWith_K0 (first := [.ref a]) I1.kIn me.kp (fin [] [] s1 H1 I1 .nil ⟨F1, Ext.refl _ _, sr1.fits, rfl⟩)
                | cons e2 es2 =>
                  have o2 := pl.ok
                  simp only [List.all_cons, Bool.and_eq_true] at o2
                  refine PySem.W.callWith_K (first := [.ref a]) (h₀ := X.base) I1.ok.mod.kin me.kp (thn (pl.pa.run pos pins s1 σ H1 (fun vs H2 => ∃ F2, Ext F1 H1 F2 H2 ∧ Fits C F2 H2 ∧ RepL C F2 vs dl) I1 ⟨F1, sr1, fun vs F2 H2 e2 f2 rl => ⟨F2, e2, f2, rl⟩⟩) fun us s2 ⟨vs, H2, I2, rv, z⟩ => ⟨I2.kIn, fin us vs s2 H2 I2 rv z⟩) (star_cons o2.1) (star_any o2.2)
              · exact False.elim q
            · exact False.elim q
      exact ⟨pe, nd_truth h pe (fun _ => rfl)⟩
    · cases ha
  · cases ha
structure PropK (C : Cfg) (cs : List Nat) (m : Str) (g : Addr) : Prop where
  me : ∀ c ∈ cs, ∃ p, PropOf C.K (C.cls c) m p g
  cl : ∀ c ∈ cs, C.has c = true
mutual
theorem Rep.dropA {F F2 : Wd} {a : Addr} (hF : ∀ b x, F2 b = some x → b ≠ a → F b = some x) (ha : ∀ u, F2 a = some (.o u) → ∃ cl dx fs, u = .ins cl dx fs) : ∀ {d : D} {v : V}, d.plain = true → Rep C F2 v d → Rep C F v d
  | .non, _, _, r => r
  | .bl _, _, _, r => r
  | .int _, _, _, r => r
  | .str _, _, _, r => r
  | .byt _, _, _, r => r
  | .tup l, v, hp, r => by
    obtain ⟨b, xs, e, h, rl⟩ := r
    refine ⟨b, xs, e, hF b _ h (fun z => ?_), RepL.dropA hF ha hp rl⟩
    subst z
    obtain ⟨_, _, _, z⟩ := ha _ h
    cases z
  | .lst l, v, hp, r => by
    obtain ⟨b, xs, e, h, rl⟩ := r
    refine ⟨b, xs, e, hF b _ h (fun z => ?_), RepL.dropA hF ha hp rl⟩
    subst z
    obtain ⟨_, _, _, z⟩ := ha _ h
    cases z
  | .obj _ _, _, hp, _ => by cases hp
  | .scr _, _, hp, _ => by cases hp
  | .dict _ _ _, _, hp, _ => by cases hp
  | .cache _, _, hp, _ => by cases hp
  | .cls _, _, hp, _ => by cases hp
theorem RepL.dropA {F F2 : Wd} {a : Addr} (hF : ∀ b x, F2 b = some x → b ≠ a → F b = some x) (ha : ∀ u, F2 a = some (.o u) → ∃ cl dx fs, u = .ins cl dx fs) : ∀ {l : List D} {vs : List V}, D.plainL l = true → RepL C F2 vs l → RepL C F vs l
  | [], _, _, r => r
  | d :: ds, vs, hp, r => by
    obtain ⟨v, r', e, rv, rr⟩ := r
    have hp : (d.plain && D.plainL ds) = true := hp
    rw [Bool.and_eq_true] at hp
    exact ⟨v, r', e, Rep.dropA hF ha hp.1 rv, RepL.dropA hF ha hp.2 rr⟩
end
def opArgs (m : Str) (N : List Str) (i : Nat) (sc : Scope) (ex : Expr) : Option (List Expr) := match ex with
  | .Attribute (.Name x _) m' _ => if m' = m ∧ N[i]? = some x ∧ visB sc x = true ∧ nmOk x = true then some [] else none
  | _ => none
theorem ow_prop {cs : List Nat} (w : Wld C T) (hk : k + 1 ≤ C.J) (F : FnP C k f fd ps (spP C 1 sem)) (hb : Binds C.K fd ps []) (hm : PropK C cs m f) : OwOk C (opArgs m) (methS cs sem) := by
  intro N sc top X h hcm W tk B Γ i c fs hi hlen ex es rs ha hl
  unfold opArgs at ha
  split at ha
  · rename_i x p m' pos
    split at ha
    · rename_i hc
      obtain ⟨rfl, hN, hv, hn⟩ := hc
      cases ha
      have := hl.nil_inv
      subst this
      have pe : PE X (.Attribute (.Name x p) m' pos) (tD C B Γ W (ownR (methS cs sem [.obj c fs]))) := by
        refine ⟨fun pins s σ H Q I ⟨F0, sr, q⟩ => ?_⟩
        obtain ⟨a, xs, e1, me, fa, ba, ⟨dx, ha⟩, rl, hc⟩ := sr.sl i _ hi
        by_cases hcs : cs.contains c = true
        · have eS : methS cs sem [.obj c fs] = sem [.obj c fs] := if_pos hcs
          rw [eS] at q
          rw [List.contains_eq_mem, decide_eq_true_eq] at hcs
          refine attr_of (attr_ok rfl) (thn ((nd_own (pos := p) h hN hv hn).run pins s σ H (fun v H1 => v = .ref a ∧ H1 = H) I ⟨_, join_of e1, rfl, rfl⟩) fun u s1 ⟨x1, H1, I1, rx, ex, eH⟩ => ?_)
          subst ex eH
          obtain rfl : u = Value.ref a := rx
          have cl := (w.cls c (hm.cl c hcs)).cl
          obtain ⟨p1, me1⟩ := hm.me c hcs
          rw [← h.eK] at cl me1
          have fit := sr.fits.adopt fa ha
          have rep : Rep C (updW F0 a (.o (.ins (C.cls c) dx (fieldsN C c fs.length xs)))) (.ref a) (.obj c fs) := ⟨a, dx, xs, rfl, hc, updW_same, hlen, RepL.le (le_upd fa) _ _ rl⟩
          refine getprop_ok (E := fun _ _ _ => False) (dvs := []) (ds := []) I1 ha cl me1 (h.fn F) (hcm.room.mono hk) (by rw [h.eK]; exact hb) .nil (fun _ _ _ _ _ _ _ z => by obtain ⟨_, _, _, _, _, _, _, _, _, _, _, _, z⟩ := z; exact z.elim) ⟨_, [.obj c fs], fit, ⟨_, _, rfl, rep, rfl⟩, rfl, ?_⟩
          cases eo : sem [.obj c fs] with
          | exc c => rw [eo] at q; exact False.elim q
          | bad => rw [eo] at q; exact False.elim q
          | ok d =>
            rw [eo] at q
            have q : Po C (RpD C) F0 H1 (if d.plain then .ok d else .bad) Q (Wx C W σ) := q
            split at q
            · rename_i hp
              intro v F2 H2 e2 f2 r2
              have hF2 : F2 a = some (.o (.ins (C.cls c) dx (fieldsN C c fs.length xs))) := e2.le _ _ updW_same
              let F3 : Wd := fun b => if b = a then none else F2 b
              have F3ne : ∀ b, b ≠ a → F3 b = F2 b := fun b hb => if_neg hb
              refine q v F3 H2 ⟨fun b x hb => ?_, fun b x hb => ?_, fun b u hb hnc => ?_⟩ (fun b x hb => ?_) ?_
              · by_cases z : b = a
                · subst z; rw [fa] at hb; cases hb
                · rw [F3ne b z]; exact e2.le b x (by rw [updW_ne z]; exact hb)
              · by_cases z : b = a
                · subst z
                  have : F3 b = none := if_pos rfl
                  rw [this] at hb; cases hb
                · rw [F3ne b z] at hb
                  rcases e2.new b x hb with h1 | h1
                  · rw [updW_ne z] at h1; exact .inl h1
                  · exact .inr h1
              · refine e2.keep b u hb fun m0 z => ?_
                by_cases zz : b = a
                · subst zz; rw [updW_same] at z; cases z
                · rw [updW_ne zz] at z; exact hnc m0 z
              · by_cases z : b = a
                · subst z
                  have : F3 b = none := if_pos rfl
                  rw [this] at hb; cases hb
                · rw [F3ne b z] at hb
                  have q0 := f2 b x hb
                  cases x with
                  | o u => exact q0
                  | c m0 => exact ⟨C.cok_drop (a := a) (fun b2 x2 h2 hne => by rw [F3ne b2 hne]; exact h2) (fun u hu => by rw [hF2] at hu; cases hu; exact .inl ⟨_, _, _, rfl⟩) q0.1, q0.2⟩
              · exact Rep.dropA (fun b x hb hne => by rw [F3ne b hne]; exact hb) (fun u hu => by rw [hF2] at hu; cases hu; exact ⟨_, _, _, rfl⟩) hp r2
            · exact False.elim q
        · have eS : methS cs sem [.obj c fs] = .bad := if_neg hcs
          rw [eS] at q
          exact False.elim q
      exact ⟨pe, nd_truth h pe (fun _ => rfl)⟩
    · cases ha
  · cases ha
theorem meth_at {cs : List Nat} {j : Nat} {T : Tb} (w : Wld (C.at j) T) (hk : k ≤ j) (F : FnP C k f fd ps (spP C n sem)) (hb : Binds C.K fd ps []) (hm : MethK C cs m f) : CmOk (C.at j) (mArgs m n) (methS cs sem) :=
  cm_meth (C := C.at j) w hk (by rw [at_sp]; exact F) hb ⟨hm.me, hm.cl, hm.nf⟩
theorem ow_at {cs : List Nat} {j : Nat} {T : Tb} (w : Wld (C.at j) T) (hk : k + 1 ≤ j) (F : FnP C k f fd ps (spP C 1 sem)) (hb : Binds C.K fd ps []) (hm : PropK C cs m f) : OwOk (C.at j) (opArgs m) (methS cs sem) :=
  ow_prop (C := C.at j) w hk (by rw [at_sp]; exact F) hb ⟨hm.me, hm.cl⟩
end
end G
namespace G
open PySem L2
def strsOf : List D → Option (List (List Nat))
  | [] => some []
  | .str s :: r => (strsOf r).map (s :: ·)
  | _ :: _ => none
def joinM : List D → R D
  | [.str a, .lst l] => match strsOf l with
    | some ss => if (ss.map (·.length)).sum + ss.length * a.length ≤ 16777216 then .ok (.str (TL.joinL a ss)) else .bad
    | none => .bad
  | [.str a, .tup l] => match strsOf l with
    | some ss => if (ss.map (·.length)).sum + ss.length * a.length ≤ 16777216 then .ok (.str (TL.joinL a ss)) else .bad
    | none => .bad
  | _ => .bad
section
variable {C : Cfg} {X : Cx} {B : Bs} {Γ : Gam} {W : WX} {N : List Str} {sc : Scope} {top : Bool} {H : Hp} {sem : List D → R D} {es : List Expr} {rs : R (List D)}
end
end G
namespace G
open PySem L2
def outIO : Out → R D
  | .rio d ks vs => .ok (.tup [d, .dict false ks vs])
  | _ => .bad
section
variable {C : Cfg} {T : Tb} {N ps : List Str} {F0 : Wd} {H : Hp} {vs : List V} {ds es ks ws : List D} {x qual : Str} {st : Stmt} {f : Addr} {fd : FuncData} {body : Sm} {sem : List D → R D} {p : Nat}
end
section
variable {C : Cfg} {T : Tb} {X : Cx} {B : Bs} {Γ : Gam} {W : WX} {N ps : List Str} {sc : Scope} {top : Bool} {es1 es2 : List Expr} {r1 r2 : R (List D)} {j n p k : Nat} {f : Addr} {fd : FuncData} {x : Str} {sem : List D → R D}
def tLio (C : Cfg) (B : Bs) (Γ : Gam) (W : WX) (j : Nat) (r1 r2 : R (List D)) : TA := fun σ H Q => ∃ F v, SR C B F H σ Γ ∧ σ[j]? = some (some v) ∧ Po C (fun F _ (us : List V × List V) (dd : List D × List D) => RepL C F us.1 dd.1 ∧ RepL C F us.2 dd.2) F H (r1.bind fun a => r2.bind fun b => .ok (a, b)) (fun us H' => Q (us.1 ++ v :: us.2) H') (Wx C W σ)
theorem PL.io {e : Expr} (h1 : PL C X B Γ W es1 r1) (hx : PE X e (tVar j)) (ox : okx e = true) (h2 : PL C X B Γ W es2 r2) : PA X (es1 ++ e :: es2) (tLio C B Γ W j r1 r2) := by
  induction h1 with
  | nil =>
    refine (pa_cons hx h2.pa (star_cons ox)).imp fun σ H Q ⟨F, v, s, hv, p⟩ => ⟨v, hv, F, s, ?_⟩
    have p : Po C (fun F _ (us : List V × List V) (dd : List D × List D) => RepL C F us.1 dd.1 ∧ RepL C F us.2 dd.2) F H (r2.bind fun b => .ok (([] : List D), b)) (fun us H' => Q (us.1 ++ v :: us.2) H') (Wx C W σ) := p
    cases r2 with
    | ok b => exact fun us F' H' e f q => p ([], us) F' H' e f ⟨rfl, q⟩
    | exc c => exact p
    | bad => exact False.elim p
  | @cons e0 es0 r rs o he hl ih =>
    refine (pa_cons he ih (star_cons o)).imp fun σ H Q ⟨F, v, s, hv, p⟩ => ⟨F, s, ?_⟩
    cases r with
    | exc c => exact p
    | bad => exact False.elim p
    | ok d =>
      intro x F1 H1 e1 f1 rx
      refine ⟨F1, v, s.ext_ e1 f1, hv, ?_⟩
      cases rs with
      | exc c => exact fun F' H' e f => p F' H' (e1.trans e) f
      | bad => exact False.elim p
      | ok ds =>
        cases r2 with
        | exc c => exact fun F' H' e f => p F' H' (e1.trans e) f
        | bad => exact False.elim p
        | ok b =>
          intro us F' H' e f q
          exact p (x :: us.1, us.2) F' H' (e1.trans e) f ⟨⟨x, us.1, rfl, Rep.le e.le _ _ rx, q.1⟩, q.2⟩
end
end G
namespace G
mutual
def idsE : E → List Nat
  | .bin _ a b => idsE a ++ idsE b
  | .neg a => idsE a
  | .cmp _ a b => idsE a ++ idsE b
  | .isN a => idsE a
  | .notN a => idsE a
  | .chain _ _ a b c => idsE a ++ (idsE b ++ idsE c)
  | .and a b => idsE a ++ idsE b
  | .or a b => idsE a ++ idsE b
  | .last a => idsE a
  | .not a => idsE a
  | .ite c a b => idsE c ++ (idsE a ++ idsE b)
  | .tup l => idsE l
  | .lst l => idsE l
  | .cons a l => idsE a ++ idsE l
  | .item a i => idsE a ++ idsE i
  | .slice a lo hi => idsE a ++ (idsE lo ++ idsE hi)
  | .f1 _ a => idsE a
  | .f2 _ a b => idsE a ++ idsE b
  | .isi _ a => idsE a
  | .fld _ a => idsE a
  | .call n l => n :: idsE l
  | .comp _ _ it c e => idsE it ++ (idsE c ++ idsE e)
  | .compg n _ l e => n :: (idsE l ++ idsE e)
  | .lend _ e => idsE e
  | .fmt a => idsE a
  | .calm n l => n :: idsE l
  | .own n _ l => n :: idsE l
  | .calv n _ _ l => n :: idsE l
  | .dget2 a k x => idsE a ++ (idsE k ++ idsE x)
  | _ => []
end
def idsS : Sm → List Nat
  | .asg _ e k => idsE e ++ idsS k
  | .asgO _ e k => idsE e ++ idsS k
  | .newD _ _ k => idsS k
  | .disp _ _ x y k => idsE x ++ (idsE y ++ idsS k)
  | .unp _ e k => idsE e ++ idsS k
  | .swp _ _ a b k => idsE a ++ (idsE b ++ idsS k)
  | .aug _ _ e k => idsE e ++ idsS k
  | .app _ e k => idsE e ++ idsS k
  | .ext _ e k => idsE e ++ idsS k
  | .pop _ _ k => idsS k
  | .seti _ a e k => idsE a ++ (idsE e ++ idsS k)
  | .dput _ a e k => idsE a ++ (idsE e ++ idsS k)
  | .frz _ k => idsS k
  | .ifs c a b k => idsE c ++ (idsS a ++ (idsS b ++ idsS k))
  | .loop _ _ _ it b k => idsE it ++ (idsS b ++ idsS k)
  | .loopg n _ _ l b k => n :: (idsE l ++ (idsS b ++ idsS k))
  | .whl _ c b k => idsE c ++ (idsS b ++ idsS k)
  | .ret e => idsE e
  | .raiseV _ e => idsE e
  | .drop e k => idsE e ++ idsS k
  | .pass k => idsS k
  | .setf _ _ e k => idsE e ++ idsS k
  | .hook _ k => idsS k
  | .tryx b h k => idsS b ++ (idsS h ++ idsS k)
  | .hcons _ _ s r => idsS s ++ idsS r
  | .memo _ _ x b e => idsE x ++ (idsS b ++ idsE e)
  | .setc _ _ _ k => idsS k
  | .callIO _ n l _ m k => n :: (idsE l ++ (idsE m ++ idsS k))
  | .retIO e _ => idsE e
  | .loopB _ _ _ b k => idsS b ++ idsS k
  | .asgN _ n l k => n :: (idsE l ++ idsS k)
  | .superI _ n l k => n :: (idsE l ++ idsS k)
  | .clr _ k => idsS k
  | .rev _ k => idsS k
  | .ins _ a e k => idsE a ++ (idsE e ++ idsS k)
  | _ => []
abbrev Fns := Nat → List D → R D
abbrev Mng.wf (M : Mng) (f : Fns) : Mng := { M with fn := f }
section
variable {M : Mng} {f g : Fns}
def Agr (f g : Fns) (l : List Nat) : Prop := ∀ n ∈ l, f n = g n
theorem Agr.l {a b : List Nat} (h : Agr f g (a ++ b)) : Agr f g a := fun n hn => h n (List.mem_append_left _ hn)
theorem Agr.r {a b : List Nat} (h : Agr f g (a ++ b)) : Agr f g b := fun n hn => h n (List.mem_append_right _ hn)
theorem Agr.hd {a : Nat} {b : List Nat} (h : Agr f g (a :: b)) : f a = g a := h a List.mem_cons_self
theorem Agr.tl {a : Nat} {b : List Nat} (h : Agr f g (a :: b)) : Agr f g b := fun n hn => h n (List.mem_cons_of_mem _ hn)
mutual
theorem evE_congr : ∀ (e : E) (h : Agr f g (idsE e)), evE (M.wf f) e = evE (M.wf g) e
  | .var _, h => by funext Γ; simp only [evE]
  | .int _, h => by funext Γ; simp only [evE]
  | .str _, h => by funext Γ; simp only [evE]
  | .bl _, h => by funext Γ; simp only [evE]
  | .non, h => by funext Γ; simp only [evE]
  | .glob _, h => by funext Γ; simp only [evE]
  | .bin op a b, h => by funext Γ; simp only [evE, evE_congr a h.l, evE_congr b h.r]
  | .neg a, h => by funext Γ; simp only [evE, evE_congr a h]
  | .cmp op a b, h => by funext Γ; simp only [evE, evE_congr a h.l, evE_congr b h.r]
  | .isN a, h => by funext Γ; simp only [evE, evE_congr a h]
  | .notN a, h => by funext Γ; simp only [evE, evE_congr a h]
  | .chain p q a b c, h => by funext Γ; simp only [evE, evE_congr a h.l, evE_congr b h.r.l, evE_congr c h.r.r]
  | .and a b, h => by funext Γ; simp only [evE, evE_congr a h.l, evE_congr b h.r]
  | .or a b, h => by funext Γ; simp only [evE, evE_congr a h.l, evE_congr b h.r]
  | .last a, h => by funext Γ; simp only [evE, evE_congr a h]
  | .not a, h => by funext Γ; simp only [evE, evE_congr a h]
  | .ite c a b, h => by funext Γ; simp only [evE, evE_congr c h.l, evE_congr a h.r.l, evE_congr b h.r.r]
  | .tup l, h => by funext Γ; simp only [evE, evL_congr l h]
  | .lst l, h => by funext Γ; simp only [evE, evL_congr l h]
  | .nil, h => by funext Γ; simp only [evE]
  | .cons _ _, h => by funext Γ; simp only [evE]
  | .item a i, h => by funext Γ; simp only [evE, evE_congr a h.l, evE_congr i h.r]
  | .slice a lo hi, h => by funext Γ; simp only [evE, evE_congr a h.l, evE_congr lo h.r.l, evE_congr hi h.r.r]
  | .f1 f a, h => by funext Γ; simp only [evE, evE_congr a h]
  | .f2 f a b, h => by funext Γ; simp only [evE, evE_congr a h.l, evE_congr b h.r]
  | .isi ts a, h => by funext Γ; simp only [evE, evE_congr a h]; rfl
  | .fld nm a, h => by funext Γ; simp only [evE, evE_congr a h]; rfl
  | .call n l, h => by funext Γ; simp only [evE, evL_congr l h.tl, h.hd]
  | .comp tg rng it c e, h => by funext Γ; simp only [evE, evE_congr it h.l, evL_congr it h.l, evE_congr c h.r.l, evE_congr e h.r.r]
  | .compg n tg l e, h => by funext Γ; simp only [evE, evL_congr l h.tl.l, evE_congr e h.tl.r, h.hd]
  | .lend i e, h => by funext Γ; simp only [evE, evE_congr e h]
  | .any, h => by funext Γ; simp only [evE]
  | .fmt a, h => by funext Γ; simp only [evE, evE_congr a h]
  | .calm n l, h => by funext Γ; simp only [evE, evL_congr l h.tl, h.hd]
  | .own n i l, h => by funext Γ; simp only [evE, evL_congr l h.tl, h.hd]
  | .calv n cs i l, h => by funext Γ; simp only [evE, evL_congr l h.tl, h.hd]
  | .dget2 a k x, h => by funext Γ; simp only [evE, evE_congr a h.l, evE_congr k h.r.l, evE_congr x h.r.r]
  | .isx i ts, h => by funext Γ; simp only [evE]
  | .fldx i nm, h => by funext Γ; simp only [evE]
theorem evL_congr : ∀ (e : E) (h : Agr f g (idsE e)), evL (M.wf f) e = evL (M.wf g) e
  | .nil, h => by funext Γ; simp only [evL]
  | .cons a l, h => by funext Γ; simp only [evL, evE_congr a h.l, evL_congr l h.r]
  | .var _, h => by funext Γ; simp only [evL]
  | .int _, h => by funext Γ; simp only [evL]
  | .str _, h => by funext Γ; simp only [evL]
  | .bl _, h => by funext Γ; simp only [evL]
  | .non, h => by funext Γ; simp only [evL]
  | .glob _, h => by funext Γ; simp only [evL]
  | .bin _ _ _, h => by funext Γ; simp only [evL]
  | .neg _, h => by funext Γ; simp only [evL]
  | .cmp _ _ _, h => by funext Γ; simp only [evL]
  | .isN _, h => by funext Γ; simp only [evL]
  | .notN _, h => by funext Γ; simp only [evL]
  | .chain _ _ _ _ _, h => by funext Γ; simp only [evL]
  | .and _ _, h => by funext Γ; simp only [evL]
  | .or _ _, h => by funext Γ; simp only [evL]
  | .last _, h => by funext Γ; simp only [evL]
  | .not _, h => by funext Γ; simp only [evL]
  | .ite _ _ _, h => by funext Γ; simp only [evL]
  | .tup _, h => by funext Γ; simp only [evL]
  | .lst _, h => by funext Γ; simp only [evL]
  | .item _ _, h => by funext Γ; simp only [evL]
  | .slice _ _ _, h => by funext Γ; simp only [evL]
  | .f1 _ _, h => by funext Γ; simp only [evL]
  | .f2 _ _ _, h => by funext Γ; simp only [evL]
  | .isi _ _, h => by funext Γ; simp only [evL]
  | .fld _ _, h => by funext Γ; simp only [evL]
  | .call _ _, h => by funext Γ; simp only [evL]
  | .comp _ _ _ _ _, h => by funext Γ; simp only [evL]
  | .compg _ _ _ _, h => by funext Γ; simp only [evL]
  | .lend _ _, h => by funext Γ; simp only [evL]
  | .any, h => by funext Γ; simp only [evL]
  | .fmt _, h => by funext Γ; simp only [evL]
  | .calm _ _, h => by funext Γ; simp only [evL]
  | .own _ _ _, h => by funext Γ; simp only [evL]
  | .calv _ _ _ _, h => by funext Γ; simp only [evL]
  | .dget2 _ _ _, h => by funext Γ; simp only [evL]
  | .isx _ _, h => by funext Γ; simp only [evL]
  | .fldx _ _, h => by funext Γ; simp only [evL]
end
mutual
theorem evS_congr : ∀ (s : Sm) (h : Agr f g (idsS s)), evS (M.wf f) s = evS (M.wf g) s
  | .nil, h => by funext Γ; simp only [evS]
  | .asg i e k, h => by funext Γ; simp only [evS, evE_congr e h.l, evS_congr k h.r]
  | .asgO i e k, h => by funext Γ; simp only [evS, evE_congr e h.l, evS_congr k h.r]
  | .newD b i k, h => by funext Γ; simp only [evS, evS_congr k h]
  | .disp b i x y k, h => by funext Γ; simp only [evS, evE_congr x h.l, evE_congr y h.r.l, evS_congr k h.r.r]
  | .unp is e k, h => by funext Γ; simp only [evS, evE_congr e h.l, evS_congr k h.r]
  | .swp i j a b k, h => by funext Γ; simp only [evS, evE_congr a h.l, evE_congr b h.r.l, evS_congr k h.r.r]
  | .aug i op e k, h => by funext Γ; simp only [evS, evE_congr e h.l, evS_congr k h.r]
  | .app i e k, h => by funext Γ; simp only [evS, evE_congr e h.l, evS_congr k h.r]
  | .ext i e k, h => by funext Γ; simp only [evS, evE_congr e h.l, evS_congr k h.r]
  | .pop i j k, h => by funext Γ; simp only [evS, evS_congr k h]
  | .seti i a e k, h => by funext Γ; simp only [evS, evE_congr a h.l, evE_congr e h.r.l, evS_congr k h.r.r]
  | .dput i a e k, h => by funext Γ; simp only [evS, evE_congr a h.l, evE_congr e h.r.l, evS_congr k h.r.r]
  | .frz i k, h => by funext Γ; simp only [evS, evS_congr k h]
  | .ifs c a b k, h => by funext Γ; simp only [evS, evE_congr c h.l, evS_congr a h.r.l, evS_congr b h.r.r.l, evS_congr k h.r.r.r]
  | .loop tg kl rng it b k, h => by funext Γ; simp only [evS, evE_congr it h.l, evL_congr it h.l, evS_congr b h.r.l, evS_congr k h.r.r]
  | .loopg n tg kl l b k, h => by funext Γ; simp only [evS, evL_congr l h.tl.l, evS_congr b h.tl.r.l, evS_congr k h.tl.r.r, h.hd]
  | .whl kl c b k, h => by funext Γ; simp only [evS, evE_congr c h.l, evS_congr b h.r.l, evS_congr k h.r.r]
  | .ret e, h => by funext Γ; simp only [evS, evE_congr e h]
  | .retN, h => by funext Γ; simp only [evS]
  | .brk, h => by funext Γ; simp only [evS]
  | .cont, h => by funext Γ; simp only [evS]
  | .raise n, h => by funext Γ; simp only [evS]
  | .raiseV n e, h => by funext Γ; simp only [evS, evE_congr e h]
  | .drop e k, h => by funext Γ; simp only [evS, evE_congr e h.l, evS_congr k h.r]
  | .pass k, h => by funext Γ; simp only [evS, evS_congr k h]
  | .setf i nm e k, h => by funext Γ; simp only [evS, evE_congr e h.l, evS_congr k h.r]
  | .hook n k, h => by funext Γ; simp only [evS, evS_congr k h]
  | .any, h => by funext Γ; simp only [evS]
  | .tryx b hs k, h => by funext Γ; simp only [evS, evS_congr b h.l, evH_congr hs h.r.l, evS_congr k h.r.r]
  | .hnil, h => by funext Γ; simp only [evS]
  | .hcons _ _ _ _, h => by funext Γ; simp only [evS]
  | .memo nm a x b e, h => by
    have e1 := evE_congr (M := M) x h.l
    have e2 := evS_congr b h.r.l
    have e3 := evE_congr (M := M) e h.r.r
    funext Γ
    simp only [evS, e1, e2, e3]
    rfl
  | .setc i nm m k, h => by funext Γ; simp only [evS, evS_congr k h]
  | .callIO i n l j m k, h => by funext Γ; simp only [evS, evL_congr l h.tl.l, evL_congr m h.tl.r.l, evS_congr k h.tl.r.r, h.hd]
  | .retIO e j, h => by funext Γ; simp only [evS, evE_congr e h]
  | .asgN i n l k, h => by funext Γ; simp only [evS, evL_congr l h.tl.l, evS_congr k h.tl.r, h.hd]
  | .retO i, h => by funext Γ; simp only [evS]
  | .loopB tg kl i b k, h => by funext Γ; simp only [evS, evS_congr b h.l, evS_congr k h.r]
  | .superI i n l k, h => by funext Γ; simp only [evS, evL_congr l h.tl.l, evS_congr k h.tl.r, h.hd]
  | .clr i k, h => by funext Γ; simp only [evS, evS_congr k h]
  | .rev i k, h => by funext Γ; simp only [evS, evS_congr k h]
  | .ins i a e k, h => by funext Γ; simp only [evS, evE_congr a h.l, evE_congr e h.r.l, evS_congr k h.r.r]
theorem evH_congr : ∀ (s : Sm) (h : Agr f g (idsS s)), evH (M.wf f) s = evH (M.wf g) s
  | .hnil, h => by funext e Γ; simp only [evH]
  | .hcons t slot s r, h => by funext e Γ; simp only [evH, evS_congr s h.l, evH_congr r h.r]
  | .nil, h => by funext e Γ; simp only [evH]
  | .asg _ _ _, h => by funext e Γ; simp only [evH]
  | .asgO _ _ _, h => by funext e Γ; simp only [evH]
  | .newD _ _ _, h => by funext e Γ; simp only [evH]
  | .disp _ _ _ _ _, h => by funext e Γ; simp only [evH]
  | .unp _ _ _, h => by funext e Γ; simp only [evH]
  | .swp _ _ _ _ _, h => by funext e Γ; simp only [evH]
  | .aug _ _ _ _, h => by funext e Γ; simp only [evH]
  | .app _ _ _, h => by funext e Γ; simp only [evH]
  | .ext _ _ _, h => by funext e Γ; simp only [evH]
  | .pop _ _ _, h => by funext e Γ; simp only [evH]
  | .seti _ _ _ _, h => by funext e Γ; simp only [evH]
  | .dput _ _ _ _, h => by funext e Γ; simp only [evH]
  | .frz _ _, h => by funext e Γ; simp only [evH]
  | .ifs _ _ _ _, h => by funext e Γ; simp only [evH]
  | .loop _ _ _ _ _ _, h => by funext e Γ; simp only [evH]
  | .loopg _ _ _ _ _ _, h => by funext e Γ; simp only [evH]
  | .whl _ _ _ _, h => by funext e Γ; simp only [evH]
  | .ret _, h => by funext e Γ; simp only [evH]
  | .retN, h => by funext e Γ; simp only [evH]
  | .brk, h => by funext e Γ; simp only [evH]
  | .cont, h => by funext e Γ; simp only [evH]
  | .raise _, h => by funext e Γ; simp only [evH]
  | .raiseV _ _, h => by funext e Γ; simp only [evH]
  | .drop _ _, h => by funext e Γ; simp only [evH]
  | .pass _, h => by funext e Γ; simp only [evH]
  | .setf _ _ _ _, h => by funext e Γ; simp only [evH]
  | .hook _ _, h => by funext e Γ; simp only [evH]
  | .any, h => by funext e Γ; simp only [evH]
  | .tryx _ _ _, h => by funext e Γ; simp only [evH]
  | .memo _ _ _ _ _, h => by funext e Γ; simp only [evH]
  | .setc _ _ _ _, h => by funext e Γ; simp only [evH]
  | .callIO _ _ _ _ _ _, h => by funext e Γ; simp only [evH]
  | .retIO _ _, h => by funext e Γ; simp only [evH]
  | .asgN _ _ _ _, h => by funext e Γ; simp only [evH]
  | .retO _, h => by funext e Γ; simp only [evH]
  | .loopB _ _ _ _ _, h => by funext e Γ; simp only [evH]
  | .superI _ _ _ _, h => by funext e Γ; simp only [evH]
  | .clr _ _, h => by funext e Γ; simp only [evH]
  | .rev _ _, h => by funext e Γ; simp only [evH]
  | .ins _ _ _ _, h => by funext e Γ; simp only [evH]
end
end
structure GenA where
  tg : List Nat
  it : E
  y : E
def genL (M : Mng) (g : GenA) : List D → Gam → R (List D)
  | [], _ => .ok []
  | d :: ds, Γ => (tgtD Γ g.tg d).noexc.bind fun Γ' => (evE M g.y Γ').noexc.bind fun v => (genL M g ds Γ').bind fun r => .ok (v :: r)
def genR (M : Mng) (g : GenA) (Γ : Gam) : R (List D) := ((evE M g.it Γ).bind (walkD false)).bind fun items => if items.length < LINE then genL M g items Γ else .bad
theorem genL_congr {M : Mng} {f g : Fns} {a : GenA} (h : evE (M.wf f) a.y = evE (M.wf g) a.y) : ∀ (l : List D) (Γ : Gam), genL (M.wf f) a l Γ = genL (M.wf g) a l Γ
  | [], Γ => rfl
  | d :: l, Γ => by
    unfold genL
    congr 1
    funext Γ'
    rw [h]
    congr 1
    funext v
    rw [genL_congr h l Γ']
theorem genR_congr {M : Mng} {f g : Fns} {a : GenA} (h : Agr f g (idsE a.it ++ idsE a.y)) (Γ : Gam) : genR (M.wf f) a Γ = genR (M.wf g) a Γ := by
  unfold genR
  rw [evE_congr (M := M) a.it h.l]
  congr 1
  funext items
  rw [genL_congr (evE_congr (M := M) a.y h.r)]
@[simp] theorem outR_next (Γ : Gam) : outR (.next Γ) = .ok .non := rfl
@[simp] theorem outR_ret (d : D) : outR (.ret d) = .ok d := rfl
@[simp] theorem outR_exc (c : Ec) (Γ : Gam) : outR (.exc c Γ) = .exc c := rfl
@[simp] theorem outR_bad : outR .bad = .bad := rfl
@[simp] theorem outN_rown (l : List D) : outN (.rown l) = .ok (.lst l) := rfl
@[simp] theorem outN_exc (c : Ec) (Γ : Gam) : outN (.exc c Γ) = .exc c := rfl
@[simp] theorem outI_next (M : Mng) (c : Nat) (Γ : Gam) : outI M c (.next Γ) = doneI M c Γ := rfl
@[simp] theorem outI_exc (M : Mng) (c : Nat) (e : Ec) (Γ : Gam) : outI M c (.exc e Γ) = .exc e := rfl
def gamN (k : Nat) (ds : List D) : Gam := ds.map Cell.val ++ List.replicate (k - ds.length) .dead
def gamM (k c : Nat) (ds : List D) : Gam := Cell.ownI c [] :: (ds.map Cell.val ++ List.replicate (k - (ds.length + 1)) .dead)
noncomputable def run (M : Mng) (k : Nat) (b : Sm) (ds : List D) : R D := outR (evS M b (gamN k ds))
noncomputable def runN (M : Mng) (k : Nat) (b : Sm) (ds : List D) : R D := outN (evS M b (gamN k ds))
noncomputable def runI (M : Mng) (k c : Nat) (b : Sm) (ds : List D) : R D := outI M c (evS M b (gamM k c ds))
noncomputable def runIO (M : Mng) (k p : Nat) (b : Sm) (ds : List D) : R D := match ds.drop p with
  | .dict false ks vs :: es => outIO (evS M b ((ds.take p).map Cell.val ++ Cell.io ks vs :: (es.map Cell.val ++ List.replicate (k - ((ds.take p).length + 1 + es.length)) .dead)))
  | _ => .bad
inductive Ent where
  | df (k : Nat) (b : Sm) | ini (k c : Nat) (b : Sm) | der (m : Nat) (h : (List D → R D) → List D → R D) | cst (s : List D → R D) | gn (k : Nat) (g : GenA) | dn (k : Nat) (b : Sm) | der2 (m1 m2 : Nat) (h : (List D → R D) → (List D → R D) → List D → R D) | io (k p : Nat) (b : Sm)
noncomputable def Ent.val (M : Mng) : Ent → List D → R D
  | .df k b => run M k b
  | .ini k c b => runI M k c b
  | .der m h => h (M.fn m)
  | .cst s => s
  | .dn k b => runN M k b
  | .io k p b => runIO M k p b
  | .der2 a b h => h (M.fn a) (M.fn b)
  | .gn k g => fun ds => (genR M g (gamN k ds)).bind fun l => .ok (.lst l)
def Ent.ids : Ent → List Nat
  | .df _ b => idsS b
  | .ini _ _ b => idsS b
  | .der m _ => [m]
  | .cst _ => []
  | .gn _ g => idsE g.it ++ idsE g.y
  | .dn _ b => idsS b
  | .io _ _ b => idsS b
  | .der2 a b _ => [a, b]
theorem Ent.congr {M : Mng} {f g : Fns} {e : Ent} (h : Agr f g e.ids) : e.val (M.wf f) = e.val (M.wf g) := by
  cases e with
  | df k b => funext ds; show outR _ = outR _; rw [evS_congr b h]
  | ini k c b =>
    funext ds
    show outI _ c (evS (M.wf f) b _) = outI _ c (evS (M.wf g) b _)
    rw [evS_congr b h]
    rfl
  | der m hh => show hh (f m) = hh (g m); rw [h.hd]
  | cst s => rfl
  | dn k b => funext ds; show outN _ = outN _; rw [evS_congr b h]
  | der2 a b hh => show hh (f a) (f b) = hh (g a) (g b); rw [h.hd, h.tl.hd]
  | io k p b => funext ds; show runIO _ k p b ds = runIO _ k p b ds; unfold runIO; rw [evS_congr b h]
  | gn k a => funext ds; show (genR (M.wf f) a _).bind _ = (genR (M.wf g) a _).bind _; rw [genR_congr h]
noncomputable def mkFn (M : Mng) : List (Nat × Ent) → Fns
  | [] => fun _ _ => .bad
  | (n, e) :: r => fun m => if m = n then e.val (M.wf (mkFn M r)) else mkFn M r m
def keysOf (l : List (Nat × Ent)) : List Nat := l.map (·.1)
def tabOk : List (Nat × Ent) → Bool
  | [] => true
  | (n, e) :: r => !(keysOf r).contains n && e.ids.all (keysOf r).contains && tabOk r
theorem mkFn_agr {M : Mng} {n : Nat} {e : Ent} {r : List (Nat × Ent)} (h : (keysOf r).contains n = false) : Agr (mkFn M r) (mkFn M ((n, e) :: r)) (keysOf r) := fun m hm => by
  have hne : m ≠ n := fun z => by
    subst z
    rw [List.contains_eq_mem, decide_eq_false_iff_not] at h
    exact h hm
  show _ = (if m = n then _ else mkFn M r m)
  rw [if_neg hne]
theorem mkFn_eq {M : Mng} : ∀ {l : List (Nat × Ent)} (ok : tabOk l = true) {n : Nat} {e : Ent}, (n, e) ∈ l → mkFn M l n = e.val (M.wf (mkFn M l)) ∧ ∀ i ∈ e.ids, i ∈ keysOf l
  | (n0, e0) :: r, ok, n, e, hm => by
    unfold tabOk at ok
    simp only [Bool.and_eq_true, Bool.not_eq_true'] at ok
    obtain ⟨⟨o1, o2⟩, o3⟩ := ok
    have ag := mkFn_agr (M := M) (e := e0) o1
    have sub : ∀ (l : List Nat), (∀ i ∈ l, i ∈ keysOf r) → Agr (mkFn M r) (mkFn M ((n0, e0) :: r)) l := fun l hl i hi => ag i (hl i hi)
    rcases List.mem_cons.mp hm with h1 | h1
    · cases h1
      have hids : ∀ i ∈ e0.ids, i ∈ keysOf r := fun i hi => by
        have := List.all_eq_true.mp o2 i hi
        rw [List.contains_eq_mem, decide_eq_true_eq] at this
        exact this
      refine ⟨?_, fun i hi => List.mem_cons_of_mem _ (hids i hi)⟩
      show (if n0 = n0 then _ else _) = _
      rw [if_pos rfl]
      exact Ent.congr (sub _ hids)
    · obtain ⟨ih1, ih2⟩ := mkFn_eq o3 h1
      refine ⟨?_, fun i hi => List.mem_cons_of_mem _ (ih2 i hi)⟩
      have hn : n ∈ keysOf r := List.mem_map_of_mem (f := (·.1)) h1
      rw [← ag n hn, ih1]
      exact Ent.congr (sub _ ih2)
theorem mem_lookup {l : List (Nat × Ent)} {n : Nat} {e : Ent} (h : l.lookup n = some e) : (n, e) ∈ l := by
  induction l with
  | nil => cases h
  | cons p r ih =>
    obtain ⟨m, e0⟩ := p
    rw [List.lookup_cons] at h
    split at h
    · rename_i q
      rw [beq_iff_eq] at q
      subst q
      cases h
      exact List.mem_cons_self
    · exact List.mem_cons_of_mem _ (ih h)
noncomputable def mkM (M : Mng) (l : List (Nat × Ent)) : Mng := M.wf (mkFn M l)
theorem mkM_fn {M : Mng} {l : List (Nat × Ent)} (ok : tabOk l = true) {n : Nat} {e : Ent} (h : l.lookup n = some e) : (mkM M l).fn n = e.val (mkM M l) := (mkFn_eq ok (mem_lookup h)).1
end G
namespace G
open PySem L2
theorem mulK (a b : Int) (h : (-18446744073709551616 < a ∧ a < 18446744073709551616) ∨ (-18446744073709551616 < b ∧ b < 18446744073709551616)) : mulD (.int a) (.int b) = .ok (.int (a * b)) := if_pos h
theorem addK (a b : Int) : addD (.int a) (.int b) = .ok (.int (a + b)) := rfl
theorem subK (a b : Int) : subD (.int a) (.int b) = .ok (.int (a - b)) := rfl
theorem modK (a b : Int) (h : 0 < b) : modD (.int a) (.int b) = .ok (.int (a % b)) := if_pos h
theorem fdivK (a b : Int) (h : 0 < b ∧ b < 1073741824) : fdivD (.int a) (.int b) = .ok (.int (a / b)) := if_pos h
theorem powK (a b : Int) (h : 0 ≤ b ∧ b ≤ 1000000 ∧ a.natAbs < 18446744073709551616) : powD (.int a) (.int b) = .ok (.int (a ^ b.toNat)) := if_pos h
theorem addSK (a b : List Nat) (h : a.length + b.length ≤ 16777216) : addD (.str a) (.str b) = .ok (.str (a ++ b)) := if_pos h
theorem addLK (a b : List D) (h : a.length + b.length ≤ 16777216) : addD (.lst a) (.lst b) = .ok (.lst (a ++ b)) := if_pos h
theorem ltK (a b : Int) : ltD (.int a) (.int b) = .ok (decide (a < b)) := rfl
theorem leK (a b : Int) : leD (.int a) (.int b) = .ok (decide (a ≤ b)) := rfl
theorem eqK (a b : Int) : eqD (.int a) (.int b) = .ok (a == b) := rfl
theorem ofOk {α : Type} (Γ : Gam) (a : α) (f : α → Out) : Out.of Γ (.ok a) f = f a := rfl
theorem bindOk {α β : Type} (a : α) (f : α → R β) : (R.ok a).bind f = f a := rfl
theorem atNext (Γ : Gam) (f : Gam → Out) : (Out.next Γ).andThen f = f Γ := rfl
theorem atRet (d : D) (f : Gam → Out) : (Out.ret d).andThen f = .ret d := rfl
theorem atExc (c : Ec) (Γ : Gam) (f : Gam → Out) : (Out.exc c Γ).andThen f = .exc c Γ := rfl
theorem truB (b : Bool) : truD (.bl b) = .ok b := rfl
theorem truI (i : Int) : truD (.int i) = .ok (i != 0) := rfl
theorem intK (i : Int) : f1D .int (.int i) = .ok (.int i) := rfl
theorem lenL (l : List D) : f1D .len (.lst l) = .ok (.int l.length) := rfl
theorem lenS (l : List Int) : f1D .len (.scr l) = .ok (.int l.length) := rfl
theorem lenT (l : List D) : f1D .len (.tup l) = .ok (.int l.length) := rfl
theorem andK (b : Bool) (r : R D) : andD (.bl b) r = if b then r else .ok (.bl false) := rfl
theorem orK (b : Bool) (r : R D) : orD (.bl b) r = if b then .ok (.bl true) else r := rfl
theorem notK (b : Bool) : notD (.bl b) = .ok (.bl (!b)) := rfl
def drawOne (cell place k left : Int) : Int × Int :=
  if 0 < left then (left % 5040, left / 5040)
  else ((((cell * 48271 + (k + 1) * 69621 + place * 1000003) % 2147483647 * ((cell * 48271 + (k + 1) * 69621 + place * 1000003) % 2147483647) + (k + 3) * 40692) % 2147483399 / 7) % 5040, left)
def drawsGo (cell place : Int) : Nat → Nat → Int → List Int
  | 0, _, _ => []
  | n + 1, k, left => (drawOne cell place k left).1 :: drawsGo cell place n (k + 1) (drawOne cell place k left).2
def drawCell (l : List Int) (p : Nat) : Int := match l[p]? with | some c => c | none => 0
def drawsL (l : List Int) (p n : Nat) : List Int := drawsGo (drawCell l p) p n 0 (if 1000000000000000000 ≤ drawCell l p then drawCell l p else 0)
theorem drawsGo_len (cell place : Int) : ∀ (n k : Nat) (left : Int), (drawsGo cell place n k left).length = n
  | 0, _, _ => rfl
  | n + 1, k, left => by rw [drawsGo, List.length_cons, drawsGo_len]
theorem drawOne_bd (cell place k left : Int) : 0 ≤ (drawOne cell place k left).1 ∧ (drawOne cell place k left).1 < 5040 := by
  unfold drawOne
  split <;> (dsimp only; omega)
theorem drawsGo_bd (cell place : Int) : ∀ (n k : Nat) (left : Int), ∀ d ∈ drawsGo cell place n k left, 0 ≤ d ∧ d < 5040
  | 0, _, _ => fun d h => by cases h
  | n + 1, k, left => fun d h => by
    rw [drawsGo] at h
    rcases List.mem_cons.mp h with e | h
    · rw [e]; exact drawOne_bd _ _ _ _
    · exact drawsGo_bd cell place n _ _ d h
theorem drawsL_len (l : List Int) (p n : Nat) : (drawsL l p n).length = n := drawsGo_len _ _ _ _ _
theorem drawsL_bd (l : List Int) (p n : Nat) : ∀ d ∈ drawsL l p n, 0 ≤ d ∧ d < 5040 := drawsGo_bd _ _ _ _ _
def bodyDraws : Sm :=
  (.ifs (.cmp .gt (.var 4) (.int 0))
  (.app 5 (.bin .mod (.f1 .int (.var 4)) (.int 5040))
  (.asg 4 (.bin .fdiv (.var 4) (.int 5040))
  .nil))
  (.asg 7 (.bin .mod (.f1 .int (.bin .add (.bin .add (.bin .mul (.var 3) (.int 48271)) (.bin .mul (.bin .add (.var 6) (.int 1)) (.int 69621))) (.bin .mul (.var 1) (.int 1000003)))) (.int 2147483647))
  (.asg 7 (.bin .mod (.f1 .int (.bin .add (.bin .mul (.var 7) (.var 7)) (.bin .mul (.bin .add (.var 6) (.int 3)) (.int 40692)))) (.int 2147483399))
  (.app 5 (.bin .mod (.f1 .int (.bin .fdiv (.var 7) (.int 7))) (.int 5040))
  .nil)))
  .nil)
def bDraws : Sm :=
  (.asg 3 (.int 0)
  (.ifs (.cmp .lt (.var 1) (.f1 .len (.var 0)))
  (.asg 3 (.f1 .int (.item (.var 0) (.var 1)))
  .nil)
  .nil
  (.asg 4 (.int 0)
  (.ifs (.cmp .ge (.var 3) (.bin .pow (.int 10) (.int 18)))
  (.asg 4 (.var 3)
  .nil)
  .nil
  (.asgO 5 (.lst .nil)
  (.loop [6] [6, 7] true (.cons (.var 2) .nil)
  bodyDraws
  (.frz 5 (.ret (.var 5)))))))))
theorem draws_body (M : Mng) (c0 c2 c6 c7 : Cell) (p cell left : Int) (k : Nat) (acc : List D) (h : acc.length < 16777216) :
    ∃ x y, evS M bodyDraws [c0, .val (.int p), c2, .val (.int cell), .val (.int left), .ownL acc, .val (.int k), .dead] = .next [c0, .val (.int p), c2, .val (.int cell), .val (.int (drawOne cell p k left).2), .ownL (acc ++ [.int (drawOne cell p k left).1]), x, y] := by
  by_cases hl : 0 < left
  · refine ⟨.val (.int k), .dead, ?_⟩
    simp (config := { implicitDefEqProofs := false }) [evS, evE, evL, borrow, binD, cmpD, onL, killG, ofOk, bindOk, atNext, atRet, atExc, truB, truI, intK, lenL, lenS, lenT, andK, orK, notK, addK, subK, modK, mulK, fdivK, powK, ltK, leK, eqK, bodyDraws, drawOne, hl, h]
  · have m1 : ∀ a : Int, -18446744073709551616 < a % 2147483647 ∧ a % 2147483647 < 18446744073709551616 := fun a => by omega
    refine ⟨.val (.int k), .val (.int (((cell * 48271 + ((k : Int) + 1) * 69621 + p * 1000003) % 2147483647 * ((cell * 48271 + ((k : Int) + 1) * 69621 + p * 1000003) % 2147483647) + ((k : Int) + 3) * 40692) % 2147483399)), ?_⟩
    simp (config := { implicitDefEqProofs := false }) [evS, evE, evL, borrow, binD, cmpD, onL, killG, ofOk, bindOk, atNext, atRet, atExc, truB, truI, intK, lenL, lenS, lenT, andK, orK, notK, addK, subK, modK, mulK, fdivK, powK, ltK, leK, eqK, bodyDraws, drawOne, hl, h, m1]
theorem draws_loop (M : Mng) (c0 c2 : Cell) (p cell : Int) : ∀ (n k : Nat) (left : Int) (acc : List D) (x y : Cell), acc.length + n ≤ 16777216 →
    ∃ left' x' y', forD [6] [6, 7] (evS M bodyDraws) ((List.range' k n).map fun j => .int (j : Nat)) [c0, .val (.int p), c2, .val (.int cell), .val (.int left), .ownL acc, x, y] =
      .next [c0, .val (.int p), c2, .val (.int cell), .val (.int left'), .ownL (acc ++ (drawsGo cell p n k left).map D.int), x', y']
  | 0, k, left, acc, x, y, h => ⟨left, .dead, .dead, by simp [forD, killG, drawsGo]⟩
  | n + 1, k, left, acc, x, y, h => by
    obtain ⟨x1, y1, e1⟩ := draws_body M c0 c2 .dead .dead p cell left k acc (by omega)
    obtain ⟨l2, x2, y2, e2⟩ := draws_loop M c0 c2 p cell n (k + 1) (drawOne cell p k left).2 (acc ++ [.int (drawOne cell p k left).1]) x1 y1 (by simp; omega)
    refine ⟨l2, x2, y2, ?_⟩
    rw [List.range'_succ, List.map_cons, forD]
    have e0 : tgtD (killG [c0, .val (.int p), c2, .val (.int cell), .val (.int left), .ownL acc, x, y] [6, 7]) [6] (.int (k : Nat)) = .ok [c0, .val (.int p), c2, .val (.int cell), .val (.int left), .ownL acc, .val (.int k), .dead] := rfl
    rw [e0]
    show (match evS M bodyDraws _ with | .next Γ2 => _ | .cont Γ2 => _ | .brk Γ2 => _ | o => o) = _
    rw [e1]
    show forD _ _ _ _ _ = _
    rw [e2, drawsGo]
    simp
theorem atI_nat {α : Type} (l : List α) (p : Nat) : atI l (p : Int) = l[p]? := by
  unfold atI ixN
  by_cases h : p < l.length
  · rw [if_pos (by omega), if_pos (by omega)]
    rfl
  · rw [if_pos (by omega), if_neg (by omega), List.getElem?_eq_none (by omega)]
    rfl
theorem r_draws {M : Mng} {n0 : Nat} (hf : M.fn n0 = run M 8 bDraws) (l : List Int) (p n : Nat) (hn2 : n ≤ 1000) : M.fn n0 [.scr l, .int p, .int n] = .ok (.lst ((drawsL l p n).map D.int)) := by
  rw [hf]
  unfold run
  have g0 : gamN 8 [.scr l, .int p, .int n] = [.val (.scr l), .val (.int p), .val (.int n), .dead, .dead, .dead, .dead, .dead] := rfl
  rw [g0]
  have hcell : ∀ k : Sm, evS M (.asg 3 (.int 0) (.ifs (.cmp .lt (.var 1) (.f1 .len (.var 0))) (.asg 3 (.f1 .int (.item (.var 0) (.var 1))) .nil) .nil k)) [.val (.scr l), .val (.int p), .val (.int n), .dead, .dead, .dead, .dead, .dead] =
      evS M k [.val (.scr l), .val (.int p), .val (.int n), .val (.int (drawCell l p)), .dead, .dead, .dead, .dead] := by
    intro k
    unfold drawCell
    by_cases hl : p < l.length
    · have e1 : l[p]? = some l[p] := List.getElem?_eq_getElem hl
      simp (config := { implicitDefEqProofs := false }) [evS, evE, evL, borrow, binD, cmpD, onL, killG, ofOk, bindOk, atNext, atRet, atExc, truB, truI, intK, lenL, lenS, lenT, andK, orK, notK, addK, subK, modK, mulK, fdivK, powK, ltK, leK, eqK, itemD, atI_nat, hl, e1]
    · have e1 : l[p]? = none := List.getElem?_eq_none (by omega)
      simp (config := { implicitDefEqProofs := false }) [evS, evE, evL, borrow, binD, cmpD, onL, killG, ofOk, bindOk, atNext, atRet, atExc, truB, truI, intK, lenL, lenS, lenT, andK, orK, notK, addK, subK, modK, mulK, fdivK, powK, ltK, leK, eqK, hl, e1]
  have hleft : ∀ k : Sm, evS M (.asg 4 (.int 0) (.ifs (.cmp .ge (.var 3) (.bin .pow (.int 10) (.int 18))) (.asg 4 (.var 3) .nil) .nil k)) [.val (.scr l), .val (.int p), .val (.int n), .val (.int (drawCell l p)), .dead, .dead, .dead, .dead] =
      evS M k [.val (.scr l), .val (.int p), .val (.int n), .val (.int (drawCell l p)), .val (.int (if 1000000000000000000 ≤ drawCell l p then drawCell l p else 0)), .dead, .dead, .dead] := by
    intro k
    by_cases hl : 1000000000000000000 ≤ drawCell l p
    · simp (config := { implicitDefEqProofs := false }) [evS, evE, evL, borrow, binD, cmpD, onL, killG, ofOk, bindOk, atNext, atRet, atExc, truB, truI, intK, lenL, lenS, lenT, andK, orK, notK, addK, subK, modK, mulK, fdivK, powK, ltK, leK, eqK, hl]
    · simp (config := { implicitDefEqProofs := false }) [evS, evE, evL, borrow, binD, cmpD, onL, killG, ofOk, bindOk, atNext, atRet, atExc, truB, truI, intK, lenL, lenS, lenT, andK, orK, notK, addK, subK, modK, mulK, fdivK, powK, ltK, leK, eqK, hl]
  unfold bDraws drawsL
  rw [hcell, hleft]
  generalize (if 1000000000000000000 ≤ drawCell l p then drawCell l p else 0) = left
  obtain ⟨l2, x2, y2, e2⟩ := draws_loop M (.val (.scr l)) (.val (.int n)) p (drawCell l p) n 0 left [] .dead .dead (by simp; omega)
  have ha : ∀ (k : Sm) (Γ : Gam), evS M (.asgO 5 (.lst .nil) k) Γ = evS M k (Γ.set 5 (.ownL [])) := fun k Γ => by simp (config := { implicitDefEqProofs := false }) [evS, evE, evL, borrow, binD, cmpD, onL, killG, ofOk, bindOk, atNext, atRet, atExc, truB, truI, intK, lenL, lenS, lenT, andK, orK, notK, addK, subK, modK, mulK, fdivK, powK, ltK, leK, eqK]
  have hl : ∀ (it : E) (b k : Sm) (Γ : Gam), evS M (.loop [6] [6, 7] true it b k) Γ = Out.of Γ (if true then (evL M it Γ).bind fun ds => walkD true (.tup ds) else (evE M it Γ).bind fun d => walkD false d) fun items => (forD [6] [6, 7] (evS M b) items Γ).andThen (evS M k) := fun _ _ _ _ => rfl
  rw [ha, hl]
  have es : ([Cell.val (D.scr l), Cell.val (D.int ↑p), Cell.val (D.int ↑n), Cell.val (D.int (drawCell l p)), Cell.val (D.int left), Cell.dead, Cell.dead, Cell.dead] : Gam).set 5 (Cell.ownL []) = [.val (.scr l), .val (.int p), .val (.int n), .val (.int (drawCell l p)), .val (.int left), .ownL [], .dead, .dead] := rfl
  have hw' : (if true = true then (evL M (.cons (.var 2) .nil) [.val (.scr l), .val (.int p), .val (.int n), .val (.int (drawCell l p)), .val (.int left), .ownL [], .dead, .dead]).bind fun ds => walkD true (.tup ds) else (evE M (.cons (.var 2) .nil) [.val (.scr l), .val (.int p), .val (.int n), .val (.int (drawCell l p)), .val (.int left), .ownL [], .dead, .dead]).bind fun d => walkD false d) = .ok ((List.range' 0 n).map fun j => D.int (j : Nat)) := by
    have hb : -4611686018427387904 ≤ (n : Int) ∧ (n : Int) < 4611686018427387904 := by omega
    simp (config := { implicitDefEqProofs := false }) [evS, evE, evL, borrow, binD, cmpD, onL, killG, ofOk, bindOk, atNext, atRet, atExc, truB, truI, intK, lenL, lenS, lenT, andK, orK, notK, addK, subK, modK, mulK, fdivK, powK, ltK, leK, eqK, walkD, hb, List.range_eq_range']
  rw [es, hw', ofOk, e2, atNext]
  simp (config := { implicitDefEqProofs := false }) [evS, evE, evL, borrow, binD, cmpD, onL, killG, ofOk, bindOk, atNext, atRet, atExc, truB, truI, intK, lenL, lenS, lenT, andK, orK, notK, addK, subK, modK, mulK, fdivK, powK, ltK, leK, eqK, frzG, outR]
end G
namespace G
open PySem L2
def bTys : List String := ["NoneType", "bool", "int", "str", "bytes", "tuple", "list"]
def subB (a b : String) : Option Bool := if bTys.contains a && bTys.contains b then some (a == b || (a == "bool" && b == "int")) else none
def eqTy : Ty → Ty → Bool
  | .b a, .b b => a == b
  | .c a, .c b => a == b
  | .x a, .x b => a == b
  | _, _ => false
theorem eqTy_eq {t u : Ty} (h : eqTy t u = true) : t = u := by
  cases t <;> cases u <;> first | (cases h; done) | (simp only [eqTy, beq_iff_eq] at h; rw [h])
def subL : List (Ty × Ty × Bool) → Ty → Ty → Option Bool
  | [], _, _ => none
  | (a, b, r) :: l, t, u => if eqTy a t && eqTy b u then some r else subL l t u
def mkSub (l : List (Ty × Ty × Bool)) (t u : Ty) : Option Bool := match t, u with
  | .b a, .b b => subB a b
  | t, u => subL l t u
theorem subL_mem {l : List (Ty × Ty × Bool)} {t u : Ty} {r : Bool} (h : subL l t u = some r) : (t, u, r) ∈ l := by
  induction l with
  | nil => cases h
  | cons p l ih =>
    obtain ⟨a, b, q⟩ := p
    unfold subL at h
    split at h
    · rename_i e
      rw [Bool.and_eq_true] at e
      cases h
      rw [eqTy_eq e.1, eqTy_eq e.2]
      exact List.mem_cons_self
    · exact List.mem_cons_of_mem _ (ih h)
theorem sub_bb {K : PySem.W.Frag} {a b : String} {r : Bool} (h : subB a b = some r) : PySem.W.kitOne K (.type a) (.type b) = some r := by
  unfold subB at h
  split at h
  · rename_i e
    cases h
    simp only [bTys, List.contains_eq_mem, List.mem_cons, List.not_mem_nil, or_false, Bool.and_eq_true, decide_eq_true_eq] at e
    obtain ⟨e1, e2⟩ := e
    rcases e1 with rfl | rfl | rfl | rfl | rfl | rfl | rfl <;> rcases e2 with rfl | rfl | rfl | rfl | rfl | rfl | rfl <;> exact kit_ty (by decide +kernel)
  · cases h
theorem mkSub_ok {C : Cfg} {l : List (Ty × Ty × Bool)} (hl : ∀ p ∈ l, PySem.W.kitOne C.K (tyv C p.1) (tyv C p.2.1) = some p.2.2) {t u : Ty} {r : Bool} (h : mkSub l t u = some r) : PySem.W.kitOne C.K (tyv C t) (tyv C u) = some r := by
  unfold mkSub at h
  split at h
  · exact sub_bb h
  · exact hl _ (subL_mem h)
def isXp : Ty × Ty × Bool → Bool
  | (.x _, .x _, _) => true
  | _ => false
theorem mkSub_x {C : Cfg} {l : List (Ty × Ty × Bool)} {n m : Nat} (hl : ∀ p ∈ l, isXp p = true → PySem.W.exmOne C.K (tyv C p.1) (tyv C p.2.1) = some p.2.2) {r : Bool} (h : mkSub l (.x n) (.x m) = some r) : PySem.W.exmOne C.K (.ref (C.exa n)) (.ref (C.exa m)) = some r :=
  hl _ (subL_mem (t := .x n) (u := .x m) h) rfl
def fldsG (c : Nat) : List Nat := match c with
  | 0 => [0, 1]
  | 1 => [2]
  | 2 => [3, 4, 5, 6, 7, 8]
  | 3 => [3, 4, 5, 6, 7, 8]
  | 4 => [9]
  | 5 => [10, 11, 12]
  | 6 => [10, 11, 13]
  | 7 => [14, 15]
  | _ => []
theorem fldsG_few (c : Nat) : (fldsG c).length ≤ 100 := by
  unfold fldsG
  split <;> decide
def fnameG (n : Nat) : Str := match n with
  | 0 => "start" | 1 => "end" | 2 => "content" | 3 => "letters" | 4 => "names" | 5 => "moves" | 6 => "ends" | 7 => "table" | 8 => "known" | 9 => "rows" | 10 => "text" | 11 => "spans" | 12 => "finder" | 13 => "excuses" | 14 => "overlap" | 15 => "failures"
  | _ => ""
def glG (n : Nat) : D := match n with
  | 0 => .str []
  | 1 => .int 999999
  | 2 => .str [43, 112, 105, 101, 99, 101]
  | 3 => .str [45, 112, 105, 101, 99, 101]
  | 4 => .str [48, 49, 50, 51, 52, 53, 54, 55, 56, 57]
  | 5 => .str [102, 114, 101, 101]
  | _ => .non
def M0 (l : List (Ty × Ty × Bool)) (gl : Nat → D) (memo : D → D → Option D) : Mng := { flds := fldsG, fn := fun _ _ => .bad, gl := gl, sub := mkSub l, hs := fun _ _ => .bad, memo := memo }
structure Std (M : Mng) : Prop where
  flds : M.flds = fldsG
  gl : M.gl = glG
  sb : ∀ a b, M.sub (.b a) (.b b) = subB a b
theorem std_mk {l : List (Ty × Ty × Bool)} {memo : D → D → Option D} {t : List (Nat × Ent)} : Std (mkM (M0 l glG memo) t) := ⟨rfl, rfl, fun _ _ => rfl⟩
section
variable {tg kl : List Nat} {body : Gam → Out} {St : Type}
theorem forD_run (enc : St → Gam) (items : List D) (I : Nat → St → Prop) (Res : Out → Prop) {Γ : Gam} {s0 : St} (hΓ : killG Γ kl = enc s0) (h0 : I 0 s0)
    (step : ∀ (i : Nat) (s : St) (d : D), items[i]? = some d → I i s → ∃ Γ1, tgtD (enc s) tg d = .ok Γ1 ∧ ((∃ s' Γ2, (body Γ1 = .next Γ2 ∨ body Γ1 = .cont Γ2) ∧ killG Γ2 kl = enc s' ∧ I (i + 1) s') ∨ (∃ d', body Γ1 = .ret d' ∧ Res (.ret d')) ∨ (∃ e Γ2, body Γ1 = .exc e Γ2 ∧ Res (.exc e Γ2)) ∨ (∃ Γ2, body Γ1 = .brk Γ2 ∧ Res (.next (killG Γ2 kl))))) :
    (∃ s', forD tg kl body items Γ = .next (enc s') ∧ I items.length s') ∨ Res (forD tg kl body items Γ) := by
  have key : ∀ (n i : Nat) (s : St) (Γ : Gam), i + n = items.length → killG Γ kl = enc s → I i s → (∃ s', forD tg kl body (items.drop i) Γ = .next (enc s') ∧ I items.length s') ∨ Res (forD tg kl body (items.drop i) Γ) := by
    intro n
    induction n with
    | zero =>
      intro i s Γ hi hk hI
      have hi' : i = items.length := by omega
      subst hi'
      rw [List.drop_length]
      exact .inl ⟨s, by unfold forD; rw [hk], hI⟩
    | succ n ih =>
      intro i s Γ hi hk hI
      have hlt : i < items.length := by omega
      obtain ⟨Γ1, e1, h⟩ := step i s items[i] (List.getElem?_eq_getElem hlt) hI
      rw [List.drop_eq_getElem_cons hlt]
      unfold forD
      rw [hk, e1]
      show (∃ s', (match body Γ1 with | .next Γ2 => forD tg kl body (items.drop (i + 1)) Γ2 | .cont Γ2 => forD tg kl body (items.drop (i + 1)) Γ2 | .brk Γ2 => .next (killG Γ2 kl) | o => o) = .next (enc s') ∧ _) ∨ Res (match body Γ1 with | .next Γ2 => forD tg kl body (items.drop (i + 1)) Γ2 | .cont Γ2 => forD tg kl body (items.drop (i + 1)) Γ2 | .brk Γ2 => .next (killG Γ2 kl) | o => o)
      rcases h with ⟨s', Γ2, hb, hk2, hI2⟩ | ⟨d', hb, hr⟩ | ⟨e, Γ2, hb, hr⟩ | ⟨Γ2, hb, hr⟩
      · rcases hb with hb | hb
        · rw [hb]; exact ih (i + 1) s' Γ2 (by omega) hk2 hI2
        · rw [hb]; exact ih (i + 1) s' Γ2 (by omega) hk2 hI2
      · rw [hb]; exact .inr hr
      · rw [hb]; exact .inr hr
      · rw [hb]; exact .inr hr
  have := key items.length 0 s0 Γ (by omega) hΓ h0
  rwa [List.drop_zero] at this
theorem forD_thru (enc : St → Gam) (items : List D) (I : Nat → St → Prop) {Γ : Gam} {s0 : St} (hΓ : killG Γ kl = enc s0) (h0 : I 0 s0)
    (step : ∀ (i : Nat) (s : St) (d : D), items[i]? = some d → I i s → ∃ Γ1 s' Γ2, tgtD (enc s) tg d = .ok Γ1 ∧ (body Γ1 = .next Γ2 ∨ body Γ1 = .cont Γ2) ∧ killG Γ2 kl = enc s' ∧ I (i + 1) s') :
    ∃ s', forD tg kl body items Γ = .next (enc s') ∧ I items.length s' := by
  rcases forD_run enc items I (fun _ => False) hΓ h0 (fun i s d hd hI => by
    obtain ⟨Γ1, s', Γ2, h1, h2, h3, h4⟩ := step i s d hd hI
    exact ⟨Γ1, h1, .inl ⟨s', Γ2, h2, h3, h4⟩⟩) with h | h
  · exact h
  · exact h.elim
end
end G
namespace G
open PySem L2
def bIsNum : Sm :=
  (.ret (.and (.isi [.b "int"] (.var 0)) (.last (.not (.isi [.b "bool"] (.var 0))))))
def bSpan : Sm :=
  (.ifs (.or (.not (.call 3 (.cons (.var 1) .nil))) (.last (.not (.call 3 (.cons (.var 2) .nil)))))
  (.raise 1)
  .nil
  (.ifs (.or (.cmp .lt (.var 1) (.int 0)) (.or (.cmp .lt (.var 2) (.var 1)) (.last (.cmp .gt (.var 2) (.call 4 .nil)))))
  (.raise 1)
  .nil
  (.setf 0 0 (.var 1)
  (.setf 0 1 (.var 2)
  .nil))))
section
variable {M : Mng} {n0 : Nat}
theorem isB_ii : subB "int" "int" = some true := by decide
theorem isB_ib : subB "int" "bool" = some false := by decide
theorem isB_bi : subB "bool" "int" = some true := by decide
theorem isB_bb : subB "bool" "bool" = some true := by decide
theorem r_isnum (S : Std M) (hf : M.fn n0 = run M 1 bIsNum) (i : Int) : M.fn n0 [.int i] = .ok (.bl true) := by
  rw [hf]
  simp (config := { implicitDefEqProofs := false }) [evS, evE, evL, borrow, binD, cmpD, onL, killG, ofOk, bindOk, atNext, atRet, atExc, truB, truI, intK, lenL, lenS, lenT, andK, orK, notK, addK, subK, modK, mulK, fdivK, powK, ltK, leK, eqK, run, runI, gamN, gamM, outR_next, outR_ret, outR_exc, outI_next, outI_exc, doneI, isiR, D.isi, tyD, isiD, D.isN, Mng.wf, evH, Out.mapG, bindX, noExn, endX, bIsNum, S.sb, isB_ii, isB_ib]
theorem isB_ni : subB "NoneType" "int" = some false := by decide
theorem isB_si : subB "str" "int" = some false := by decide
theorem isB_ti : subB "tuple" "int" = some false := by decide
theorem isB_li : subB "list" "int" = some false := by decide
theorem r_isnum_bl (S : Std M) (hf : M.fn n0 = run M 1 bIsNum) (b : Bool) : M.fn n0 [.bl b] = .ok (.bl false) := by
  rw [hf]
  simp (config := { implicitDefEqProofs := false }) [evS, evE, evL, borrow, binD, cmpD, onL, killG, ofOk, bindOk, atNext, atRet, atExc, truB, truI, intK, lenL, lenS, lenT, andK, orK, notK, addK, subK, modK, mulK, fdivK, powK, ltK, leK, eqK, run, runI, gamN, gamM, outR_next, outR_ret, outR_exc, outI_next, outI_exc, doneI, isiR, D.isi, tyD, isiD, D.isN, Mng.wf, evH, Out.mapG, bindX, noExn, endX, bIsNum, S.sb, isB_bi, isB_bb]
theorem r_isnum_non (S : Std M) (hf : M.fn n0 = run M 1 bIsNum) : M.fn n0 [.non] = .ok (.bl false) := by
  rw [hf]
  simp (config := { implicitDefEqProofs := false }) [evS, evE, evL, borrow, binD, cmpD, onL, killG, ofOk, bindOk, atNext, atRet, atExc, truB, truI, intK, lenL, lenS, lenT, andK, orK, notK, addK, subK, modK, mulK, fdivK, powK, ltK, leK, eqK, run, runI, gamN, gamM, outR_next, outR_ret, outR_exc, outI_next, outI_exc, doneI, isiR, D.isi, tyD, isiD, D.isN, Mng.wf, evH, Out.mapG, bindX, noExn, endX, bIsNum, S.sb, isB_ni]
theorem r_isnum_str (S : Std M) (hf : M.fn n0 = run M 1 bIsNum) (s : List Nat) : M.fn n0 [.str s] = .ok (.bl false) := by
  rw [hf]
  simp (config := { implicitDefEqProofs := false }) [evS, evE, evL, borrow, binD, cmpD, onL, killG, ofOk, bindOk, atNext, atRet, atExc, truB, truI, intK, lenL, lenS, lenT, andK, orK, notK, addK, subK, modK, mulK, fdivK, powK, ltK, leK, eqK, run, runI, gamN, gamM, outR_next, outR_ret, outR_exc, outI_next, outI_exc, doneI, isiR, D.isi, tyD, isiD, D.isN, Mng.wf, evH, Out.mapG, bindX, noExn, endX, bIsNum, S.sb, isB_si]
theorem r_isnum_tup (S : Std M) (hf : M.fn n0 = run M 1 bIsNum) (s : List D) : M.fn n0 [.tup s] = .ok (.bl false) := by
  rw [hf]
  simp (config := { implicitDefEqProofs := false }) [evS, evE, evL, borrow, binD, cmpD, onL, killG, ofOk, bindOk, atNext, atRet, atExc, truB, truI, intK, lenL, lenS, lenT, andK, orK, notK, addK, subK, modK, mulK, fdivK, powK, ltK, leK, eqK, run, runI, gamN, gamM, outR_next, outR_ret, outR_exc, outI_next, outI_exc, doneI, isiR, D.isi, tyD, isiD, D.isN, Mng.wf, evH, Out.mapG, bindX, noExn, endX, bIsNum, S.sb, isB_ti]
theorem r_isnum_lst (S : Std M) (hf : M.fn n0 = run M 1 bIsNum) (s : List D) : M.fn n0 [.lst s] = .ok (.bl false) := by
  rw [hf]
  simp (config := { implicitDefEqProofs := false }) [evS, evE, evL, borrow, binD, cmpD, onL, killG, ofOk, bindOk, atNext, atRet, atExc, truB, truI, intK, lenL, lenS, lenT, andK, orK, notK, addK, subK, modK, mulK, fdivK, powK, ltK, leK, eqK, run, runI, gamN, gamM, outR_next, outR_ret, outR_exc, outI_next, outI_exc, doneI, isiR, D.isi, tyD, isiD, D.isN, Mng.wf, evH, Out.mapG, bindX, noExn, endX, bIsNum, S.sb, isB_li]
structure PSpan (M : Mng) : Prop where
  std : Std M
  isn : M.fn 3 = run M 1 bIsNum
  lim : M.fn 4 = fun _ => .ok (.int 1000000)
  new : M.fn 5 = runI M 3 0 bSpan
theorem r_at {l : List Int} {p : Nat} (hp : p < l.length) : itemD (.lst (l.map D.int)) (.int p) = .ok (.int l[p]!) := by
  have e1 : l[p]? = some l[p]! := by rw [List.getElem?_eq_getElem hp, List.getElem!_eq_getElem?_getD, List.getElem?_eq_getElem hp]; rfl
  have a1 : atI (l.map D.int) (p : Int) = some (.int l[p]!) := by rw [atI_nat, List.getElem?_map, e1]; rfl
  show (match atI (l.map D.int) (p : Int) with | some d => R.ok d | none => .bad) = _
  rw [a1]
end
end G
namespace G
open PySem L2
def bWordB : Sm :=
  (.ifs (.or (.cmp .lt (.var 3) (.str [97])) (.last (.cmp .gt (.var 3) (.str [122]))))
  (.ret (.bl false))
  .nil
  .nil)
def bIsWord : Sm :=
  (.ifs (.or (.not (.isi [.b "str"] (.var 0))) (.or (.cmp .lt (.f1 .len (.var 0)) (.var 1)) (.last (.cmp .gt (.f1 .len (.var 0)) (.var 2)))))
  (.ret (.bl false))
  .nil
  (.loop [3] [3] false (.var 0)
  bWordB
  (.ret (.bl true))))
def bAlphB : Sm :=
  (.ifs (.cmp .ge (.item (.var 0) (.bin .sub (.var 1) (.int 1))) (.item (.var 0) (.var 1)))
  (.ret (.bl false))
  .nil
  .nil)
def bIsAlph : Sm :=
  (.ifs (.not (.call 23 (.cons (.var 0) (.cons (.int 2) (.cons (.int 3) .nil)))))
  (.ret (.bl false))
  .nil
  (.loop [1] [1] true (.cons (.int 1) (.cons (.f1 .len (.var 0)) .nil))
  bAlphB
  (.ret (.bl true))))
def bNamesB : Sm :=
  (.ifs (.not (.call 23 (.cons (.var 1) (.cons (.int 1) (.cons (.int 8) .nil)))))
  (.ret (.bl false))
  .nil
  .nil)
def bAreNames : Sm :=
  (.ifs (.or (.not (.isi [.b "list", .b "tuple"] (.var 0))) (.or (.cmp .lt (.f1 .len (.var 0)) (.int 1)) (.last (.cmp .gt (.f1 .len (.var 0)) (.int 2)))))
  (.ret (.bl false))
  .nil
  (.loop [1] [1] false (.var 0)
  bNamesB
  (.ret (.or (.cmp .eq (.f1 .len (.var 0)) (.int 1)) (.last (.cmp .ne (.item (.var 0) (.int 0)) (.item (.var 0) (.int 1))))))))
def bIsState : Sm :=
  (.ret (.and (.call 3 (.cons (.var 0) .nil)) (.last (.chain .le .le (.int 0) (.var 0) (.glob 1)))))
section
variable {M : Mng} {n0 : Nat}
theorem isB_ss : subB "str" "str" = some true := by decide
theorem isB_is : subB "int" "str" = some false := by decide
theorem isB_ns : subB "NoneType" "str" = some false := by decide
theorem isB_ls : subB "list" "str" = some false := by decide
theorem isB_ll : subB "list" "list" = some true := by decide
theorem isB_tl : subB "tuple" "list" = some false := by decide
theorem isB_tt : subB "tuple" "tuple" = some true := by decide
theorem isB_nl : subB "NoneType" "list" = some false := by decide
theorem isB_nt : subB "NoneType" "tuple" = some false := by decide
theorem isB_il : subB "int" "list" = some false := by decide
theorem isB_it : subB "int" "tuple" = some false := by decide
def lowc (c : Nat) : Bool := decide (97 ≤ c) && decide (c ≤ 122)
def isWord (s : List Nat) (lo hi : Nat) : Bool := decide (lo ≤ s.length) && decide (s.length ≤ hi) && s.all lowc
theorem lt1 (c d : Nat) : ltD (.str [c]) (.str [d]) = .ok (decide (c < d)) := by
  show R.ok (decide ([c] < [d])) = _
  congr 1
  rw [decide_eq_decide]
  simp [List.cons_lt_cons_iff]
theorem le1 (c d : Nat) : leD (.str [c]) (.str [d]) = .ok (decide (c ≤ d)) := by
  show R.ok (!decide ([d] < [c])) = _
  congr 1
  have : ([d] < [c]) ↔ d < c := by simp [List.cons_lt_cons_iff]
  by_cases h : d < c
  · rw [decide_eq_true (this.mpr h), decide_eq_false (by omega)]; rfl
  · rw [decide_eq_false (fun z => h (this.mp z)), decide_eq_true (by omega)]; rfl
theorem word_loop (a b c0 : Cell) : ∀ (l : List Nat) (x : Cell), forD [3] [3] (evS M bWordB) (l.map fun c => D.str [c]) [a, b, c0, x] = if l.all lowc then .next [a, b, c0, .dead] else .ret (.bl false)
  | [], x => by simp [forD, killG]
  | d :: l, x => by
    have e : evS M bWordB [a, b, c0, .val (.str [d])] = if lowc d then .next [a, b, c0, .val (.str [d])] else .ret (.bl false) := by
      by_cases h1 : d < 97
      · have h : lowc d = false := by unfold lowc; simp; omega
        rw [h]
        simp (config := { implicitDefEqProofs := false }) [evS, evE, evL, borrow, binD, cmpD, onL, killG, ofOk, bindOk, atNext, atRet, atExc, truB, truI, intK, lenL, lenS, lenT, andK, orK, notK, addK, subK, modK, mulK, fdivK, powK, ltK, leK, eqK, run, runI, gamN, gamM, outR_next, outR_ret, outR_exc, outI_next, outI_exc, doneI, isiR, D.isi, tyD, isiD, D.isN, Mng.wf, evH, Out.mapG, bindX, noExn, endX, bWordB, lt1, h1]
      · by_cases h2 : 122 < d
        · have h : lowc d = false := by unfold lowc; simp; omega
          rw [h]
          simp (config := { implicitDefEqProofs := false }) [evS, evE, evL, borrow, binD, cmpD, onL, killG, ofOk, bindOk, atNext, atRet, atExc, truB, truI, intK, lenL, lenS, lenT, andK, orK, notK, addK, subK, modK, mulK, fdivK, powK, ltK, leK, eqK, run, runI, gamN, gamM, outR_next, outR_ret, outR_exc, outI_next, outI_exc, doneI, isiR, D.isi, tyD, isiD, D.isN, Mng.wf, evH, Out.mapG, bindX, noExn, endX, bWordB, lt1, h1, h2]
        · have h : lowc d = true := by unfold lowc; simp; omega
          rw [h]
          simp (config := { implicitDefEqProofs := false }) [evS, evE, evL, borrow, binD, cmpD, onL, killG, ofOk, bindOk, atNext, atRet, atExc, truB, truI, intK, lenL, lenS, lenT, andK, orK, notK, addK, subK, modK, mulK, fdivK, powK, ltK, leK, eqK, run, runI, gamN, gamM, outR_next, outR_ret, outR_exc, outI_next, outI_exc, doneI, isiR, D.isi, tyD, isiD, D.isN, Mng.wf, evH, Out.mapG, bindX, noExn, endX, bWordB, lt1, h1, h2]
    have ih := word_loop a b c0 l
    rw [List.map_cons, forD]
    show Out.of _ (.ok [a, b, c0, .val (.str [d])]) _ = _
    rw [ofOk, e]
    cases hd : lowc d with
    | false => simp [hd]
    | true =>
      simp only [if_pos]
      rw [ih]
      simp [hd]
theorem r_is_word (S : Std M) (hf : M.fn n0 = run M 4 bIsWord) (s : List Nat) (hl : s.length ≤ 16777216) (lo hi : Nat) : M.fn n0 [.str s, .int lo, .int hi] = .ok (.bl (isWord s lo hi)) := by
  rw [hf]
  have ll : f1D .len (.str s) = .ok (.int s.length) := if_pos hl
  unfold isWord
  by_cases h1 : s.length < lo
  · rw [decide_eq_false (show ¬ lo ≤ s.length by omega)]
    simp (config := { implicitDefEqProofs := false }) [evS, evE, evL, borrow, binD, cmpD, onL, killG, ofOk, bindOk, atNext, atRet, atExc, truB, truI, intK, lenL, lenS, lenT, andK, orK, notK, addK, subK, modK, mulK, fdivK, powK, ltK, leK, eqK, run, runI, gamN, gamM, outR_next, outR_ret, outR_exc, outI_next, outI_exc, doneI, isiR, D.isi, tyD, isiD, D.isN, Mng.wf, evH, Out.mapG, bindX, noExn, endX, bIsWord, S.sb, isB_ss, ll, h1]
  · by_cases h2 : hi < s.length
    · rw [decide_eq_false (show ¬ s.length ≤ hi by omega)]
      simp (config := { implicitDefEqProofs := false }) [evS, evE, evL, borrow, binD, cmpD, onL, killG, ofOk, bindOk, atNext, atRet, atExc, truB, truI, intK, lenL, lenS, lenT, andK, orK, notK, addK, subK, modK, mulK, fdivK, powK, ltK, leK, eqK, run, runI, gamN, gamM, outR_next, outR_ret, outR_exc, outI_next, outI_exc, doneI, isiR, D.isi, tyD, isiD, D.isN, Mng.wf, evH, Out.mapG, bindX, noExn, endX, bIsWord, S.sb, isB_ss, ll, h1, h2]
    · rw [decide_eq_true (show lo ≤ s.length by omega), decide_eq_true (show s.length ≤ hi by omega)]
      have wl := word_loop (M := M) (.val (.str s)) (.val (.int lo)) (.val (.int hi)) s .dead
      cases ha : s.all lowc with
      | true => rw [ha] at wl; simp (config := { implicitDefEqProofs := false }) [evS, evE, evL, borrow, binD, cmpD, onL, killG, ofOk, bindOk, atNext, atRet, atExc, truB, truI, intK, lenL, lenS, lenT, andK, orK, notK, addK, subK, modK, mulK, fdivK, powK, ltK, leK, eqK, run, runI, gamN, gamM, outR_next, outR_ret, outR_exc, outI_next, outI_exc, doneI, isiR, D.isi, tyD, isiD, D.isN, Mng.wf, evH, Out.mapG, bindX, noExn, endX, bIsWord, S.sb, isB_ss, ll, h1, h2, walkD, wl]
      | false => rw [ha] at wl; simp (config := { implicitDefEqProofs := false }) [evS, evE, evL, borrow, binD, cmpD, onL, killG, ofOk, bindOk, atNext, atRet, atExc, truB, truI, intK, lenL, lenS, lenT, andK, orK, notK, addK, subK, modK, mulK, fdivK, powK, ltK, leK, eqK, run, runI, gamN, gamM, outR_next, outR_ret, outR_exc, outI_next, outI_exc, doneI, isiR, D.isi, tyD, isiD, D.isN, Mng.wf, evH, Out.mapG, bindX, noExn, endX, bIsWord, S.sb, isB_ss, ll, h1, h2, walkD, wl]
def isAlph (s : List Nat) : Bool := isWord s 2 3 && (match s with | [a, b] => decide (a < b) | [a, b, c] => decide (a < b) && decide (b < c) | _ => false)
theorem r_is_alph (S : Std M) (h23 : M.fn 23 = run M 4 bIsWord) (hf : M.fn n0 = run M 2 bIsAlph) (s : List Nat) (hl : s.length ≤ 16777216) : M.fn n0 [.str s] = .ok (.bl (isAlph s)) := by
  rw [hf]
  have w : M.fn 23 [.str s, .int 2, .int 3] = _ := r_is_word S h23 s hl 2 3
  unfold isAlph
  cases hw : isWord s 2 3 with
  | false => rw [hw] at w; simp (config := { implicitDefEqProofs := false }) [evS, evE, evL, borrow, binD, cmpD, onL, killG, ofOk, bindOk, atNext, atRet, atExc, truB, truI, intK, lenL, lenS, lenT, andK, orK, notK, addK, subK, modK, mulK, fdivK, powK, ltK, leK, eqK, run, runI, gamN, gamM, outR_next, outR_ret, outR_exc, outI_next, outI_exc, doneI, isiR, D.isi, tyD, isiD, D.isN, Mng.wf, evH, Out.mapG, bindX, noExn, endX, bIsAlph, w]
  | true =>
    rw [hw] at w
    have hlen : 2 ≤ s.length ∧ s.length ≤ 3 := by
      unfold isWord at hw
      simp only [Bool.and_eq_true, decide_eq_true_eq] at hw
      exact hw.1
    match s, hlen with
    | [a, b], _ =>
      have ll : f1D .len (.str [a, b]) = .ok (.int 2) := rfl
      have wd : walkD true (.tup [.int 1, .int 2]) = .ok [.int 1] := rfl
      have i0 : itemD (.str [a, b]) (.int 0) = .ok (.str [a]) := rfl
      have i1 : itemD (.str [a, b]) (.int 1) = .ok (.str [b]) := rfl
      by_cases h : b ≤ a
      · have h' : ¬ a < b := by omega
        simp (config := { implicitDefEqProofs := false }) [evS, evE, evL, borrow, binD, cmpD, onL, killG, ofOk, bindOk, atNext, atRet, atExc, truB, truI, intK, lenL, lenS, lenT, andK, orK, notK, addK, subK, modK, mulK, fdivK, powK, ltK, leK, eqK, run, runI, gamN, gamM, outR_next, outR_ret, outR_exc, outI_next, outI_exc, doneI, isiR, D.isi, tyD, isiD, D.isN, Mng.wf, evH, Out.mapG, bindX, noExn, endX, bIsAlph, bAlphB, w, ll, wd, i0, i1, forD, tgtD, le1, h, h']
      · have h' : a < b := by omega
        simp (config := { implicitDefEqProofs := false }) [evS, evE, evL, borrow, binD, cmpD, onL, killG, ofOk, bindOk, atNext, atRet, atExc, truB, truI, intK, lenL, lenS, lenT, andK, orK, notK, addK, subK, modK, mulK, fdivK, powK, ltK, leK, eqK, run, runI, gamN, gamM, outR_next, outR_ret, outR_exc, outI_next, outI_exc, doneI, isiR, D.isi, tyD, isiD, D.isN, Mng.wf, evH, Out.mapG, bindX, noExn, endX, bIsAlph, bAlphB, w, ll, wd, i0, i1, forD, tgtD, le1, h, h']
    | [a, b, c], _ =>
      have ll : f1D .len (.str [a, b, c]) = .ok (.int 3) := rfl
      have wd : walkD true (.tup [.int 1, .int 3]) = .ok [.int 1, .int 2] := rfl
      have i0 : itemD (.str [a, b, c]) (.int 0) = .ok (.str [a]) := rfl
      have i1 : itemD (.str [a, b, c]) (.int 1) = .ok (.str [b]) := rfl
      have i2 : itemD (.str [a, b, c]) (.int 2) = .ok (.str [c]) := rfl
      by_cases h : b ≤ a
      · have h' : ¬ a < b := by omega
        simp (config := { implicitDefEqProofs := false }) [evS, evE, evL, borrow, binD, cmpD, onL, killG, ofOk, bindOk, atNext, atRet, atExc, truB, truI, intK, lenL, lenS, lenT, andK, orK, notK, addK, subK, modK, mulK, fdivK, powK, ltK, leK, eqK, run, runI, gamN, gamM, outR_next, outR_ret, outR_exc, outI_next, outI_exc, doneI, isiR, D.isi, tyD, isiD, D.isN, Mng.wf, evH, Out.mapG, bindX, noExn, endX, bIsAlph, bAlphB, w, ll, wd, i0, i1, i2, forD, tgtD, le1, h, h']
      · have h' : a < b := by omega
        by_cases g : c ≤ b
        · have g' : ¬ b < c := by omega
          simp (config := { implicitDefEqProofs := false }) [evS, evE, evL, borrow, binD, cmpD, onL, killG, ofOk, bindOk, atNext, atRet, atExc, truB, truI, intK, lenL, lenS, lenT, andK, orK, notK, addK, subK, modK, mulK, fdivK, powK, ltK, leK, eqK, run, runI, gamN, gamM, outR_next, outR_ret, outR_exc, outI_next, outI_exc, doneI, isiR, D.isi, tyD, isiD, D.isN, Mng.wf, evH, Out.mapG, bindX, noExn, endX, bIsAlph, bAlphB, w, ll, wd, i0, i1, i2, forD, tgtD, le1, h, h', g, g']
        · have g' : b < c := by omega
          simp (config := { implicitDefEqProofs := false }) [evS, evE, evL, borrow, binD, cmpD, onL, killG, ofOk, bindOk, atNext, atRet, atExc, truB, truI, intK, lenL, lenS, lenT, andK, orK, notK, addK, subK, modK, mulK, fdivK, powK, ltK, leK, eqK, run, runI, gamN, gamM, outR_next, outR_ret, outR_exc, outI_next, outI_exc, doneI, isiR, D.isi, tyD, isiD, D.isN, Mng.wf, evH, Out.mapG, bindX, noExn, endX, bIsAlph, bAlphB, w, ll, wd, i0, i1, i2, forD, tgtD, le1, h, h', g, g']
def okName : D → Bool
  | .str s => isWord s 1 8
  | _ => false
def areNames2 (l : List D) : Bool := decide (1 ≤ l.length) && decide (l.length ≤ 2) && l.all okName && (match l with | [_] => true | [a, b] => !a.eqv b | _ => false)
theorem names_loop (a : Cell) : ∀ (l : List D) (x : Cell), (∀ d ∈ l, M.fn 23 [d, .int 1, .int 8] = .ok (.bl (okName d))) → forD [1] [1] (evS M bNamesB) l [a, x] = if l.all okName then .next [a, .dead] else .ret (.bl false)
  | [], x, _ => by simp [forD, killG]
  | d :: l, x, hw => by
    have hd := hw d List.mem_cons_self
    have e : evS M bNamesB [a, .val d] = if okName d then .next [a, .val d] else .ret (.bl false) := by
      cases ho : okName d with
      | true => rw [ho] at hd; simp (config := { implicitDefEqProofs := false }) [evS, evE, evL, borrow, binD, cmpD, onL, killG, ofOk, bindOk, atNext, atRet, atExc, truB, truI, intK, lenL, lenS, lenT, andK, orK, notK, addK, subK, modK, mulK, fdivK, powK, ltK, leK, eqK, run, runI, gamN, gamM, outR_next, outR_ret, outR_exc, outI_next, outI_exc, doneI, isiR, D.isi, tyD, isiD, D.isN, Mng.wf, evH, Out.mapG, bindX, noExn, endX, bNamesB, hd]
      | false => rw [ho] at hd; simp (config := { implicitDefEqProofs := false }) [evS, evE, evL, borrow, binD, cmpD, onL, killG, ofOk, bindOk, atNext, atRet, atExc, truB, truI, intK, lenL, lenS, lenT, andK, orK, notK, addK, subK, modK, mulK, fdivK, powK, ltK, leK, eqK, run, runI, gamN, gamM, outR_next, outR_ret, outR_exc, outI_next, outI_exc, doneI, isiR, D.isi, tyD, isiD, D.isN, Mng.wf, evH, Out.mapG, bindX, noExn, endX, bNamesB, hd]
    have ih := names_loop a l
    rw [forD]
    show Out.of _ (.ok [a, .val d]) _ = _
    rw [ofOk, e]
    cases ho : okName d with
    | false => simp [ho]
    | true =>
      simp only [if_pos]
      rw [ih _ (fun d hd => hw d (List.mem_cons_of_mem _ hd))]
      simp [ho]
theorem lowc_flat {s : List Nat} (h : s.all lowc = true) (hl : s.length ≤ 16777216) (n : Nat) : D.flat n (.str s) = true := by
  have : (s.all (· < 128) && decide (s.length ≤ 16777216)) = true := by
    rw [Bool.and_eq_true, decide_eq_true_eq]
    refine ⟨List.all_eq_true.mpr fun c hc => ?_, hl⟩
    have := List.all_eq_true.mp h c hc
    unfold lowc at this
    simp only [Bool.and_eq_true, decide_eq_true_eq] at this ⊢
    omega
  cases n <;> exact this
theorem okName_flat {d : D} (h : okName d = true) (n : Nat) : D.flat n d = true := by
  cases d with
  | str s =>
    have h : isWord s 1 8 = true := h
    unfold isWord at h
    simp only [Bool.and_eq_true, decide_eq_true_eq] at h
    exact lowc_flat h.2 (by omega) n
  | _ => cases h
theorem isiLT (S : Std M) {v : D} {l : List D} (hv : v = .lst l ∨ v = .tup l) : isiR M [.b "list", .b "tuple"] v = .ok (.bl true) := by
  rcases hv with rfl | rfl
  · simp (config := { implicitDefEqProofs := false }) [evS, evE, evL, borrow, binD, cmpD, onL, killG, ofOk, bindOk, atNext, atRet, atExc, truB, truI, intK, lenL, lenS, lenT, andK, orK, notK, addK, subK, modK, mulK, fdivK, powK, ltK, leK, eqK, run, runI, gamN, gamM, outR_next, outR_ret, outR_exc, outI_next, outI_exc, doneI, isiR, D.isi, tyD, isiD, D.isN, Mng.wf, evH, Out.mapG, bindX, noExn, endX, S.sb, isB_ll]
  · simp (config := { implicitDefEqProofs := false }) [evS, evE, evL, borrow, binD, cmpD, onL, killG, ofOk, bindOk, atNext, atRet, atExc, truB, truI, intK, lenL, lenS, lenT, andK, orK, notK, addK, subK, modK, mulK, fdivK, powK, ltK, leK, eqK, run, runI, gamN, gamM, outR_next, outR_ret, outR_exc, outI_next, outI_exc, doneI, isiR, D.isi, tyD, isiD, D.isN, Mng.wf, evH, Out.mapG, bindX, noExn, endX, S.sb, isB_tl, isB_tt]
theorem r_are_names (S : Std M) (hf : M.fn n0 = run M 2 bAreNames) {v : D} {l : List D} (hv : v = .lst l ∨ v = .tup l) (hw : ∀ d ∈ l, M.fn 23 [d, .int 1, .int 8] = .ok (.bl (okName d))) : M.fn n0 [v] = .ok (.bl (areNames2 l)) := by
  rw [hf]
  have e := isiLT S hv
  have ll : f1D .len v = .ok (.int l.length) := by rcases hv with rfl | rfl <;> rfl
  have wd : walkD false v = .ok l := by rcases hv with rfl | rfl <;> rfl
  unfold areNames2
  by_cases h1 : l.length < 1
  · rw [decide_eq_false (show ¬ 1 ≤ l.length by omega)]
    have h1' : (l.length : Int) < 1 := by omega
    simp (config := { implicitDefEqProofs := false }) [evS, evE, evL, borrow, binD, cmpD, onL, killG, ofOk, bindOk, atNext, atRet, atExc, truB, truI, intK, lenL, lenS, lenT, andK, orK, notK, addK, subK, modK, mulK, fdivK, powK, ltK, leK, eqK, run, runI, gamN, gamM, outR_next, outR_ret, outR_exc, outI_next, outI_exc, doneI, D.isN, Mng.wf, evH, Out.mapG, bindX, noExn, endX, bAreNames, e, ll, h1, h1']
  · by_cases h2 : 2 < l.length
    · rw [decide_eq_false (show ¬ l.length ≤ 2 by omega)]
      have h1' : ¬ ((l.length : Int) < 1) := by omega
      have h2' : (2 : Int) < (l.length : Int) := by omega
      simp (config := { implicitDefEqProofs := false }) [evS, evE, evL, borrow, binD, cmpD, onL, killG, ofOk, bindOk, atNext, atRet, atExc, truB, truI, intK, lenL, lenS, lenT, andK, orK, notK, addK, subK, modK, mulK, fdivK, powK, ltK, leK, eqK, run, runI, gamN, gamM, outR_next, outR_ret, outR_exc, outI_next, outI_exc, doneI, D.isN, Mng.wf, evH, Out.mapG, bindX, noExn, endX, bAreNames, e, ll, h1, h1', h2, h2']
    · rw [decide_eq_true (show 1 ≤ l.length by omega), decide_eq_true (show l.length ≤ 2 by omega)]
      have h1' : ¬ ((l.length : Int) < 1) := by omega
      have h2' : ¬ (2 : Int) < (l.length : Int) := by omega
      have nl := names_loop (M := M) (.val v) l .dead hw
      cases ha : l.all okName with
      | false => rw [ha] at nl; simp (config := { implicitDefEqProofs := false }) [evS, evE, evL, borrow, binD, cmpD, onL, killG, ofOk, bindOk, atNext, atRet, atExc, truB, truI, intK, lenL, lenS, lenT, andK, orK, notK, addK, subK, modK, mulK, fdivK, powK, ltK, leK, eqK, run, runI, gamN, gamM, outR_next, outR_ret, outR_exc, outI_next, outI_exc, doneI, D.isN, Mng.wf, evH, Out.mapG, bindX, noExn, endX, bAreNames, e, ll, h1, h1', h2, h2', wd, nl]
      | true =>
        rw [ha] at nl
        match l, h1, h2 with
        | [], h1, _ => exact absurd (by decide) h1
        | a :: b :: c :: r, _, h2 => exact absurd (by simp) h2
        | [a], _, _ =>
          have ll : f1D .len v = .ok (.int 1) := ll
          simp (config := { implicitDefEqProofs := false }) [evS, evE, evL, borrow, binD, cmpD, onL, killG, ofOk, bindOk, atNext, atRet, atExc, truB, truI, intK, lenL, lenS, lenT, andK, orK, notK, addK, subK, modK, mulK, fdivK, powK, ltK, leK, eqK, run, runI, gamN, gamM, outR_next, outR_ret, outR_exc, outI_next, outI_exc, doneI, D.isN, Mng.wf, evH, Out.mapG, bindX, noExn, endX, bAreNames, e, ll, wd, nl]
        | [a, b], _, _ =>
          have ll : f1D .len v = .ok (.int 2) := ll
          have i0 : itemD v (.int 0) = .ok a := by rcases hv with rfl | rfl <;> rfl
          have i1 : itemD v (.int 1) = .ok b := by rcases hv with rfl | rfl <;> rfl
          simp only [List.all_cons, List.all_nil, Bool.and_true, Bool.and_eq_true] at ha
          have q : eqD a b = .ok (a.eqv b) := by unfold eqD; rw [okName_flat ha.1, okName_flat ha.2]; rfl
          simp (config := { implicitDefEqProofs := false }) [evS, evE, evL, borrow, binD, cmpD, onL, killG, ofOk, bindOk, atNext, atRet, atExc, truB, truI, intK, lenL, lenS, lenT, andK, orK, notK, addK, subK, modK, mulK, fdivK, powK, ltK, leK, eqK, run, runI, gamN, gamM, outR_next, outR_ret, outR_exc, outI_next, outI_exc, doneI, D.isN, Mng.wf, evH, Out.mapG, bindX, noExn, endX, bAreNames, e, ll, wd, nl, i0, i1, q]
def okState : D → Bool
  | .int i => decide (0 ≤ i) && decide (i ≤ 999999)
  | _ => false
def simple : D → Bool
  | .int _ => true
  | .bl _ => true
  | .non => true
  | .str _ => true
  | .tup _ => true
  | .lst _ => true
  | _ => false
theorem r_is_state (S : Std M) (h3 : M.fn 3 = run M 1 bIsNum) (hf : M.fn n0 = run M 1 bIsState) {d : D} (h : simple d = true) : M.fn n0 [d] = .ok (.bl (okState d)) := by
  rw [hf]
  have g1 : M.gl 1 = .int 999999 := by rw [S.gl]; rfl
  cases d with
  | int i =>
    have j := r_isnum S h3 i
    by_cases h0 : 0 ≤ i
    · by_cases h1 : i ≤ 999999
      · simp (config := { implicitDefEqProofs := false }) [evS, evE, evL, borrow, binD, cmpD, onL, killG, ofOk, bindOk, atNext, atRet, atExc, truB, truI, intK, lenL, lenS, lenT, andK, orK, notK, addK, subK, modK, mulK, fdivK, powK, ltK, leK, eqK, run, runI, gamN, gamM, outR_next, outR_ret, outR_exc, outI_next, outI_exc, doneI, isiR, D.isi, tyD, isiD, D.isN, Mng.wf, evH, Out.mapG, bindX, noExn, endX, bIsState, j, g1, h0, h1, okState]
      · simp (config := { implicitDefEqProofs := false }) [evS, evE, evL, borrow, binD, cmpD, onL, killG, ofOk, bindOk, atNext, atRet, atExc, truB, truI, intK, lenL, lenS, lenT, andK, orK, notK, addK, subK, modK, mulK, fdivK, powK, ltK, leK, eqK, run, runI, gamN, gamM, outR_next, outR_ret, outR_exc, outI_next, outI_exc, doneI, isiR, D.isi, tyD, isiD, D.isN, Mng.wf, evH, Out.mapG, bindX, noExn, endX, bIsState, j, g1, h0, h1, okState]
    · simp (config := { implicitDefEqProofs := false }) [evS, evE, evL, borrow, binD, cmpD, onL, killG, ofOk, bindOk, atNext, atRet, atExc, truB, truI, intK, lenL, lenS, lenT, andK, orK, notK, addK, subK, modK, mulK, fdivK, powK, ltK, leK, eqK, run, runI, gamN, gamM, outR_next, outR_ret, outR_exc, outI_next, outI_exc, doneI, isiR, D.isi, tyD, isiD, D.isN, Mng.wf, evH, Out.mapG, bindX, noExn, endX, bIsState, j, g1, h0, okState]
  | bl b => have j := r_isnum_bl S h3 b; simp (config := { implicitDefEqProofs := false }) [evS, evE, evL, borrow, binD, cmpD, onL, killG, ofOk, bindOk, atNext, atRet, atExc, truB, truI, intK, lenL, lenS, lenT, andK, orK, notK, addK, subK, modK, mulK, fdivK, powK, ltK, leK, eqK, run, runI, gamN, gamM, outR_next, outR_ret, outR_exc, outI_next, outI_exc, doneI, isiR, D.isi, tyD, isiD, D.isN, Mng.wf, evH, Out.mapG, bindX, noExn, endX, bIsState, j, okState]
  | non => have j := r_isnum_non S h3; simp (config := { implicitDefEqProofs := false }) [evS, evE, evL, borrow, binD, cmpD, onL, killG, ofOk, bindOk, atNext, atRet, atExc, truB, truI, intK, lenL, lenS, lenT, andK, orK, notK, addK, subK, modK, mulK, fdivK, powK, ltK, leK, eqK, run, runI, gamN, gamM, outR_next, outR_ret, outR_exc, outI_next, outI_exc, doneI, isiR, D.isi, tyD, isiD, D.isN, Mng.wf, evH, Out.mapG, bindX, noExn, endX, bIsState, j, okState]
  | str s => have j := r_isnum_str S h3 s; simp (config := { implicitDefEqProofs := false }) [evS, evE, evL, borrow, binD, cmpD, onL, killG, ofOk, bindOk, atNext, atRet, atExc, truB, truI, intK, lenL, lenS, lenT, andK, orK, notK, addK, subK, modK, mulK, fdivK, powK, ltK, leK, eqK, run, runI, gamN, gamM, outR_next, outR_ret, outR_exc, outI_next, outI_exc, doneI, isiR, D.isi, tyD, isiD, D.isN, Mng.wf, evH, Out.mapG, bindX, noExn, endX, bIsState, j, okState]
  | tup s => have j := r_isnum_tup S h3 s; simp (config := { implicitDefEqProofs := false }) [evS, evE, evL, borrow, binD, cmpD, onL, killG, ofOk, bindOk, atNext, atRet, atExc, truB, truI, intK, lenL, lenS, lenT, andK, orK, notK, addK, subK, modK, mulK, fdivK, powK, ltK, leK, eqK, run, runI, gamN, gamM, outR_next, outR_ret, outR_exc, outI_next, outI_exc, doneI, isiR, D.isi, tyD, isiD, D.isN, Mng.wf, evH, Out.mapG, bindX, noExn, endX, bIsState, j, okState]
  | lst s => have j := r_isnum_lst S h3 s; simp (config := { implicitDefEqProofs := false }) [evS, evE, evL, borrow, binD, cmpD, onL, killG, ofOk, bindOk, atNext, atRet, atExc, truB, truI, intK, lenL, lenS, lenT, andK, orK, notK, addK, subK, modK, mulK, fdivK, powK, ltK, leK, eqK, run, runI, gamN, gamM, outR_next, outR_ret, outR_exc, outI_next, outI_exc, doneI, isiR, D.isi, tyD, isiD, D.isN, Mng.wf, evH, Out.mapG, bindX, noExn, endX, bIsState, j, okState]
  | _ => cases h
end
end G
namespace G
open PySem L2
def bEndsB : Sm :=
  (.ifs (.not (.call 26 (.cons (.var 2) .nil)))
  (.raise 4)
  .nil
  (.dput 1 (.var 2) (.bl true)
  .nil))
def bEnds : Sm :=
  (.ifs (.not (.isi [.b "list", .b "tuple"] (.var 0)))
  (.raise 4)
  .nil
  (.newD true 1
  (.loop [2] [2] false (.var 0)
  bEndsB
  (.frz 1 (.ret (.f1 .tuple (.f1 .sorted (.var 1))))))))
def bMovesB : Sm :=
  (.ifs (.or (.not (.isi [.b "list", .b "tuple"] (.var 3))) (.last (.cmp .ne (.f1 .len (.var 3)) (.int 3))))
  (.raise 4)
  .nil
  (.ifs (.or (.not (.call 26 (.cons (.item (.var 3) (.int 0)) .nil))) (.last (.not (.call 26 (.cons (.item (.var 3) (.int 2)) .nil)))))
  (.raise 4)
  .nil
  (.ifs (.or (.not (.isi [.b "str"] (.item (.var 3) (.int 1)))) (.last (.cmp .notin (.item (.var 3) (.int 1)) (.var 1))))
  (.raise 4)
  .nil
  (.dput 2 (.tup (.cons (.item (.var 3) (.int 0)) (.cons (.item (.var 3) (.int 1)) (.cons (.item (.var 3) (.int 2)) .nil)))) (.bl true)
  .nil))))
def bMoves : Sm :=
  (.ifs (.not (.isi [.b "list", .b "tuple"] (.var 0)))
  (.raise 4)
  .nil
  (.newD false 2
  (.loop [3] [3] false (.var 0)
  bMovesB
  (.frz 2 (.ret (.f1 .tuple (.f1 .sorted (.var 2))))))))
def putK (ks : List D) (m : D) : List D := if dHas ks m then ks else ks ++ [m]
theorem putK_all {p : D → Bool} {ks : List D} {m : D} (h : ks.all p = true) (hm : p m = true) : (putK ks m).all p = true := by
  unfold putK
  split
  · exact h
  · rw [List.all_append, h]; simp [hm]
theorem putK_len (ks : List D) (m : D) : (putK ks m).length ≤ ks.length + 1 := by
  unfold putK
  split <;> simp
theorem foldK_all {p : D → Bool} : ∀ {l ks : List D}, ks.all p = true → l.all p = true → (l.foldl putK ks).all p = true
  | [], ks, h, _ => h
  | d :: l, ks, h, hl => by
    rw [List.all_cons, Bool.and_eq_true] at hl
    exact foldK_all (l := l) (ks := putK ks d) (putK_all h hl.1) hl.2
theorem put_step {k : Bool} {ks vs : List D} {x : D} {f : List D → List D → Out} (hk : x.isKey k = true) (hl : ks.length < 16777216) : ∃ vs', putOut k ks vs x (.bl true) f = f (putK ks x) vs' := by
  unfold putOut putK
  rw [if_pos hk]
  by_cases h : dHas ks x = true
  · rw [if_pos h, if_pos h]; exact ⟨_, rfl⟩
  · rw [if_neg h, if_neg h, if_pos (show ks.length < LINE from hl)]; exact ⟨_, rfl⟩
theorem isB_bs : subB "bool" "str" = some false := by decide
theorem isB_ts : subB "tuple" "str" = some false := by decide
section
variable {M : Mng} {n0 : Nat}
def isInt : D → Bool
  | .int _ => true
  | _ => false
theorem okState_int {d : D} (h : okState d = true) : ∃ i, d = .int i ∧ 0 ≤ i ∧ i ≤ 999999 := by
  cases d with
  | int i =>
    have h : (decide (0 ≤ i) && decide (i ≤ 999999)) = true := h
    simp only [Bool.and_eq_true, decide_eq_true_eq] at h
    exact ⟨i, rfl, h.1, h.2⟩
  | _ => cases h
theorem one_ints {l : List D} (h : l.all okState = true) : oneShp l = true := by
  have hi : ∀ d ∈ l, ∃ i, d = .int i := fun d hd => by
    obtain ⟨i, e, _⟩ := okState_int (List.all_eq_true.mp h d hd)
    exact ⟨i, e⟩
  have fl : ∀ {l : List D}, (∀ d ∈ l, ∃ i, d = D.int i) → D.flatL 60 l = true := by
    intro l
    induction l with
    | nil => intro _; rfl
    | cons d l ih =>
      intro hd
      obtain ⟨i, e⟩ := hd d List.mem_cons_self
      subst e
      show (D.flat 60 (.int i) && D.flatL 60 l) = true
      rw [ih fun d hd' => hd d (List.mem_cons_of_mem _ hd')]
      rfl
  unfold oneShp
  rw [fl hi]
  have a1 : (l.all fun a => l.all fun b => PySem.W.alike a.py b.py) = true := List.all_eq_true.mpr fun a ha => List.all_eq_true.mpr fun b hb => by
    obtain ⟨i, rfl⟩ := hi a ha
    obtain ⟨j, rfl⟩ := hi b hb
    rfl
  have a2 : (l.all fun d => !d.isN && !d.isTup) = true := List.all_eq_true.mpr fun a ha => by
    obtain ⟨i, rfl⟩ := hi a ha
    rfl
  rw [a1, a2]
  simp
def endsOf (l : List D) : List D := srtD (l.foldl putK [])
theorem ends_loop (S : Std M) (h3 : M.fn 3 = run M 1 bIsNum) (h26 : M.fn 26 = run M 1 bIsState) (a : Cell) : ∀ (l ks vs : List D) (x : Cell), (∀ d ∈ l, simple d = true) → ks.length + l.length ≤ 16777216 →
    (l.all okState = true → ∃ vs', forD [2] [2] (evS M bEndsB) l [a, .ownD true ks vs, x] = .next [a, .ownD true (l.foldl putK ks) vs', .dead]) ∧
    (l.all okState = false → ∃ Γ, forD [2] [2] (evS M bEndsB) l [a, .ownD true ks vs, x] = .exc (4, []) Γ)
  | [], ks, vs, x, _, _ => ⟨fun _ => ⟨vs, by simp [forD, killG]⟩, fun h => (by cases h)⟩
  | d :: l, ks, vs, x, hs, hl => by
    have hd := r_is_state S h3 h26 (hs d List.mem_cons_self)
    rw [List.length_cons] at hl
    cases ho : okState d with
    | false =>
      rw [ho] at hd
      refine ⟨fun h => (by rw [List.all_cons, ho] at h; cases h), fun _ => ?_⟩
      have e : evS M bEndsB [a, .ownD true ks vs, .val d] = .exc (4, []) [a, .ownD true ks vs, .val d] := by simp (config := { implicitDefEqProofs := false }) [evS, evE, evL, borrow, binD, cmpD, onL, killG, ofOk, bindOk, atNext, atRet, atExc, truB, truI, intK, lenL, lenS, lenT, andK, orK, notK, addK, subK, modK, mulK, fdivK, powK, ltK, leK, eqK, run, runI, gamN, gamM, outR_next, outR_ret, outR_exc, outI_next, outI_exc, doneI, isiR, D.isi, tyD, isiD, D.isN, Mng.wf, evH, Out.mapG, bindX, noExn, endX, bEndsB, hd]
      refine ⟨[a, .ownD true ks vs, .val d], ?_⟩
      rw [forD]
      show Out.of _ (.ok [a, .ownD true ks vs, .val d]) _ = _
      rw [ofOk, e]
    | true =>
      rw [ho] at hd
      have hk : d.isKey true = true := by obtain ⟨i, e, _⟩ := okState_int ho; subst e; rfl
      obtain ⟨vs1, e1⟩ := put_step (k := true) (ks := ks) (vs := vs) (x := d) (f := fun ks' vs' => evS M .nil (([a, Cell.ownD true ks vs, .val d] : Gam).set 1 (.ownD true ks' vs'))) hk (by omega)
      have e : evS M bEndsB [a, .ownD true ks vs, .val d] = .next [a, .ownD true (putK ks d) vs1, .val d] := by
        simp (config := { implicitDefEqProofs := false }) [evS, evE, evL, borrow, binD, cmpD, onL, killG, ofOk, bindOk, atNext, atRet, atExc, truB, truI, intK, lenL, lenS, lenT, andK, orK, notK, addK, subK, modK, mulK, fdivK, powK, ltK, leK, eqK, run, runI, gamN, gamM, outR_next, outR_ret, outR_exc, outI_next, outI_exc, doneI, isiR, D.isi, tyD, isiD, D.isN, Mng.wf, evH, Out.mapG, bindX, noExn, endX, bEndsB, hd, onD]
        simp only [evS] at e1
        exact e1
      have hlen := putK_len ks d
      obtain ⟨ih1, ih2⟩ := ends_loop S h3 h26 a l (putK ks d) vs1 (.val d) (fun d hd => hs d (List.mem_cons_of_mem _ hd)) (by omega)
      have step : forD [2] [2] (evS M bEndsB) (d :: l) [a, .ownD true ks vs, x] = forD [2] [2] (evS M bEndsB) l [a, .ownD true (putK ks d) vs1, .val d] := by
        rw [forD]
        show Out.of _ (.ok [a, .ownD true ks vs, .val d]) _ = _
        rw [ofOk, e]
      rw [step, List.all_cons, ho]
      exact ⟨fun h => ih1 (by simpa using h), fun h => ih2 (by simpa using h)⟩
theorem r_ends (S : Std M) (h3 : M.fn 3 = run M 1 bIsNum) (h26 : M.fn 26 = run M 1 bIsState) (hf : M.fn n0 = run M 3 bEnds) {v : D} {l : List D} (hv : v = .lst l ∨ v = .tup l) (hs : ∀ d ∈ l, simple d = true) (hl : l.length ≤ 16777216) :
    M.fn n0 [v] = if l.all okState then .ok (.tup (endsOf l)) else .exc (4, []) := by
  rw [hf]
  have e := isiLT S hv
  have wd : walkD false v = .ok l := by rcases hv with rfl | rfl <;> rfl
  obtain ⟨l1, l2⟩ := ends_loop S h3 h26 (.val v) l [] [] .dead hs (by simpa using hl)
  cases ho : l.all okState with
  | true =>
    obtain ⟨vs', q⟩ := l1 ho
    have one := one_ints (foldK_all (p := okState) (ks := []) rfl ho)
    have st : ∀ vs : List D, f1D .sorted (.dict true (l.foldl putK []) vs) = .ok (.lst (endsOf l)) := fun vs => if_pos one
    have tp : ∀ l : List D, f1D .tuple (.lst l) = .ok (.tup l) := fun _ => rfl
    simp (config := { implicitDefEqProofs := false }) [evS, evE, evL, borrow, binD, cmpD, onL, killG, ofOk, bindOk, atNext, atRet, atExc, truB, truI, intK, lenL, lenS, lenT, andK, orK, notK, addK, subK, modK, mulK, fdivK, powK, ltK, leK, eqK, run, runI, gamN, gamM, outR_next, outR_ret, outR_exc, outI_next, outI_exc, doneI, D.isN, Mng.wf, evH, Out.mapG, bindX, noExn, endX, bEnds, e, wd, q, frzG, st, tp]
  | false =>
    obtain ⟨Γ, q⟩ := l2 ho
    simp (config := { implicitDefEqProofs := false }) [evS, evE, evL, borrow, binD, cmpD, onL, killG, ofOk, bindOk, atNext, atRet, atExc, truB, truI, intK, lenL, lenS, lenT, andK, orK, notK, addK, subK, modK, mulK, fdivK, powK, ltK, leK, eqK, run, runI, gamN, gamM, outR_next, outR_ret, outR_exc, outI_next, outI_exc, doneI, D.isN, Mng.wf, evH, Out.mapG, bindX, noExn, endX, bEnds, e, wd, q]
def mvOf : D → D
  | .lst l => .tup l
  | d => d
def signIn (signs : List D) : D → Bool
  | .str s => signs.any fun y => y.eqv (.str s)
  | _ => false
def okMove (signs : List D) : D → Bool
  | .tup [a, s, b] => okState a && okState b && signIn signs s
  | .lst [a, s, b] => okState a && okState b && signIn signs s
  | _ => false
def simp2 (d : D) : Bool := simple d && d.flat 60
def mvShape : D → Bool
  | .tup l => l.all simp2
  | .lst l => l.all simp2
  | .int _ => true
  | .non => true
  | _ => false
def okMv : D → Bool
  | .tup [.int _, .str s, .int _] => s.all (· < 128) && decide (s.length ≤ 16777216)
  | _ => false
theorem okMv_ex {d : D} (h : okMv d = true) : ∃ i s j, d = .tup [.int i, .str s, .int j] ∧ (s.all (· < 128) && decide (s.length ≤ 16777216)) = true := by
  unfold okMv at h
  split at h
  · exact ⟨_, _, _, rfl, h⟩
  · cases h
theorem one_mvs {l : List D} (h : l.all okMv = true) : oneShp l = true := by
  have hi : ∀ d ∈ l, ∃ i s j, d = .tup [.int i, .str s, .int j] ∧ (s.all (· < 128) && decide (s.length ≤ 16777216)) = true := fun d hd => okMv_ex (List.all_eq_true.mp h d hd)
  have fl : ∀ {l : List D}, (∀ d ∈ l, ∃ i s j, d = D.tup [.int i, .str s, .int j] ∧ (s.all (· < 128) && decide (s.length ≤ 16777216)) = true) → D.flatL 60 l = true := by
    intro l
    induction l with
    | nil => intro _; rfl
    | cons d l ih =>
      intro hd
      obtain ⟨i, s, j, e, hs⟩ := hd d List.mem_cons_self
      subst e
      show ((true && ((s.all (· < 128) && decide (s.length ≤ 16777216)) && (true && true))) && D.flatL 60 l) = true
      rw [ih fun d hd' => hd d (List.mem_cons_of_mem _ hd'), hs]
      rfl
  unfold oneShp
  rw [fl hi]
  have a1 : (l.all fun a => l.all fun b => PySem.W.alike a.py b.py) = true := List.all_eq_true.mpr fun a ha => List.all_eq_true.mpr fun b hb => by
    obtain ⟨i, s, j, rfl, _⟩ := hi a ha
    obtain ⟨i2, s2, j2, rfl, _⟩ := hi b hb
    rfl
  have a2 : (l.all D.isTup1) = true := List.all_eq_true.mpr fun a ha => by
    obtain ⟨i, s, j, rfl, _⟩ := hi a ha
    rfl
  rw [a1, a2]
  rfl
theorem move_body (S : Std M) (h3 : M.fn 3 = run M 1 bIsNum) (h26 : M.fn 26 = run M 1 bIsState) (a : Cell) {signs : List D} (hsg : D.flatL 60 signs = true) {ks vs : List D} (hl : ks.length < 16777216) {d : D} (hd : mvShape d = true) :
    (okMove signs d = true → ∃ vs', evS M bMovesB [a, .val (.lst signs), .ownD false ks vs, .val d] = .next [a, .val (.lst signs), .ownD false (putK ks (mvOf d)) vs', .val d]) ∧
    (okMove signs d = false → evS M bMovesB [a, .val (.lst signs), .ownD false ks vs, .val d] = .exc (4, []) [a, .val (.lst signs), .ownD false ks vs, .val d]) := by
  have key : ∀ (l : List D), (d = .lst l ∨ d = .tup l) → l.all simp2 = true → _ := fun l hv ha => (show
    (okMove signs d = true → ∃ vs', evS M bMovesB [a, .val (.lst signs), .ownD false ks vs, .val d] = .next [a, .val (.lst signs), .ownD false (putK ks (mvOf d)) vs', .val d]) ∧
    (okMove signs d = false → evS M bMovesB [a, .val (.lst signs), .ownD false ks vs, .val d] = .exc (4, []) [a, .val (.lst signs), .ownD false ks vs, .val d]) by
    have e := isiLT S hv
    have ll : f1D .len d = .ok (.int l.length) := by rcases hv with rfl | rfl <;> rfl
    have q3 : eqD (.int (l.length : Int)) (.int 3) = .ok ((l.length : Int) == 3) := eqK _ _
    by_cases h3l : l.length = 3
    · match l, h3l with
      | [x, s, y], _ =>
        have ll : f1D .len d = .ok (.int 3) := ll
        have i0 : itemD d (.int 0) = .ok x := by rcases hv with rfl | rfl <;> rfl
        have i1 : itemD d (.int 1) = .ok s := by rcases hv with rfl | rfl <;> rfl
        have i2 : itemD d (.int 2) = .ok y := by rcases hv with rfl | rfl <;> rfl
        simp only [List.all_cons, List.all_nil, Bool.and_true, Bool.and_eq_true] at ha
        obtain ⟨hx, hs, hy⟩ := ha
        unfold simp2 at hx hs hy
        rw [Bool.and_eq_true] at hx hs hy
        have sx := r_is_state S h3 h26 hx.1
        have sy := r_is_state S h3 h26 hy.1
        have ok : okMove signs d = (okState x && okState y && signIn signs s) := by rcases hv with rfl | rfl <;> rfl
        have mv : mvOf d = .tup [x, s, y] := by rcases hv with rfl | rfl <;> rfl
        rw [ok, mv]
        cases ox : okState x with
        | false =>
          rw [ox] at sx
          refine ⟨fun z => ?_, fun _ => ?_⟩
          · simp at z
          · simp (config := { implicitDefEqProofs := false }) [evS, evE, evL, borrow, binD, cmpD, onL, killG, ofOk, bindOk, atNext, atRet, atExc, truB, truI, intK, lenL, lenS, lenT, andK, orK, notK, addK, subK, modK, mulK, fdivK, powK, ltK, leK, eqK, run, runI, gamN, gamM, outR_next, outR_ret, outR_exc, outI_next, outI_exc, doneI, D.isN, Mng.wf, evH, Out.mapG, bindX, noExn, endX, bMovesB, e, ll, i0, i1, i2, sx]
        | true =>
          rw [ox] at sx
          cases oy : okState y with
          | false =>
            rw [oy] at sy
            refine ⟨fun z => ?_, fun _ => ?_⟩
            · simp at z
            · simp (config := { implicitDefEqProofs := false }) [evS, evE, evL, borrow, binD, cmpD, onL, killG, ofOk, bindOk, atNext, atRet, atExc, truB, truI, intK, lenL, lenS, lenT, andK, orK, notK, addK, subK, modK, mulK, fdivK, powK, ltK, leK, eqK, run, runI, gamN, gamM, outR_next, outR_ret, outR_exc, outI_next, outI_exc, doneI, D.isN, Mng.wf, evH, Out.mapG, bindX, noExn, endX, bMovesB, e, ll, i0, i1, i2, sx, sy]
          | true =>
            rw [oy] at sy
            cases s with
            | str t =>
              have is : isiR M [.b "str"] (.str t) = .ok (.bl true) := by simp (config := { implicitDefEqProofs := false }) [evS, evE, evL, borrow, binD, cmpD, onL, killG, ofOk, bindOk, atNext, atRet, atExc, truB, truI, intK, lenL, lenS, lenT, andK, orK, notK, addK, subK, modK, mulK, fdivK, powK, ltK, leK, eqK, run, runI, gamN, gamM, outR_next, outR_ret, outR_exc, outI_next, outI_exc, doneI, isiR, D.isi, tyD, isiD, D.isN, Mng.wf, evH, Out.mapG, bindX, noExn, endX, S.sb, isB_ss]
              have inn : inD (.str t) (.lst signs) = .ok (signs.any fun z => z.eqv (.str t)) := by
                show (if (D.str t).flat 60 && D.flatL 60 signs then R.ok _ else .bad) = _
                rw [hs.2, hsg]; rfl
              have si : signIn signs (.str t) = signs.any fun z => z.eqv (.str t) := rfl
              rw [si]
              cases oin : signs.any fun z => z.eqv (.str t) with
              | false =>
                rw [oin] at inn
                refine ⟨fun z => (by simp at z), fun _ => ?_⟩
                simp (config := { implicitDefEqProofs := false }) [evS, evE, evL, borrow, binD, cmpD, onL, killG, ofOk, bindOk, atNext, atRet, atExc, truB, truI, intK, lenL, lenS, lenT, andK, orK, notK, addK, subK, modK, mulK, fdivK, powK, ltK, leK, eqK, run, runI, gamN, gamM, outR_next, outR_ret, outR_exc, outI_next, outI_exc, doneI, D.isN, Mng.wf, evH, Out.mapG, bindX, noExn, endX, bMovesB, e, ll, i0, i1, i2, sx, sy, is, inn]
              | true =>
                rw [oin] at inn
                refine ⟨fun _ => ?_, fun z => (by simp at z)⟩
                have hk : D.isKey false (.tup [x, .str t, y]) = true := by
                  obtain ⟨i, rfl, _⟩ := okState_int ox
                  obtain ⟨j, rfl, _⟩ := okState_int oy
                  rfl
                obtain ⟨vs1, e1⟩ := put_step (k := false) (ks := ks) (vs := vs) (x := .tup [x, .str t, y]) (f := fun ks' vs' => evS M .nil (([a, .val (.lst signs), .ownD false ks vs, .val d] : Gam).set 2 (.ownD false ks' vs'))) hk hl
                refine ⟨vs1, ?_⟩
                simp (config := { implicitDefEqProofs := false }) [evS, evE, evL, borrow, binD, cmpD, onL, killG, ofOk, bindOk, atNext, atRet, atExc, truB, truI, intK, lenL, lenS, lenT, andK, orK, notK, addK, subK, modK, mulK, fdivK, powK, ltK, leK, eqK, run, runI, gamN, gamM, outR_next, outR_ret, outR_exc, outI_next, outI_exc, doneI, D.isN, Mng.wf, evH, Out.mapG, bindX, noExn, endX, bMovesB, e, ll, i0, i1, i2, sx, sy, is, inn, onD]
                simp only [evS] at e1
                exact e1
            | int i =>
              have is : isiR M [.b "str"] (.int i) = .ok (.bl false) := by simp (config := { implicitDefEqProofs := false }) [evS, evE, evL, borrow, binD, cmpD, onL, killG, ofOk, bindOk, atNext, atRet, atExc, truB, truI, intK, lenL, lenS, lenT, andK, orK, notK, addK, subK, modK, mulK, fdivK, powK, ltK, leK, eqK, run, runI, gamN, gamM, outR_next, outR_ret, outR_exc, outI_next, outI_exc, doneI, isiR, D.isi, tyD, isiD, D.isN, Mng.wf, evH, Out.mapG, bindX, noExn, endX, S.sb, isB_is]
              exact ⟨fun z => (by simp [signIn] at z), fun _ => by simp (config := { implicitDefEqProofs := false }) [evS, evE, evL, borrow, binD, cmpD, onL, killG, ofOk, bindOk, atNext, atRet, atExc, truB, truI, intK, lenL, lenS, lenT, andK, orK, notK, addK, subK, modK, mulK, fdivK, powK, ltK, leK, eqK, run, runI, gamN, gamM, outR_next, outR_ret, outR_exc, outI_next, outI_exc, doneI, D.isN, Mng.wf, evH, Out.mapG, bindX, noExn, endX, bMovesB, e, ll, i0, i1, i2, sx, sy, is]⟩
            | bl i =>
              have is : isiR M [.b "str"] (.bl i) = .ok (.bl false) := by simp (config := { implicitDefEqProofs := false }) [evS, evE, evL, borrow, binD, cmpD, onL, killG, ofOk, bindOk, atNext, atRet, atExc, truB, truI, intK, lenL, lenS, lenT, andK, orK, notK, addK, subK, modK, mulK, fdivK, powK, ltK, leK, eqK, run, runI, gamN, gamM, outR_next, outR_ret, outR_exc, outI_next, outI_exc, doneI, isiR, D.isi, tyD, isiD, D.isN, Mng.wf, evH, Out.mapG, bindX, noExn, endX, S.sb, isB_bs]
              exact ⟨fun z => (by simp [signIn] at z), fun _ => by simp (config := { implicitDefEqProofs := false }) [evS, evE, evL, borrow, binD, cmpD, onL, killG, ofOk, bindOk, atNext, atRet, atExc, truB, truI, intK, lenL, lenS, lenT, andK, orK, notK, addK, subK, modK, mulK, fdivK, powK, ltK, leK, eqK, run, runI, gamN, gamM, outR_next, outR_ret, outR_exc, outI_next, outI_exc, doneI, D.isN, Mng.wf, evH, Out.mapG, bindX, noExn, endX, bMovesB, e, ll, i0, i1, i2, sx, sy, is]⟩
            | non =>
              have is : isiR M [.b "str"] (.non) = .ok (.bl false) := by simp (config := { implicitDefEqProofs := false }) [evS, evE, evL, borrow, binD, cmpD, onL, killG, ofOk, bindOk, atNext, atRet, atExc, truB, truI, intK, lenL, lenS, lenT, andK, orK, notK, addK, subK, modK, mulK, fdivK, powK, ltK, leK, eqK, run, runI, gamN, gamM, outR_next, outR_ret, outR_exc, outI_next, outI_exc, doneI, isiR, D.isi, tyD, isiD, D.isN, Mng.wf, evH, Out.mapG, bindX, noExn, endX, S.sb, isB_ns]
              exact ⟨fun z => (by simp [signIn] at z), fun _ => by simp (config := { implicitDefEqProofs := false }) [evS, evE, evL, borrow, binD, cmpD, onL, killG, ofOk, bindOk, atNext, atRet, atExc, truB, truI, intK, lenL, lenS, lenT, andK, orK, notK, addK, subK, modK, mulK, fdivK, powK, ltK, leK, eqK, run, runI, gamN, gamM, outR_next, outR_ret, outR_exc, outI_next, outI_exc, doneI, D.isN, Mng.wf, evH, Out.mapG, bindX, noExn, endX, bMovesB, e, ll, i0, i1, i2, sx, sy, is]⟩
            | tup i =>
              have is : isiR M [.b "str"] (.tup i) = .ok (.bl false) := by simp (config := { implicitDefEqProofs := false }) [evS, evE, evL, borrow, binD, cmpD, onL, killG, ofOk, bindOk, atNext, atRet, atExc, truB, truI, intK, lenL, lenS, lenT, andK, orK, notK, addK, subK, modK, mulK, fdivK, powK, ltK, leK, eqK, run, runI, gamN, gamM, outR_next, outR_ret, outR_exc, outI_next, outI_exc, doneI, isiR, D.isi, tyD, isiD, D.isN, Mng.wf, evH, Out.mapG, bindX, noExn, endX, S.sb, isB_ts]
              exact ⟨fun z => (by simp [signIn] at z), fun _ => by simp (config := { implicitDefEqProofs := false }) [evS, evE, evL, borrow, binD, cmpD, onL, killG, ofOk, bindOk, atNext, atRet, atExc, truB, truI, intK, lenL, lenS, lenT, andK, orK, notK, addK, subK, modK, mulK, fdivK, powK, ltK, leK, eqK, run, runI, gamN, gamM, outR_next, outR_ret, outR_exc, outI_next, outI_exc, doneI, D.isN, Mng.wf, evH, Out.mapG, bindX, noExn, endX, bMovesB, e, ll, i0, i1, i2, sx, sy, is]⟩
            | lst i =>
              have is : isiR M [.b "str"] (.lst i) = .ok (.bl false) := by simp (config := { implicitDefEqProofs := false }) [evS, evE, evL, borrow, binD, cmpD, onL, killG, ofOk, bindOk, atNext, atRet, atExc, truB, truI, intK, lenL, lenS, lenT, andK, orK, notK, addK, subK, modK, mulK, fdivK, powK, ltK, leK, eqK, run, runI, gamN, gamM, outR_next, outR_ret, outR_exc, outI_next, outI_exc, doneI, isiR, D.isi, tyD, isiD, D.isN, Mng.wf, evH, Out.mapG, bindX, noExn, endX, S.sb, isB_ls]
              exact ⟨fun z => (by simp [signIn] at z), fun _ => by simp (config := { implicitDefEqProofs := false }) [evS, evE, evL, borrow, binD, cmpD, onL, killG, ofOk, bindOk, atNext, atRet, atExc, truB, truI, intK, lenL, lenS, lenT, andK, orK, notK, addK, subK, modK, mulK, fdivK, powK, ltK, leK, eqK, run, runI, gamN, gamM, outR_next, outR_ret, outR_exc, outI_next, outI_exc, doneI, D.isN, Mng.wf, evH, Out.mapG, bindX, noExn, endX, bMovesB, e, ll, i0, i1, i2, sx, sy, is]⟩
            | _ => cases hs.1
    · refine ⟨fun z => ?_, fun _ => ?_⟩
      · exfalso
        unfold okMove at z
        split at z
        · rcases hv with hv | hv <;> cases hv
          exact h3l rfl
        · rcases hv with hv | hv <;> cases hv
          exact h3l rfl
        · cases z
      · have n3 : ¬ ((l.length : Int) = 3) := by omega
        simp (config := { implicitDefEqProofs := false }) [evS, evE, evL, borrow, binD, cmpD, onL, killG, ofOk, bindOk, atNext, atRet, atExc, truB, truI, intK, lenL, lenS, lenT, andK, orK, notK, addK, subK, modK, mulK, fdivK, powK, ltK, leK, eqK, run, runI, gamN, gamM, outR_next, outR_ret, outR_exc, outI_next, outI_exc, doneI, D.isN, Mng.wf, evH, Out.mapG, bindX, noExn, endX, bMovesB, e, ll, n3])
  cases d with
  | tup l => exact key l (.inr rfl) hd
  | lst l => exact key l (.inl rfl) hd
  | int i =>
    have e : isiR M [.b "list", .b "tuple"] (.int i) = .ok (.bl false) := by simp (config := { implicitDefEqProofs := false }) [evS, evE, evL, borrow, binD, cmpD, onL, killG, ofOk, bindOk, atNext, atRet, atExc, truB, truI, intK, lenL, lenS, lenT, andK, orK, notK, addK, subK, modK, mulK, fdivK, powK, ltK, leK, eqK, run, runI, gamN, gamM, outR_next, outR_ret, outR_exc, outI_next, outI_exc, doneI, isiR, D.isi, tyD, isiD, D.isN, Mng.wf, evH, Out.mapG, bindX, noExn, endX, S.sb, isB_il, isB_it]
    exact ⟨fun z => (by cases z), fun _ => by simp (config := { implicitDefEqProofs := false }) [evS, evE, evL, borrow, binD, cmpD, onL, killG, ofOk, bindOk, atNext, atRet, atExc, truB, truI, intK, lenL, lenS, lenT, andK, orK, notK, addK, subK, modK, mulK, fdivK, powK, ltK, leK, eqK, run, runI, gamN, gamM, outR_next, outR_ret, outR_exc, outI_next, outI_exc, doneI, D.isN, Mng.wf, evH, Out.mapG, bindX, noExn, endX, bMovesB, e]⟩
  | non =>
    have e : isiR M [.b "list", .b "tuple"] .non = .ok (.bl false) := by simp (config := { implicitDefEqProofs := false }) [evS, evE, evL, borrow, binD, cmpD, onL, killG, ofOk, bindOk, atNext, atRet, atExc, truB, truI, intK, lenL, lenS, lenT, andK, orK, notK, addK, subK, modK, mulK, fdivK, powK, ltK, leK, eqK, run, runI, gamN, gamM, outR_next, outR_ret, outR_exc, outI_next, outI_exc, doneI, isiR, D.isi, tyD, isiD, D.isN, Mng.wf, evH, Out.mapG, bindX, noExn, endX, S.sb, isB_nl, isB_nt]
    exact ⟨fun z => (by cases z), fun _ => by simp (config := { implicitDefEqProofs := false }) [evS, evE, evL, borrow, binD, cmpD, onL, killG, ofOk, bindOk, atNext, atRet, atExc, truB, truI, intK, lenL, lenS, lenT, andK, orK, notK, addK, subK, modK, mulK, fdivK, powK, ltK, leK, eqK, run, runI, gamN, gamM, outR_next, outR_ret, outR_exc, outI_next, outI_exc, doneI, D.isN, Mng.wf, evH, Out.mapG, bindX, noExn, endX, bMovesB, e]⟩
  | _ => cases hd
theorem okMove_mv {signs : List D} {d : D} (hd : mvShape d = true) (h : okMove signs d = true) : okMv (mvOf d) = true := by
  unfold okMove at h
  have key : ∀ x s y : D, (okState x && okState y && signIn signs s) = true → s.flat 60 = true → okMv (.tup [x, s, y]) = true := fun x s y h hs => by
    simp only [Bool.and_eq_true] at h
    obtain ⟨i, rfl, _⟩ := okState_int h.1.1
    obtain ⟨j, rfl, _⟩ := okState_int h.1.2
    cases s with
    | str t => exact hs
    | _ => cases h.2
  split at h
  · rename_i a s b
    have hd : ([a, s, b].all simp2) = true := hd
    simp only [List.all_cons, List.all_nil, Bool.and_true, Bool.and_eq_true, simp2] at hd
    exact key a s b h hd.2.1.2
  · rename_i a s b
    have hd : ([a, s, b].all simp2) = true := hd
    simp only [List.all_cons, List.all_nil, Bool.and_true, Bool.and_eq_true, simp2] at hd
    exact key a s b h hd.2.1.2
  · cases h
def movesOf (l : List D) : List D := srtD ((l.map mvOf).foldl putK [])
theorem moves_loop (S : Std M) (h3 : M.fn 3 = run M 1 bIsNum) (h26 : M.fn 26 = run M 1 bIsState) (a : Cell) {signs : List D} (hsg : D.flatL 60 signs = true) : ∀ (l ks vs : List D) (x : Cell), (∀ d ∈ l, mvShape d = true) → ks.length + l.length ≤ 16777216 →
    (l.all (okMove signs) = true → ∃ vs', forD [3] [3] (evS M bMovesB) l [a, .val (.lst signs), .ownD false ks vs, x] = .next [a, .val (.lst signs), .ownD false ((l.map mvOf).foldl putK ks) vs', .dead]) ∧
    (l.all (okMove signs) = false → ∃ Γ, forD [3] [3] (evS M bMovesB) l [a, .val (.lst signs), .ownD false ks vs, x] = .exc (4, []) Γ)
  | [], ks, vs, x, _, _ => ⟨fun _ => ⟨vs, by simp [forD, killG]⟩, fun h => (by cases h)⟩
  | d :: l, ks, vs, x, hs, hl => by
    rw [List.length_cons] at hl
    obtain ⟨b1, b2⟩ := move_body S h3 h26 a hsg (ks := ks) (vs := vs) (by omega) (hs d List.mem_cons_self)
    cases ho : okMove signs d with
    | false =>
      refine ⟨fun h => (by rw [List.all_cons, ho] at h; cases h), fun _ => ⟨[a, .val (.lst signs), .ownD false ks vs, .val d], ?_⟩⟩
      rw [forD]
      show Out.of _ (.ok [a, .val (.lst signs), .ownD false ks vs, .val d]) _ = _
      rw [ofOk, b2 ho]
    | true =>
      obtain ⟨vs1, e⟩ := b1 ho
      have hlen := putK_len ks (mvOf d)
      obtain ⟨ih1, ih2⟩ := moves_loop S h3 h26 a hsg l (putK ks (mvOf d)) vs1 (.val d) (fun d hd => hs d (List.mem_cons_of_mem _ hd)) (by omega)
      have step : forD [3] [3] (evS M bMovesB) (d :: l) [a, .val (.lst signs), .ownD false ks vs, x] = forD [3] [3] (evS M bMovesB) l [a, .val (.lst signs), .ownD false (putK ks (mvOf d)) vs1, .val d] := by
        rw [forD]
        show Out.of _ (.ok [a, .val (.lst signs), .ownD false ks vs, .val d]) _ = _
        rw [ofOk, e]
      rw [step, List.all_cons, ho]
      exact ⟨fun h => ih1 (by simpa using h), fun h => ih2 (by simpa using h)⟩
theorem mvs_ok {signs : List D} : ∀ {l : List D}, (∀ d ∈ l, mvShape d = true) → l.all (okMove signs) = true → (l.map mvOf).all okMv = true
  | [], _, _ => rfl
  | d :: l, hs, h => by
    rw [List.all_cons, Bool.and_eq_true] at h
    rw [List.map_cons, List.all_cons, okMove_mv (hs d List.mem_cons_self) h.1, mvs_ok (fun d hd => hs d (List.mem_cons_of_mem _ hd)) h.2]
    rfl
theorem r_moves (S : Std M) (h3 : M.fn 3 = run M 1 bIsNum) (h26 : M.fn 26 = run M 1 bIsState) (hf : M.fn n0 = run M 4 bMoves) {v : D} {l signs : List D} (hv : v = .lst l ∨ v = .tup l) (hsg : D.flatL 60 signs = true) (hs : ∀ d ∈ l, mvShape d = true) (hl : l.length ≤ 16777216) :
    M.fn n0 [v, .lst signs] = if l.all (okMove signs) then .ok (.tup (movesOf l)) else .exc (4, []) := by
  rw [hf]
  have e := isiLT S hv
  have wd : walkD false v = .ok l := by rcases hv with rfl | rfl <;> rfl
  obtain ⟨l1, l2⟩ := moves_loop S h3 h26 (.val v) hsg l [] [] .dead hs (by simpa using hl)
  cases ho : l.all (okMove signs) with
  | true =>
    obtain ⟨vs', q⟩ := l1 ho
    have one := one_mvs (foldK_all (p := okMv) (ks := []) (l := l.map mvOf) rfl (mvs_ok hs ho))
    have st : ∀ vs : List D, f1D .sorted (.dict false ((l.map mvOf).foldl putK []) vs) = .ok (.lst (movesOf l)) := fun vs => if_pos one
    have tp : ∀ l : List D, f1D .tuple (.lst l) = .ok (.tup l) := fun _ => rfl
    simp (config := { implicitDefEqProofs := false }) [evS, evE, evL, borrow, binD, cmpD, onL, killG, ofOk, bindOk, atNext, atRet, atExc, truB, truI, intK, lenL, lenS, lenT, andK, orK, notK, addK, subK, modK, mulK, fdivK, powK, ltK, leK, eqK, run, runI, gamN, gamM, outR_next, outR_ret, outR_exc, outI_next, outI_exc, doneI, D.isN, Mng.wf, evH, Out.mapG, bindX, noExn, endX, bMoves, e, wd, q, frzG, st, tp]
  | false =>
    obtain ⟨Γ, q⟩ := l2 ho
    simp (config := { implicitDefEqProofs := false }) [evS, evE, evL, borrow, binD, cmpD, onL, killG, ofOk, bindOk, atNext, atRet, atExc, truB, truI, intK, lenL, lenS, lenT, andK, orK, notK, addK, subK, modK, mulK, fdivK, powK, ltK, leK, eqK, run, runI, gamN, gamM, outR_next, outR_ret, outR_exc, outI_next, outI_exc, doneI, D.isN, Mng.wf, evH, Out.mapG, bindX, noExn, endX, bMoves, e, wd, q]
def bTabB : Sm :=
  (.dput 1 (.tup (.cons (.var 2) (.cons (.var 3) .nil))) (.bin .add (.dget2 (.var 1) (.tup (.cons (.var 2) (.cons (.var 3) .nil))) (.lst .nil)) (.lst (.cons (.var 4) .nil)))
  .nil)
def bTab : Sm :=
  (.newD false 1
  (.loop [2, 3, 4] [2, 3, 4] false (.var 0)
  bTabB
  (.frz 1 (.ret (.var 1)))))
def lstOf : D → List D
  | .lst l => l
  | _ => []
def tabStep (p : List D × List D) (m : D) : List D × List D := match m with
  | .tup [a, s, b] => if dHas p.1 (.tup [a, s]) then (p.1, dPut p.1 p.2 (.tup [a, s]) (.lst (lstOf ((dGet p.1 p.2 (.tup [a, s])).getD (.lst [])) ++ [b]))) else (p.1 ++ [.tup [a, s]], p.2 ++ [.lst [b]])
  | _ => p
def tabOf (l : List D) : List D × List D := l.foldl tabStep ([], [])
def rowOk (n : Nat) : D → Bool
  | .lst l => decide (l.length ≤ n)
  | _ => false
theorem dPut_len2 : ∀ (ks vs : List D) (x y : D), ks.length = vs.length → (dPut ks vs x y).length = ks.length
  | [], [], _, _, _ => rfl
  | k :: ks, v :: vs, x, y, h => by
    have ih := dPut_len2 ks vs x y (by simpa using h)
    show ((if k.nk = x.nk then y else v) :: dPut ks vs x y).length = _
    rw [List.length_cons, ih]; rfl
  | [], _ :: _, _, _, h => by simp at h
  | _ :: _, [], _, _, h => by simp at h
theorem dPut_allP {p : D → Bool} : ∀ (ks vs : List D) (x y : D), vs.all p = true → p y = true → (dPut ks vs x y).all p = true
  | [], _, _, _, _, _ => by unfold dPut; rfl
  | _ :: _, [], _, _, _, _ => rfl
  | k :: ks, v :: vs, x, y, h, hy => by
    rw [List.all_cons, Bool.and_eq_true] at h
    show ((if k.nk = x.nk then y else v) :: dPut ks vs x y).all p = true
    rw [List.all_cons, dPut_allP ks vs x y h.2 hy]
    split <;> simp [hy, h.1]
theorem dGet_all {p : D → Bool} : ∀ (ks vs : List D) (x : D) {v : D}, vs.all p = true → dGet ks vs x = some v → p v = true
  | [], vs, x, v, _, e => by cases vs <;> cases e
  | _ :: _, [], x, v, _, e => by cases e
  | k :: ks, w :: vs, x, v, h, e => by
    rw [List.all_cons, Bool.and_eq_true] at h
    have e : (if k.nk = x.nk then some w else dGet ks vs x) = some v := e
    split at e
    · cases e; exact h.1
    · exact dGet_all ks vs x h.2 e
theorem dGet_none : ∀ (ks vs : List D) (x : D), dHas ks x = false → dGet ks vs x = none
  | [], vs, x, _ => by cases vs <;> rfl
  | _ :: _, [], x, _ => rfl
  | k :: ks, w :: vs, x, h => by
    unfold dHas at h
    rw [List.any_cons, Bool.or_eq_false_iff, decide_eq_false_iff_not] at h
    show (if k.nk = x.nk then some w else dGet ks vs x) = none
    rw [if_neg h.1]
    exact dGet_none ks vs x h.2
theorem row_mono {n m : Nat} (h : n ≤ m) {l : List D} (hl : l.all (rowOk n) = true) : l.all (rowOk m) = true := List.all_eq_true.mpr fun d hd => by
  have := List.all_eq_true.mp hl d hd
  unfold rowOk at this ⊢
  split at this
  · rw [decide_eq_true_eq] at this ⊢; omega
  · cases this
theorem tab_body (a : Cell) {ks vs : List D} {n : Nat} (hl : ks.length = vs.length) (hk : ks.length < 16777216) (hn : n < 16777000) (hr : vs.all (rowOk n) = true) {x s y : D} (hm : okMv (.tup [x, s, y]) = true) :
    evS M bTabB [a, .ownD false ks vs, .val x, .val s, .val y] = .next [a, .ownD false (tabStep (ks, vs) (.tup [x, s, y])).1 (tabStep (ks, vs) (.tup [x, s, y])).2, .val x, .val s, .val y] ∧
    (tabStep (ks, vs) (.tup [x, s, y])).1.length = (tabStep (ks, vs) (.tup [x, s, y])).2.length ∧ (tabStep (ks, vs) (.tup [x, s, y])).1.length ≤ ks.length + 1 ∧ (tabStep (ks, vs) (.tup [x, s, y])).2.all (rowOk (n + 1)) = true := by
  obtain ⟨i, t, j, e, _⟩ := okMv_ex hm
  cases e
  have kk : D.isKey false (.tup [.int i, .str t]) = true := rfl
  have g : dgetD (.dict false ks vs) (.tup [.int i, .str t]) (.lst []) = .ok ((dGet ks vs (.tup [.int i, .str t])).getD (.lst [])) := rfl
  cases hh : dHas ks (.tup [.int i, .str t]) with
  | true =>
    have hsome : ∃ v, dGet ks vs (.tup [.int i, .str t]) = some v := by
      have := dHas_get (ks := ks) (xs := vs) (.tup [.int i, .str t]) hl
      rw [hh] at this
      exact Option.isSome_iff_exists.mp this
    obtain ⟨v, hv⟩ := hsome
    have rv := dGet_all ks vs _ hr hv
    cases v with
    | lst l =>
      have hln : l.length ≤ n := by simpa [rowOk] using rv
      have ts : tabStep (ks, vs) (.tup [.int i, .str t, .int j]) = (ks, dPut ks vs (.tup [.int i, .str t]) (.lst (l ++ [.int j]))) := by
        show (if dHas ks (.tup [.int i, .str t]) then _ else _) = _
        rw [hh, if_pos rfl, hv]
        rfl
      rw [ts]
      have g' : dgetD (.dict false ks vs) (.tup [.int i, .str t]) (.lst []) = .ok (.lst l) := by rw [g, hv]; rfl
      have ad : addD (.lst l) (.lst [.int j]) = .ok (.lst (l ++ [.int j])) := addLK _ _ (by simp; omega)
      have po : ∀ f : List D → List D → Out, putOut false ks vs (.tup [.int i, .str t]) (.lst (l ++ [.int j])) f = f ks (dPut ks vs (.tup [.int i, .str t]) (.lst (l ++ [.int j]))) := fun f => by unfold putOut; rw [if_pos kk, hh, if_pos rfl]
      refine ⟨?_, ?_, ?_, ?_⟩
      · simp (config := { implicitDefEqProofs := false }) [evS, evE, evL, borrow, binD, cmpD, onL, killG, ofOk, bindOk, atNext, atRet, atExc, truB, truI, intK, lenL, lenS, lenT, andK, orK, notK, addK, subK, modK, mulK, fdivK, powK, ltK, leK, eqK, run, runI, gamN, gamM, outR_next, outR_ret, outR_exc, outI_next, outI_exc, doneI, isiR, D.isi, tyD, isiD, D.isN, Mng.wf, evH, Out.mapG, bindX, noExn, endX, bTabB, g', ad, onD, po, LINE, D.isDct]
      · exact (dPut_len2 ks vs _ _ hl).symm
      · exact Nat.le_succ _
      · exact dPut_allP ks vs _ _ (row_mono (Nat.le_succ n) hr) (by simp [rowOk]; omega)
    | _ => cases rv
  | false =>
    have hv := dGet_none ks vs _ hh
    have ts : tabStep (ks, vs) (.tup [.int i, .str t, .int j]) = (ks ++ [.tup [.int i, .str t]], vs ++ [.lst [.int j]]) := by
      show (if dHas ks (.tup [.int i, .str t]) then _ else _) = _
      rw [hh]; rfl
    rw [ts]
    have g' : dgetD (.dict false ks vs) (.tup [.int i, .str t]) (.lst []) = .ok (.lst []) := by rw [g, hv]; rfl
    have ad : addD (.lst []) (.lst [.int j]) = .ok (.lst [.int j]) := addLK _ _ (by simp)
    have po : ∀ f : List D → List D → Out, putOut false ks vs (.tup [.int i, .str t]) (.lst [.int j]) f = f (ks ++ [.tup [.int i, .str t]]) (vs ++ [.lst [.int j]]) := fun f => by unfold putOut; rw [if_pos kk, hh, if_neg Bool.false_ne_true, if_pos (show ks.length < LINE from hk)]
    refine ⟨?_, ?_, ?_, ?_⟩
    · simp (config := { implicitDefEqProofs := false }) [evS, evE, evL, borrow, binD, cmpD, onL, killG, ofOk, bindOk, atNext, atRet, atExc, truB, truI, intK, lenL, lenS, lenT, andK, orK, notK, addK, subK, modK, mulK, fdivK, powK, ltK, leK, eqK, run, runI, gamN, gamM, outR_next, outR_ret, outR_exc, outI_next, outI_exc, doneI, isiR, D.isi, tyD, isiD, D.isN, Mng.wf, evH, Out.mapG, bindX, noExn, endX, bTabB, g', ad, onD, po, LINE, D.isDct]
    · simp [hl]
    · simp
    · rw [List.all_append, row_mono (Nat.le_succ n) hr]; simp [rowOk]
theorem tab_loop (a : Cell) : ∀ (l : List D) (p : List D × List D) (n : Nat) (x y z : Cell), l.all okMv = true → p.1.length = p.2.length → p.1.length + l.length ≤ 10000000 → n + l.length ≤ 10000000 → p.2.all (rowOk n) = true →
    forD [2, 3, 4] [2, 3, 4] (evS M bTabB) l [a, .ownD false p.1 p.2, x, y, z] = .next [a, .ownD false (l.foldl tabStep p).1 (l.foldl tabStep p).2, .dead, .dead, .dead]
  | [], p, n, x, y, z, _, _, _, _, _ => by simp [forD, killG]
  | d :: l, p, n, x, y, z, h, h1, h2, h3, h4 => by
    rw [List.all_cons, Bool.and_eq_true] at h
    rw [List.length_cons] at h2 h3
    obtain ⟨i, t, j, e, _⟩ := okMv_ex h.1
    subst e
    obtain ⟨b1, b2, b3, b4⟩ := tab_body (M := M) a (n := n) h1 (by omega) (by omega) h4 h.1
    have b3 : (tabStep p (.tup [.int i, .str t, .int j])).1.length ≤ p.1.length + 1 := b3
    have ih := tab_loop a l (tabStep p (.tup [.int i, .str t, .int j])) (n + 1) (.val (.int i)) (.val (.str t)) (.val (.int j)) h.2 b2 (by omega) (by omega) b4
    rw [forD]
    show Out.of _ (.ok [a, .ownD false p.1 p.2, .val (.int i), .val (.str t), .val (.int j)]) _ = _
    rw [ofOk, b1]
    exact ih
theorem r_tab (hf : M.fn n0 = run M 5 bTab) {l : List D} (h : l.all okMv = true) (hl : l.length ≤ 1000000) : M.fn n0 [.tup l] = .ok (.dict false (tabOf l).1 (tabOf l).2) := by
  rw [hf]
  have q := tab_loop (M := M) (.val (.tup l)) l ([], []) 0 .dead .dead .dead h rfl (by simpa using (by omega : l.length ≤ 10000000)) (by omega) rfl
  have wd : walkD false (.tup l) = .ok l := rfl
  simp only at q
  simp (config := { implicitDefEqProofs := false }) [evS, evE, evL, borrow, binD, cmpD, onL, killG, ofOk, bindOk, atNext, atRet, atExc, truB, truI, intK, lenL, lenS, lenT, andK, orK, notK, addK, subK, modK, mulK, fdivK, powK, ltK, leK, eqK, run, runI, gamN, gamM, outR_next, outR_ret, outR_exc, outI_next, outI_exc, doneI, isiR, D.isi, tyD, isiD, D.isN, Mng.wf, evH, Out.mapG, bindX, noExn, endX, bTab, wd, q, frzG, tabOf]
end
end G
namespace G
open PySem L2
def bMarksB : Sm :=
  (.app 1 (.bin .add (.str [43]) (.var 2))
  (.app 1 (.bin .add (.str [45]) (.var 2))
  .nil))
def bMarks : Sm :=
  (.asgO 1 (.lst .nil)
  (.loop [2] [2] false (.fld 4 (.var 0))
  bMarksB
  (.ret (.f1 .tuple (.var 1)))))
def bRule : Sm :=
  (.ifs (.not (.call 24 (.cons (.var 1) .nil)))
  (.raise 4)
  .nil
  (.ifs (.not (.call 25 (.cons (.var 2) .nil)))
  (.raise 4)
  .nil
  (.setf 0 3 (.var 1)
  (.setf 0 4 (.f1 .tuple (.var 2))
  (.setf 0 5 (.call 27 (.cons (.var 3) (.cons (.bin .add (.bin .add (.lst (.cons (.glob 0) .nil)) (.f1 .list (.var 1))) (.f1 .list (.own 29 0 .nil))) .nil)))
  (.setf 0 6 (.call 30 (.cons (.var 4) .nil))
  (.setf 0 7 (.call 31 (.cons (.fld 5 (.var 0)) .nil))
  (.setc 0 8 4
  .nil))))))))
def markS (ns : List (List Nat)) : List D := ns.flatMap fun n => [.str (43 :: n), .str (45 :: n)]
section
variable {M : Mng} {n0 : Nat}
theorem noexcOk {α : Type} (a : α) : (R.ok a).noexc = .ok a := rfl
theorem fldO (M : Mng) (c nm : Nat) (l : List D) : fldD M nm (.obj c l) = (match findIx nm (M.flds c) 0 with | some i => (match l[i]? with | some d => R.ok d | none => .bad) | none => .bad) := rfl
theorem marks_loop (a : Cell) : ∀ (ns : List (List Nat)) (acc : List D) (x : Cell), (∀ n ∈ ns, n.length ≤ 1000) → acc.length + 2 * ns.length ≤ 10000000 →
    forD [2] [2] (evS M bMarksB) (ns.map D.str) [a, .ownL acc, x] = .next [a, .ownL (acc ++ markS ns), .dead]
  | [], acc, x, _, _ => by simp [forD, killG, markS]
  | n :: ns, acc, x, hn, hl => by
    rw [List.length_cons] at hl
    have h1 := hn n List.mem_cons_self
    have ad : ∀ c, addD (.str [c]) (.str n) = .ok (.str (c :: n)) := fun c => addSK _ _ (by simp; omega)
    have l1 : acc.length < 16777216 := by omega
    have l2 : acc.length + 1 < 16777216 := by omega
    have e : evS M bMarksB [a, .ownL acc, .val (.str n)] = .next [a, .ownL (acc ++ [.str (43 :: n), .str (45 :: n)]), .val (.str n)] := by
      simp (config := { implicitDefEqProofs := false }) [evS, evE, evL, borrow, binD, cmpD, onL, killG, ofOk, bindOk, atNext, atRet, atExc, truB, truI, intK, lenL, lenS, lenT, andK, orK, notK, addK, subK, modK, mulK, fdivK, powK, ltK, leK, eqK, run, runI, gamN, gamM, outR_next, outR_ret, outR_exc, outI_next, outI_exc, doneI, isiR, D.isi, tyD, isiD, D.isN, Mng.wf, evH, Out.mapG, bindX, noExn, endX, bMarksB, ad, LINE, l1, l2]
    have ih := marks_loop a ns (acc ++ [.str (43 :: n), .str (45 :: n)]) (.val (.str n)) (fun m hm => hn m (List.mem_cons_of_mem _ hm)) (by simp; omega)
    rw [List.map_cons, forD]
    show Out.of _ (.ok [a, .ownL acc, .val (.str n)]) _ = _
    rw [ofOk, e]
    show forD _ _ _ _ _ = _
    rw [ih]
    simp [markS]
theorem r_marks (hf : M.fn n0 = run M 3 bMarks) {o : D} {ns : List (List Nat)} (ho : fldD M 4 o = .ok (.tup (ns.map D.str))) (hn : ∀ n ∈ ns, n.length ≤ 1000) (hl : ns.length ≤ 1000) : M.fn n0 [o] = .ok (.tup (markS ns)) := by
  rw [hf]
  have q := marks_loop (M := M) (.val o) ns [] .dead hn (by simp; omega)
  have wd : walkD false (.tup (ns.map D.str)) = .ok (ns.map D.str) := rfl
  have tp : ∀ l : List D, f1D .tuple (.lst l) = .ok (.tup l) := fun _ => rfl
  simp (config := { implicitDefEqProofs := false }) [evS, evE, evL, borrow, binD, cmpD, onL, killG, ofOk, bindOk, atNext, atRet, atExc, truB, truI, intK, lenL, lenS, lenT, andK, orK, notK, addK, subK, modK, mulK, fdivK, powK, ltK, leK, eqK, run, runI, gamN, gamM, outR_next, outR_ret, outR_exc, outI_next, outI_exc, doneI, isiR, D.isi, tyD, isiD, D.isN, Mng.wf, evH, Out.mapG, bindX, noExn, endX, bMarks, ho, wd, q, tp, LINE]
structure PRule (M : Mng) : Prop where
  std : Std M
  isn : M.fn 3 = run M 1 bIsNum
  wrd : M.fn 23 = run M 4 bIsWord
  alp : M.fn 24 = run M 2 bIsAlph
  nms : M.fn 25 = run M 2 bAreNames
  stt : M.fn 26 = run M 1 bIsState
  mvs : M.fn 27 = run M 4 bMoves
  mrk : M.fn 28 = run M 3 bMarks
  own : ∀ fs, M.fn 29 [.obj 2 fs] = M.fn 28 [.obj 2 fs]
  eds : M.fn 30 = run M 3 bEnds
  tab : M.fn 31 = run M 5 bTab
  new : M.fn 32 = runI M 5 2 bRule
def signsOf (s : List Nat) (ns : List (List Nat)) : List D := .str [] :: (s.map fun c => D.str [c]) ++ markS ns
def ruleK (s : List Nat) (ns : List (List Nat)) (mv en : List D) : D := .tup [.str s, .tup (ns.map D.str), .tup mv, .tup en, .dict false (tabOf mv).1 (tabOf mv).2]
def ruleC (c : Nat) (s : List Nat) (ns : List (List Nat)) (mv en : List D) : D := .obj c [.str s, .tup (ns.map D.str), .tup mv, .tup en, .dict false (tabOf mv).1 (tabOf mv).2, .cache (ruleK s ns mv en)]
theorem isWord_le {s : List Nat} {a b : Nat} (h : isWord s a b = true) : s.length ≤ b ∧ s.all lowc = true := by
  unfold isWord at h
  simp only [Bool.and_eq_true, decide_eq_true_eq] at h
  exact ⟨h.1.2, h.2⟩
theorem names_str {l : List D} (h : areNames2 l = true) : ∃ ns : List (List Nat), l = ns.map D.str ∧ ns.length ≤ 2 ∧ ∀ n ∈ ns, n.length ≤ 8 ∧ n.all lowc = true := by
  unfold areNames2 at h
  simp only [Bool.and_eq_true, decide_eq_true_eq] at h
  obtain ⟨⟨⟨_, h2⟩, h3⟩, _⟩ := h
  have key : ∀ l : List D, l.all okName = true → ∃ ns : List (List Nat), l = ns.map D.str ∧ ∀ n ∈ ns, n.length ≤ 8 ∧ n.all lowc = true := by
    intro l
    induction l with
    | nil => intro _; exact ⟨[], rfl, fun _ h => by cases h⟩
    | cons d l ih =>
      intro h
      rw [List.all_cons, Bool.and_eq_true] at h
      obtain ⟨ns, e, hn⟩ := ih h.2
      cases d with
      | str s =>
        refine ⟨s :: ns, by rw [e]; rfl, fun n hm => ?_⟩
        rcases List.mem_cons.mp hm with rfl | hm
        · exact isWord_le h.1
        · exact hn n hm
      | _ => cases h.1
  obtain ⟨ns, e, hn⟩ := key l h3
  exact ⟨ns, e, by rw [e, List.length_map] at h2; exact h2, hn⟩
theorem rule_stepsC (P : PRule M) {c n1 : Nat} (hnew : M.fn n1 = runI M 5 c bRule) (hown : ∀ fs, M.fn 29 [.obj c fs] = M.fn 28 [.obj c fs]) (hfl : fldsG c = [3, 4, 5, 6, 7, 8]) {s : List Nat} {vn vm ve : D} {ns : List (List Nat)} (hs : isAlph s = true) (hv : vn = .lst (ns.map D.str) ∨ vn = .tup (ns.map D.str)) (hn : areNames2 (ns.map D.str) = true) :
    (∀ e, M.fn 27 [vm, .lst (signsOf s ns)] = .exc e → M.fn n1 [.str s, vn, vm, ve] = .exc e) ∧
    (∀ mv e, M.fn 27 [vm, .lst (signsOf s ns)] = .ok (.tup mv) → M.fn 30 [ve] = .exc e → M.fn n1 [.str s, vn, vm, ve] = .exc e) ∧
    (∀ mv en, M.fn 27 [vm, .lst (signsOf s ns)] = .ok (.tup mv) → M.fn 30 [ve] = .ok (.tup en) → mv.all okMv = true → mv.length ≤ 1000000 → M.fn n1 [.str s, vn, vm, ve] = .ok (ruleC c s ns mv en)) := by
  obtain ⟨ns', e', hl2, hb⟩ := names_str hn
  have ens : ns' = ns := by
    have inj : ∀ a b : List (List Nat), a.map D.str = b.map D.str → a = b := by
      intro a
      induction a with
      | nil => intro b h; cases b with
        | nil => rfl
        | cons _ _ => cases h
      | cons x a ih => intro b h; cases b with
        | nil => cases h
        | cons y b => rw [List.map_cons, List.map_cons] at h; injection h with h1 h2; injection h1 with h1; rw [h1, ih b h2]
    exact (inj _ _ e').symm
  subst ens
  have hsl : s.length ≤ 3 := by
    unfold isAlph at hs
    rw [Bool.and_eq_true] at hs
    exact (isWord_le hs.1).1
  have a1 : M.fn 24 [.str s] = .ok (.bl true) := by rw [r_is_alph P.std P.wrd P.alp s (by omega), hs]
  have a2 : M.fn 25 [vn] = .ok (.bl true) := by
    rw [r_are_names P.std P.nms hv (fun d hd => ?_), hn]
    obtain ⟨n, hn1, rfl⟩ := List.mem_map.mp hd
    exact r_is_word P.std P.wrd n (by have := (hb n hn1).1; omega) 1 8
  have tp : f1D .tuple vn = .ok (.tup (ns'.map D.str)) := by rcases hv with rfl | rfl <;> rfl
  have ls : f1D .list (.str s) = .ok (.lst (s.map fun c => D.str [c])) := if_pos (show s.length ≤ 16777216 by omega)
  have lt : ∀ l : List D, f1D .list (.tup l) = .ok (.lst l) := fun _ => rfl
  have f2 : M.flds c = [3, 4, 5, 6, 7, 8] := by rw [P.std.flds]; exact hfl
  have g0 : M.gl 0 = .str [] := by rw [P.std.gl]; rfl
  have fl4 : fldD M 4 (.obj c [.str s, .tup (ns'.map D.str)]) = .ok (.tup (ns'.map D.str)) := by rw [fldO, f2]; rfl
  have mk : M.fn 29 [.obj c [.str s, .tup (ns'.map D.str)]] = .ok (.tup (markS ns')) := by
    rw [hown]
    exact r_marks P.mrk fl4 (fun n hn => by have := (hb n hn).1; omega) (by omega)
  have plain : (D.tup (markS ns')).plain = true := by
    show D.plainL (markS ns') = true
    have : ∀ ns : List (List Nat), D.plainL (markS ns) = true := by
      intro ns
      induction ns with
      | nil => rfl
      | cons n ns ih => show (true && (true && D.plainL (markS ns))) = true; rw [ih]; rfl
    exact this ns'
  have ow : ownR (R.ok (D.tup (markS ns'))) = .ok (.tup (markS ns')) := if_pos plain
  have ml : (markS ns').length ≤ 4 := by
    have : ∀ ns : List (List Nat), (markS ns).length = 2 * ns.length := by
      intro ns
      induction ns with
      | nil => rfl
      | cons n ns ih => show (markS ns).length + 1 + 1 = _; rw [ih, List.length_cons]; omega
    rw [this]; omega
  have ad1 : addD (.lst [.str []]) (.lst (s.map fun c => D.str [c])) = .ok (.lst (.str [] :: s.map fun c => D.str [c])) := addLK _ _ (by simp; omega)
  have ad2 : addD (.lst (.str [] :: s.map fun c => D.str [c])) (.lst (markS ns')) = .ok (.lst (signsOf s ns')) := addLK _ _ (by simp; omega)
  refine ⟨fun e h => ?_, fun mv e h h2 => ?_, fun mv en h h2 hmv hml => ?_⟩
  · rw [hnew]
    simp (config := { implicitDefEqProofs := false }) [evS, evE, evL, borrow, binD, cmpD, onL, killG, ofOk, bindOk, atNext, atRet, atExc, truB, truI, intK, lenL, lenS, lenT, andK, orK, notK, addK, subK, modK, mulK, fdivK, powK, ltK, leK, eqK, run, runI, gamN, gamM, outR_next, outR_ret, outR_exc, outI_next, outI_exc, doneI, D.isN, Mng.wf, evH, Out.mapG, bindX, noExn, endX, bRule, a1, a2, tp, ls, lt, f2, g0, mk, ow, noexcOk, ad1, ad2, h, LINE]
  · rw [hnew]
    simp (config := { implicitDefEqProofs := false }) [evS, evE, evL, borrow, binD, cmpD, onL, killG, ofOk, bindOk, atNext, atRet, atExc, truB, truI, intK, lenL, lenS, lenT, andK, orK, notK, addK, subK, modK, mulK, fdivK, powK, ltK, leK, eqK, run, runI, gamN, gamM, outR_next, outR_ret, outR_exc, outI_next, outI_exc, doneI, D.isN, Mng.wf, evH, Out.mapG, bindX, noExn, endX, bRule, a1, a2, tp, ls, lt, f2, g0, mk, ow, noexcOk, ad1, ad2, h, h2, LINE]
  · have tb := r_tab P.tab hmv hml
    have fl5 : fldD M 5 (.obj c [.str s, .tup (ns'.map D.str), .tup mv, .tup en]) = .ok (.tup mv) := by rw [fldO, f2]; rfl
    rw [hnew]
    simp (config := { implicitDefEqProofs := false }) [evS, evE, evL, borrow, binD, cmpD, onL, killG, ofOk, bindOk, atNext, atRet, atExc, truB, truI, intK, lenL, lenS, lenT, andK, orK, notK, addK, subK, modK, mulK, fdivK, powK, ltK, leK, eqK, run, runI, gamN, gamM, outR_next, outR_ret, outR_exc, outI_next, outI_exc, doneI, D.isN, Mng.wf, evH, Out.mapG, bindX, noExn, endX, bRule, a1, a2, tp, ls, lt, f2, g0, mk, ow, noexcOk, ad1, ad2, h, h2, LINE, fl5, tb, ruleC, ruleK]
end
end G
namespace G
abbrev Sg := List Nat
structure Mv where
  s : Int
  a : Sg
  t : Int
deriving DecidableEq
def Asc (l : List Int) : Prop := l.Pairwise (· < ·)
theorem asc_uniq : ∀ {l m : List Int}, Asc l → Asc m → (∀ x, x ∈ l ↔ x ∈ m) → l = m
  | [], [], _, _, _ => rfl
  | [], y :: m, _, _, h => by have := (h y).mpr List.mem_cons_self; cases this
  | x :: l, [], _, _, h => by have := (h x).mp List.mem_cons_self; cases this
  | x :: l, y :: m, hl, hm, h => by
    have hl' := List.pairwise_cons.mp hl
    have hm' := List.pairwise_cons.mp hm
    have exy : x = y := by
      rcases List.mem_cons.mp ((h x).mp List.mem_cons_self) with e | e
      · exact e
      · rcases List.mem_cons.mp ((h y).mpr List.mem_cons_self) with e2 | e2
        · exact e2.symm
        · have := hm'.1 x e; have := hl'.1 y e2; omega
    subst exy
    rw [asc_uniq hl'.2 hm'.2 fun z => ?_]
    constructor
    · intro hz
      rcases List.mem_cons.mp ((h z).mp (List.mem_cons_of_mem _ hz)) with e | e
      · have := hl'.1 z hz; omega
      · exact e
    · intro hz
      rcases List.mem_cons.mp ((h z).mpr (List.mem_cons_of_mem _ hz)) with e | e
      · have := hm'.1 z hz; omega
      · exact e
def insA (x : Int) : List Int → List Int
  | [] => [x]
  | y :: l => if x < y then x :: y :: l else if x = y then y :: l else y :: insA x l
theorem mem_insA {x z : Int} : ∀ {l : List Int}, z ∈ insA x l ↔ z = x ∨ z ∈ l
  | [] => by simp [insA]
  | y :: l => by
    unfold insA
    split
    · simp
    · split
      · rename_i h; subst h; simp
      · rw [List.mem_cons, mem_insA (l := l), List.mem_cons]
        constructor
        · rintro (h | h | h)
          · exact .inr (.inl h)
          · exact .inl h
          · exact .inr (.inr h)
        · rintro (h | h | h)
          · exact .inr (.inl h)
          · exact .inl h
          · exact .inr (.inr h)
theorem asc_insA {x : Int} : ∀ {l : List Int}, Asc l → Asc (insA x l)
  | [], _ => List.pairwise_singleton _ _
  | y :: l, h => by
    have h' := List.pairwise_cons.mp h
    unfold insA
    split
    · rename_i hxy
      refine List.pairwise_cons.mpr ⟨fun z hz => ?_, h⟩
      rcases List.mem_cons.mp hz with rfl | hz
      · exact hxy
      · have := h'.1 z hz; omega
    · split
      · exact h
      · rename_i h1 h2
        refine List.pairwise_cons.mpr ⟨fun z hz => ?_, asc_insA h'.2⟩
        rcases mem_insA.mp hz with rfl | hz
        · omega
        · exact h'.1 z hz
def norm (l : List Int) : List Int := l.foldr insA []
theorem mem_norm {x : Int} : ∀ {l : List Int}, x ∈ norm l ↔ x ∈ l
  | [] => Iff.rfl
  | y :: l => by
    show x ∈ insA y (norm l) ↔ _
    rw [mem_insA, mem_norm (l := l), List.mem_cons]
theorem asc_norm : ∀ (l : List Int), Asc (norm l)
  | [] => List.Pairwise.nil
  | y :: l => asc_insA (asc_norm l)
theorem norm_eq {l m : List Int} (h : Asc m) (e : ∀ x, x ∈ l ↔ x ∈ m) : norm l = m := asc_uniq (asc_norm l) h fun x => mem_norm.trans (e x)
theorem asc_nodup {l : List Int} (h : Asc l) : l.Nodup := h.imp fun {a b} hab => by omega
theorem nodup_len {α : Type} [DecidableEq α] : ∀ {l L : List α}, l.Nodup → (∀ x ∈ l, x ∈ L) → l.length ≤ L.length
  | [], _, _, _ => Nat.zero_le _
  | x :: l, L, n, h => by
    rw [List.nodup_cons] at n
    have hx := h x List.mem_cons_self
    have := nodup_len (l := l) (L := L.erase x) n.2 fun y hy => (List.mem_erase_of_ne (fun e => n.1 (by rw [← e]; exact hy))).mpr (h y (List.mem_cons_of_mem _ hy))
    have hl := List.length_erase_of_mem hx
    have := List.length_pos_of_mem hx
    rw [List.length_cons]
    omega
theorem asc_len {l L : List Int} (h : Asc l) (s : ∀ x ∈ l, x ∈ L) : l.length ≤ L.length := nodup_len (asc_nodup h) s
def subsA : List Int → List (List Int)
  | [] => [[]]
  | x :: l => (subsA l).map (x :: ·) ++ subsA l
theorem subsA_len : ∀ (l : List Int), (subsA l).length = 2 ^ l.length
  | [] => rfl
  | x :: l => by
    rw [subsA, List.length_append, List.length_map, subsA_len l, List.length_cons, Nat.pow_succ]; omega
theorem mem_subsA : ∀ {L l : List Int}, Asc L → Asc l → (∀ x ∈ l, x ∈ L) → l ∈ subsA L
  | [], [], _, _, _ => List.mem_cons_self
  | [], x :: l, _, _, h => by cases h x List.mem_cons_self
  | y :: L, l, hL, hl, h => by
    have hL' := List.pairwise_cons.mp hL
    unfold subsA
    rw [List.mem_append]
    by_cases hy : y ∈ l
    · cases l with
      | nil => cases hy
      | cons x l =>
        have hl' := List.pairwise_cons.mp hl
        have exy : x = y := by
          rcases List.mem_cons.mp hy with e | e
          · exact e.symm
          · have h1 := hl'.1 y e
            rcases List.mem_cons.mp (h x List.mem_cons_self) with e2 | e2
            · exact e2
            · have := hL'.1 x e2; omega
        subst exy
        refine .inl (List.mem_map_of_mem (mem_subsA hL'.2 hl'.2 fun z hz => ?_))
        rcases List.mem_cons.mp (h z (List.mem_cons_of_mem _ hz)) with e | e
        · have := hl'.1 z hz; omega
        · exact e
    · refine .inr (mem_subsA hL'.2 hl fun z hz => ?_)
      rcases List.mem_cons.mp (h z hz) with e | e
      · subst e; exact absurd hz hy
      · exact e
inductive FR (mv : List Mv) : Int → Int → Prop
  | refl (s : Int) : FR mv s s
  | step {s u t : Int} : ⟨s, [], u⟩ ∈ mv → FR mv u t → FR mv s t
section
variable {mv : List Mv}
theorem FR.trans {a b c : Int} (h : FR mv a b) : FR mv b c → FR mv a c := by
  induction h with
  | refl => exact id
  | step h1 _ ih => exact fun h => .step h1 (ih h)
theorem FR.tail {a b c : Int} (h : FR mv a b) (e : ⟨b, [], c⟩ ∈ mv) : FR mv a c := h.trans (.step e (.refl c))
theorem FR.tgt {a b : Int} (h : FR mv a b) : b = a ∨ b ∈ mv.map Mv.t := by
  induction h with
  | refl => exact .inl rfl
  | @step s u t h1 _ ih =>
    rcases ih with e | e
    · subst e; exact .inr (List.mem_map_of_mem (f := Mv.t) h1)
    · exact .inr e
open Classical in
noncomputable def clo (mv : List Mv) (S : List Int) : List Int := norm ((S ++ mv.map Mv.t).filter fun t => decide (∃ s ∈ S, FR mv s t))
open Classical in
noncomputable def stp (mv : List Mv) (S : List Int) (a : Sg) : List Int := norm ((mv.map Mv.t).filter fun t => decide (∃ s ∈ S, ∃ u, ⟨s, a, u⟩ ∈ mv ∧ FR mv u t))
open Classical in
theorem mem_clo {S : List Int} {t : Int} : t ∈ clo mv S ↔ ∃ s ∈ S, FR mv s t := by
  unfold clo
  rw [mem_norm, List.mem_filter, decide_eq_true_iff]
  refine ⟨fun h => h.2, fun h => ⟨?_, h⟩⟩
  obtain ⟨s, hs, hr⟩ := h
  rcases hr.tgt with e | e
  · subst e; exact List.mem_append_left _ hs
  · exact List.mem_append_right _ e
open Classical in
theorem mem_stp {S : List Int} {a : Sg} {t : Int} : t ∈ stp mv S a ↔ ∃ s ∈ S, ∃ u, ⟨s, a, u⟩ ∈ mv ∧ FR mv u t := by
  unfold stp
  rw [mem_norm, List.mem_filter, decide_eq_true_iff]
  refine ⟨fun h => h.2, fun h => ⟨?_, h⟩⟩
  obtain ⟨s, hs, u, hu, hr⟩ := h
  rcases hr.tgt with e | e
  · subst e; exact List.mem_map_of_mem (f := Mv.t) hu
  · exact e
theorem asc_clo (S : List Int) : Asc (clo mv S) := asc_norm _
theorem asc_stp (S : List Int) (a : Sg) : Asc (stp mv S a) := asc_norm _
noncomputable def aft (mv : List Mv) (w : List Sg) : List Int := w.foldl (stp mv) (clo mv [0])
theorem aft_snoc (w : List Sg) (a : Sg) : aft mv (w ++ [a]) = stp mv (aft mv w) a := by unfold aft; rw [List.foldl_append]; rfl
inductive Run (mv : List Mv) : Int → List Sg → Int → Prop
  | nil {s t : Int} : FR mv s t → Run mv s [] t
  | read {s u v t : Int} {a : Sg} {w : List Sg} : FR mv s u → ⟨u, a, v⟩ ∈ mv → Run mv v w t → Run mv s (a :: w) t
theorem Run.free {s u t : Int} {w : List Sg} (h : FR mv s u) : Run mv u w t → Run mv s w t
  | .nil h2 => .nil (h.trans h2)
  | .read h2 e r => .read (h.trans h2) e r
theorem run_nil {s t : Int} : Run mv s [] t ↔ FR mv s t := ⟨fun h => by cases h; assumption, .nil⟩
theorem run_cons {s t : Int} {a : Sg} {w : List Sg} : Run mv s (a :: w) t ↔ ∃ u v, FR mv s u ∧ ⟨u, a, v⟩ ∈ mv ∧ Run mv v w t := by
  constructor
  · intro h; cases h with | read h1 h2 h3 => exact ⟨_, _, h1, h2, h3⟩
  · rintro ⟨u, v, h1, h2, h3⟩; exact .read h1 h2 h3
theorem run_app {w x : List Sg} : ∀ {s t : Int}, Run mv s (w ++ x) t ↔ ∃ u, Run mv s w u ∧ Run mv u x t := by
  induction w with
  | nil =>
    intro s t
    constructor
    · intro h; exact ⟨s, .nil (.refl s), h⟩
    · rintro ⟨u, h1, h2⟩; exact h2.free (run_nil.mp h1)
  | cons a w ih =>
    intro s t
    rw [List.cons_append, run_cons]
    constructor
    · rintro ⟨u, v, h1, h2, h3⟩
      obtain ⟨y, h4, h5⟩ := ih.mp h3
      exact ⟨y, .read h1 h2 h4, h5⟩
    · rintro ⟨y, h1, h2⟩
      obtain ⟨u, v, h3, h4, h5⟩ := run_cons.mp h1
      exact ⟨u, v, h3, h4, ih.mpr ⟨y, h5, h2⟩⟩
theorem run_snoc {w : List Sg} {a : Sg} {s t : Int} : Run mv s (w ++ [a]) t ↔ ∃ x u, Run mv s w x ∧ ⟨x, a, u⟩ ∈ mv ∧ FR mv u t := by
  rw [run_app]
  constructor
  · rintro ⟨x, h1, h2⟩
    obtain ⟨u, v, h3, h4, h5⟩ := run_cons.mp h2
    exact ⟨u, v, run_app.mpr ⟨x, h1, .nil h3⟩ |> (fun h => by simpa using h), h4, run_nil.mp h5⟩
  · rintro ⟨x, u, h1, h2, h3⟩
    exact ⟨x, h1, .read (.refl x) h2 (.nil h3)⟩
theorem mem_aft {w : List Sg} {t : Int} : t ∈ aft mv w ↔ Run mv 0 w t := by
  have key : ∀ (n : Nat) (w : List Sg), w.length = n → ∀ t, t ∈ aft mv w ↔ Run mv 0 w t := by
    intro n
    induction n with
    | zero =>
      intro w hw t
      have : w = [] := List.length_eq_zero_iff.mp hw
      subst this
      show t ∈ clo mv [0] ↔ _
      rw [mem_clo, run_nil]
      constructor
      · rintro ⟨s, hs, h⟩; rw [List.mem_singleton] at hs; subst hs; exact h
      · intro h; exact ⟨0, List.mem_singleton.mpr rfl, h⟩
    | succ n ih =>
      intro w hw t
      have hne : w ≠ [] := fun e => by subst e; cases hw
      have e := List.dropLast_concat_getLast hne
      rw [← e, aft_snoc, mem_stp, run_snoc]
      have hl : w.dropLast.length = n := by rw [List.length_dropLast]; omega
      constructor
      · rintro ⟨s, hs, u, h1, h2⟩; exact ⟨s, u, (ih _ hl s).mp hs, h1, h2⟩
      · rintro ⟨s, u, hs, h1, h2⟩; exact ⟨s, (ih _ hl s).mpr hs, u, h1, h2⟩
  exact key _ w rfl t
theorem asc_aft (w : List Sg) : Asc (aft mv w) := by
  cases h : w.getLast? with
  | none => rw [List.getLast?_eq_none_iff] at h; subst h; exact asc_clo _
  | some a =>
    have hne : w ≠ [] := fun e => by subst e; cases h
    rw [← List.dropLast_concat_getLast hne, aft_snoc]; exact asc_stp _ _
def Acc (mv : List Mv) (en : List Int) (w : List Sg) : Prop := ∃ t ∈ en, Run mv 0 w t
def univ (mv : List Mv) : List Int := norm (0 :: mv.map Mv.t)
theorem clo0_univ {t : Int} (h : t ∈ clo mv [0]) : t ∈ univ mv := by
  obtain ⟨s, hs, h⟩ := mem_clo.mp h
  rw [List.mem_singleton] at hs
  subst hs
  unfold univ
  rw [mem_norm, List.mem_cons]
  exact h.tgt
theorem stp_univ {S : List Int} {a : Sg} {t : Int} (h : t ∈ stp mv S a) : t ∈ univ mv := by
  obtain ⟨s, hs, u, hu, h⟩ := mem_stp.mp h
  unfold univ
  rw [mem_norm, List.mem_cons]
  rcases h.tgt with e | e
  · subst e; exact .inr (List.mem_map_of_mem (f := Mv.t) hu)
  · exact .inr e
theorem aft_univ {w : List Sg} {t : Int} (h : t ∈ aft mv w) : t ∈ univ mv := by
  cases e : w.getLast? with
  | none => rw [List.getLast?_eq_none_iff] at e; subst e; exact clo0_univ h
  | some a =>
    have hne : w ≠ [] := fun e2 => by subst e2; cases e
    rw [← List.dropLast_concat_getLast hne, aft_snoc] at h; exact stp_univ h
theorem FR.congr {mv2 : List Mv} (h : ∀ m, m ∈ mv → m ∈ mv2) {a b : Int} (r : FR mv a b) : FR mv2 a b := by
  induction r with
  | refl => exact .refl _
  | step h1 _ ih => exact .step (h _ h1) ih
theorem Run.congr {mv2 : List Mv} (h : ∀ m, m ∈ mv → m ∈ mv2) {a b : Int} {w : List Sg} (r : Run mv a w b) : Run mv2 a w b := by
  induction r with
  | nil h1 => exact .nil (h1.congr h)
  | read h1 h2 _ ih => exact .read (h1.congr h) (h _ h2) ih
theorem acc_congr {mv2 : List Mv} {en en2 : List Int} (h : ∀ m, m ∈ mv ↔ m ∈ mv2) (he : ∀ x, x ∈ en ↔ x ∈ en2) {w : List Sg} : Acc mv en w ↔ Acc mv2 en2 w := by
  constructor
  · rintro ⟨t, h1, h2⟩; exact ⟨t, (he t).mp h1, h2.congr fun m => (h m).mp⟩
  · rintro ⟨t, h1, h2⟩; exact ⟨t, (he t).mpr h1, h2.congr fun m => (h m).mpr⟩
end
end G
namespace G
open PySem L2
def eMv (m : Mv) : D := .tup [.int m.s, .str m.a, .int m.t]
def eI (l : List Int) : D := .tup (l.map D.int)
def keyD (S : List Int) (a : Sg) : D := .tup [.tup (S.map D.int), .str a]
def markW (ns : List (List Nat)) : List Sg := ns.flatMap fun n => [43 :: n, 45 :: n]
def sgsOf (s : List Nat) (ns : List (List Nat)) : List Sg := s.map (fun c => [c]) ++ markW ns
theorem markW_len (ns : List (List Nat)) : (markW ns).length = 2 * ns.length := by
  induction ns with
  | nil => rfl
  | cons n ns ih => show (markW ns).length + 1 + 1 = _; rw [ih, List.length_cons]; omega
theorem sgsOf_len {s : List Nat} {ns : List (List Nat)} (h1 : s.length ≤ 3) (h2 : ns.length ≤ 2) : (sgsOf s ns).length ≤ 7 := by
  unfold sgsOf
  rw [List.length_append, List.length_map, markW_len]; omega
def wordsTo (sg : List Sg) : Nat → List (List Sg)
  | 0 => [[]]
  | n + 1 => [] :: sg.flatMap fun a => (wordsTo sg n).map (a :: ·)
theorem flatMap_len {α β : Type} {f : α → List β} {n : Nat} (h : ∀ a, (f a).length = n) : ∀ (l : List α), (l.flatMap f).length = l.length * n
  | [] => by simp
  | a :: l => by rw [List.flatMap_cons, List.length_append, h, flatMap_len h l, List.length_cons, Nat.succ_mul]; omega
theorem wordsTo_len (sg : List Sg) : ∀ n, (wordsTo sg (n + 1)).length = 1 + sg.length * (wordsTo sg n).length := fun n => by
  rw [wordsTo, List.length_cons, flatMap_len (n := (wordsTo sg n).length) (fun a => by rw [List.length_map])]; omega
theorem wordsTo_le {sg : List Sg} (h : sg.length ≤ 7) : (wordsTo sg 7).length ≤ 960800 := by
  have m : ∀ n k, (wordsTo sg n).length ≤ k → (wordsTo sg (n + 1)).length ≤ 1 + 7 * k := fun n k hk => by
    rw [wordsTo_len]
    have := Nat.mul_le_mul h hk
    omega
  have h0 : (wordsTo sg 0).length ≤ 1 := by simp [wordsTo]
  have h1 := m _ _ h0
  have h2 := m _ _ h1
  have h3 := m _ _ h2
  have h4 := m _ _ h3
  have h5 := m _ _ h4
  have h6 := m _ _ h5
  exact m _ _ h6
noncomputable def domL (sg : List Sg) (mv : List Mv) : List (List Int) :=
  (if (univ mv).length ≤ 20 then subsA (univ mv) else []) ++ ((wordsTo sg 7).map (aft mv) ++ ([] :: (univ mv).map fun u => [u]))
theorem insA_len (x : Int) : ∀ l : List Int, (insA x l).length ≤ l.length + 1
  | [] => by simp [insA]
  | y :: l => by
    unfold insA
    split
    · simp
    · split
      · simp
      · have := insA_len x l
        simp only [List.length_cons]; omega
theorem norm_len : ∀ l : List Int, (norm l).length ≤ l.length
  | [] => Nat.le_refl _
  | y :: l => by
    have h1 := insA_len y (norm l)
    have h2 := norm_len l
    show (insA y (norm l)).length ≤ _
    rw [List.length_cons]; omega
theorem univ_len (mv : List Mv) : (univ mv).length ≤ mv.length + 1 := by
  have := norm_len (0 :: mv.map Mv.t)
  simpa [univ] using this
theorem domL_len {sg : List Sg} {mv : List Mv} (h : sg.length ≤ 7) (hm : mv.length ≤ 100000) : (domL sg mv).length ≤ 2200000 := by
  have h1 := wordsTo_le h
  have h2 := univ_len mv
  have h3 : (if (univ mv).length ≤ 20 then subsA (univ mv) else []).length ≤ 1048576 := by
    split
    · rename_i hu
      rw [subsA_len]
      exact Nat.le_trans (Nat.pow_le_pow_right (by decide) hu) (by decide)
    · exact Nat.zero_le _
  unfold domL
  rw [List.length_append, List.length_append, List.length_map, List.length_cons, List.length_map]
  omega
structure IsK (m : D) (s : List Nat) (ns : List (List Nat)) (mv : List Mv) : Prop where
  eq : ∃ en, m = ruleK s ns (mv.map eMv) en
  ls : s.length ≤ 3
  ln : ns.length ≤ 2
  lm : mv.length ≤ 100000
def Asks (m : D) (mv : List Mv) (S : List Int) (a : Sg) : Prop := ∃ s ns, IsK m s ns mv ∧ a ∈ sgsOf s ns ∧ S ∈ domL (sgsOf s ns) mv
theorem eMv_inj {a b : Mv} (h : eMv a = eMv b) : a = b := by
  obtain ⟨s, x, t⟩ := a
  obtain ⟨s2, x2, t2⟩ := b
  unfold eMv at h
  injection h with h
  injection h with h1 h
  injection h with h2 h
  injection h with h3 h
  injection h1 with h1
  injection h2 with h2
  injection h3 with h3
  subst h1 h2 h3
  rfl
theorem map_inj {α β : Type} {f : α → β} (hf : ∀ a b, f a = f b → a = b) : ∀ {l m : List α}, l.map f = m.map f → l = m
  | [], [], _ => rfl
  | [], _ :: _, h => by cases h
  | _ :: _, [], h => by cases h
  | a :: l, b :: m, h => by
    rw [List.map_cons, List.map_cons] at h
    injection h with h1 h2
    rw [hf a b h1, map_inj hf h2]
theorem ruleK_inj {s s2 : List Nat} {ns ns2 : List (List Nat)} {md md2 en en2 : List D} (h : ruleK s ns md en = ruleK s2 ns2 md2 en2) : s = s2 ∧ ns = ns2 ∧ md = md2 := by
  unfold ruleK at h
  injection h with h
  injection h with h1 h
  injection h with h2 h
  injection h with h3 h
  injection h1 with h1
  injection h2 with h2
  injection h3 with h3
  exact ⟨h1, map_inj (fun a b e => by injection e) h2, h3⟩
theorem IsK.uniq {m : D} {s s2 : List Nat} {ns ns2 : List (List Nat)} {mv mv2 : List Mv} (h : IsK m s ns mv) (h2 : IsK m s2 ns2 mv2) : s = s2 ∧ ns = ns2 ∧ mv = mv2 := by
  obtain ⟨en, e⟩ := h.eq
  obtain ⟨en2, e2⟩ := h2.eq
  rw [e] at e2
  obtain ⟨a, b, c⟩ := ruleK_inj e2
  exact ⟨a, b, map_inj (fun _ _ => eMv_inj) c⟩
theorem nkL_ints : ∀ {l m : List Int}, D.nkL (l.map D.int) = D.nkL (m.map D.int) → l = m
  | [], [], _ => rfl
  | [], _ :: _, h => by cases h
  | _ :: _, [], h => by cases h
  | a :: l, b :: m, h => by
    have h : NestedKey.num a :: D.nkL (l.map D.int) = NestedKey.num b :: D.nkL (m.map D.int) := h
    injection h with h1 h2
    injection h1 with h1
    rw [h1, nkL_ints h2]
theorem keyD_inj {S S2 : List Int} {a a2 : Sg} (h : (keyD S a).nk = (keyD S2 a2).nk) : S = S2 ∧ a = a2 := by
  have h : NestedKey.tup [.tup (D.nkL (S.map D.int)), .text (Sx a)] = NestedKey.tup [.tup (D.nkL (S2.map D.int)), .text (Sx a2)] := h
  injection h with h
  injection h with h1 h
  injection h with h2 h
  injection h1 with h1
  injection h2 with h2
  exact ⟨nkL_ints h1, Sx_inj h2⟩
open Classical in
noncomputable def memoR (m x : D) : Option D :=
  if h : ∃ p : List Mv × List Int × Sg, Asks m p.1 p.2.1 p.2.2 ∧ x.nk = (keyD p.2.1 p.2.2).nk then some (eI (stp h.choose.1 h.choose.2.1 h.choose.2.2)) else none
theorem memoR_val {m : D} {mv : List Mv} {S : List Int} {a : Sg} (h : Asks m mv S a) : memoR m (keyD S a) = some (eI (stp mv S a)) := by
  have hex : ∃ p : List Mv × List Int × Sg, Asks m p.1 p.2.1 p.2.2 ∧ (keyD S a).nk = (keyD p.2.1 p.2.2).nk := ⟨(mv, S, a), h, rfl⟩
  unfold memoR
  rw [dif_pos hex]
  obtain ⟨q1, q2⟩ := hex.choose_spec
  obtain ⟨e1, e2⟩ := keyD_inj q2
  obtain ⟨s, ns, k1, _, _⟩ := q1
  obtain ⟨s', ns', k2, _, _⟩ := h
  have e3 := (k1.uniq k2).2.2
  rw [e3, ← e1, ← e2]
theorem memoR_nk (m : D) {x y : D} (h : x.nk = y.nk) : memoR m x = memoR m y := by
  unfold memoR
  rw [h]
theorem memoR_some {m x d : D} (h : memoR m x = some d) : ∃ mv S a, Asks m mv S a ∧ x.nk = (keyD S a).nk ∧ d = eI (stp mv S a) := by
  unfold memoR at h
  split at h
  · rename_i hex
    cases h
    obtain ⟨q1, q2⟩ := hex.choose_spec
    exact ⟨_, _, _, q1, q2, rfl⟩
  · cases h
theorem hkL_ints (n : Nat) : ∀ l : List Int, D.hkL n (l.map D.int) = true
  | [] => rfl
  | a :: l => by show (D.hk n (.int a) && D.hkL n (l.map D.int)) = true; rw [hkL_ints n l]; cases n <;> rfl
theorem eI_key (l : List Int) : (eI l).isKey false = true := by
  show (true && D.hkL 7 (l.map D.int)) = true
  rw [hkL_ints]; rfl
theorem keyD_key (S : List Int) (a : Sg) : (keyD S a).isKey false = true := by
  show (true && ((D.hk 7 (.tup (S.map D.int))) && (true && true))) = true
  show (true && ((D.hkL 6 (S.map D.int)) && (true && true))) = true
  rw [hkL_ints]; rfl
theorem memoR_fin (m : D) : ∃ L : List NestedKey, L.length < 16777216 ∧ ∀ x d, memoR m x = some d → x.nk ∈ L := by
  by_cases h : ∃ s ns mv, IsK m s ns mv
  · obtain ⟨s, ns, mv, k⟩ := h
    refine ⟨(sgsOf s ns).flatMap fun a => (domL (sgsOf s ns) mv).map fun S => (keyD S a).nk, ?_, fun x d hx => ?_⟩
    · rw [flatMap_len (n := (domL (sgsOf s ns) mv).length) (fun a => by rw [List.length_map])]
      have h1 := sgsOf_len k.ls k.ln
      have h2 := domL_len (mv := mv) h1 k.lm
      have := Nat.mul_le_mul h1 h2
      omega
    · obtain ⟨mv2, S, a, ⟨s2, ns2, k2, h1, h2⟩, e, _⟩ := memoR_some hx
      obtain ⟨e1, e2, e3⟩ := k.uniq k2
      subst e1 e2 e3
      rw [e]
      exact List.mem_flatMap.mpr ⟨a, h1, List.mem_map_of_mem (f := fun S => (keyD S a).nk) h2⟩
  · refine ⟨[], by decide, fun x d hx => ?_⟩
    obtain ⟨mv2, S, a, ⟨s2, ns2, k2, _, _⟩, _⟩ := memoR_some hx
    exact absurd ⟨s2, ns2, mv2, k2⟩ h
theorem memo_mk {C : Cfg} (hm : C.memo = memoR) (hc : ∀ F H a m, C.cok F H a m ↔ CokM C F H a m) : Memo C where
  cok := hc
  nk := fun m x y h => by rw [hm]; exact memoR_nk m h
  key := fun m x d h => by
    rw [hm] at h
    obtain ⟨mv, S, a, _, _, e⟩ := memoR_some h
    rw [e]; exact eI_key _
  fin := fun m => by rw [hm]; exact memoR_fin m
theorem CokM.mono {C : Cfg} {F F' : Wd} {H H' : Hp} {a : Addr} {m : D} (h : ∀ b x, F b = some x → F' b = some x) (e : H' a = H a) (q : CokM C F H a m) : CokM C F' H' a m := by
  obtain ⟨ks, kas, xs, vs, h1, h2, h3, h4, h5⟩ := q
  exact ⟨ks, kas, xs, vs, by rw [e]; exact h1, h2.le h, h3, h4, h5⟩
mutual
theorem Rep.dropH {C : Cfg} {F F2 : Wd} {a : Addr} (hF : ∀ b x, F2 b = some x → b ≠ a → F b = some x) (ha : ∀ u, F2 a = some (.o u) → (∃ cl dx fs, u = .ins cl dx fs) ∨ ∃ xs, u = .lst xs) : ∀ (n : Nat) {v : V} {d : D}, d.hk n = true → Rep C F2 v d → Rep C F v d
  | _, v, .non, _, r => r
  | _, v, .bl _, _, r => r
  | _, v, .int _, _, r => r
  | _, v, .str _, _, r => r
  | 0, v, .tup l, h, _ => by cases h
  | n + 1, v, .tup l, h, r => by
    obtain ⟨b, xs, e, h1, rl⟩ := r
    refine ⟨b, xs, e, hF b _ h1 (fun z => ?_), RepL.dropH hF ha n h rl⟩
    subst z
    rcases ha _ h1 with ⟨_, _, _, z⟩ | ⟨_, z⟩ <;> cases z
  | n, v, .lst _, h, _ => by cases n <;> cases h
  | n, v, .byt _, h, _ => by cases n <;> cases h
  | n, v, .obj _ _, h, _ => by cases n <;> cases h
  | n, v, .scr _, h, _ => by cases n <;> cases h
  | n, v, .dict _ _ _, h, _ => by cases n <;> cases h
  | n, v, .cache _, h, _ => by cases n <;> cases h
  | n, v, .cls _, h, _ => by cases n <;> cases h
theorem RepL.dropH {C : Cfg} {F F2 : Wd} {a : Addr} (hF : ∀ b x, F2 b = some x → b ≠ a → F b = some x) (ha : ∀ u, F2 a = some (.o u) → (∃ cl dx fs, u = .ins cl dx fs) ∨ ∃ xs, u = .lst xs) : ∀ (n : Nat) {vs : List V} {l : List D}, D.hkL n l = true → RepL C F2 vs l → RepL C F vs l
  | _, vs, [], _, r => r
  | n, vs, d :: l, h, r => by
    have h : (D.hk n d && D.hkL n l) = true := h
    rw [Bool.and_eq_true] at h
    obtain ⟨v, r', e, rv, rr⟩ := r
    exact ⟨v, r', e, Rep.dropH hF ha n h.1 rv, RepL.dropH hF ha n h.2 rr⟩
end
theorem all_hkL : ∀ {l : List D}, l.all (D.isKey false) = true → D.hkL 8 l = true
  | [], _ => rfl
  | d :: l, h => by
    rw [List.all_cons, Bool.and_eq_true] at h
    have h1 : (d.isTup && d.hk 8) = true := h.1
    rw [Bool.and_eq_true] at h1
    show (d.hk 8 && D.hkL 8 l) = true
    rw [h1.2, all_hkL h.2]; rfl
theorem CokM.drop {C : Cfg} {F F2 : Wd} {H : Hp} {a b : Addr} {m : D} (hF : ∀ b x, F2 b = some x → b ≠ a → F b = some x) (ha : ∀ u, F2 a = some (.o u) → (∃ cl dx fs, u = .ins cl dx fs) ∨ ∃ xs, u = .lst xs) (q : CokM C F2 H b m) : CokM C F H b m := by
  obtain ⟨ks, kas, xs, vs, h1, h2, h3, h4, h5⟩ := q
  obtain ⟨d1, d2, d3, d4, d5⟩ := h2
  exact ⟨ks, kas, xs, vs, h1, ⟨d1, d2, d3, fun e => RepL.dropH hF ha 8 (all_hkL d1) (d4 e), RepL.dropH hF ha 8 (all_hkL h3) d5⟩, h3, h4, h5⟩
end G
namespace G
open PySem L2
mutual
theorem Rep_cok (C : Cfg) (k : Wd → Hp → Addr → D → Prop) (h1 h2) (F : Wd) : ∀ (d : D) (v : V), Rep { C with cok := k, cok_mono := h1, cok_drop := h2 } F v d = Rep C F v d
  | .non, _ => rfl
  | .bl _, _ => rfl
  | .int _, _ => rfl
  | .str _, _ => rfl
  | .tup l, v => by rw [Rep, Rep]; simp only [RepL_cok C k h1 h2 F l]
  | .lst l, v => by rw [Rep, Rep]; simp only [RepL_cok C k h1 h2 F l]
  | .obj c l, v => by rw [Rep, Rep]; simp only [RepL_cok C k h1 h2 F l]; rfl
  | .scr l, v => rfl
  | .byt _, _ => rfl
  | .dict kk ks l, v => by rw [Rep, Rep]; simp only [RepL_cok C k h1 h2 F l, RepL_cok C k h1 h2 F ks]; rfl
  | .cache m, v => rfl
  | .cls n, v => rfl
theorem RepL_cok (C : Cfg) (k : Wd → Hp → Addr → D → Prop) (h1 h2) (F : Wd) : ∀ (l : List D) (vs : List V), RepL { C with cok := k, cok_mono := h1, cok_drop := h2 } F vs l = RepL C F vs l
  | [], _ => rfl
  | d :: ds, vs => by rw [RepL, RepL]; simp only [Rep_cok C k h1 h2 F d, RepL_cok C k h1 h2 F ds]
end
abbrev withCok (C : Cfg) : Cfg := { C with cok := CokM C, cok_mono := fun h e q => CokM.mono h e q, cok_drop := fun hF ha q => CokM.drop hF ha q }
theorem CokM_with (C : Cfg) (j : Nat) (F : Wd) (H : Hp) (a : Addr) (m : D) : CokM ((withCok C).at j) F H a m ↔ CokM C F H a m := by
  unfold CokM DOk
  simp only [RepL_at, RepL_cok]
  exact Iff.rfl
theorem memo_with (C : Cfg) (hm : C.memo = memoR) (j : Nat) : Memo ((withCok C).at j) := memo_mk hm fun F H a m => (CokM_with C j F H a m).symm
theorem cok0_with (C : Cfg) (F : Wd) (H : Hp) (a : Addr) (d : D) (h : H a = some (dictO (withCok C) a false [] [] [])) : (withCok C).cok F H a d :=
  ⟨[], [], [], [], h, ⟨rfl, rfl, rfl, fun _ => rfl, rfl⟩, rfl, List.nodup_nil, fun x d h => by cases h⟩
end G
namespace G
open PySem L2
theorem srtD_int (l : List Int) : srtD (l.map D.int) = (l.mergeSort fun a b => decide (a ≤ b)).map D.int := by
  unfold srtD
  rw [List.map_mergeSort (s := PySem.W.dataLe false D.py)]
  intro a _ b _
  have := congrFun (congrFun (PySem.W.dataLe_int (fun x : Int => x)) a) b
  exact this.symm
theorem sort_norm {l : List Int} (h : l.Nodup) : (l.mergeSort fun a b => decide (a ≤ b)) = norm l := by
  refine (norm_eq ?_ fun x => (List.mergeSort_perm l _).mem_iff.symm).symm
  have p := List.pairwise_mergeSort (le := fun a b : Int => decide (a ≤ b)) (fun a b c h1 h2 => by simp only [decide_eq_true_eq] at *; omega) (fun a b => by simp only [Bool.or_eq_true, decide_eq_true_eq]; omega) l
  have n : (l.mergeSort fun a b => decide (a ≤ b)).Nodup := (List.mergeSort_perm l _).nodup_iff.mpr h
  exact (p.and n).imp fun {a b} ⟨h1, h2⟩ => by
    simp only [decide_eq_true_eq] at h1
    have : a ≠ b := h2
    omega
theorem srtD_norm {l : List Int} (h : l.Nodup) : srtD (l.map D.int) = (norm l).map D.int := by rw [srtD_int, sort_norm h]
theorem flatL_int (n : Nat) : ∀ l : List Int, D.flatL n (l.map D.int) = true
  | [] => rfl
  | a :: l => by show (D.flat n (.int a) && D.flatL n (l.map D.int)) = true; rw [flatL_int n l]; cases n <;> rfl
theorem one_int (l : List Int) : oneShp (l.map D.int) = true := by
  unfold oneShp
  rw [flatL_int]
  have a1 : ((l.map D.int).all fun a => (l.map D.int).all fun b => PySem.W.alike a.py b.py) = true := List.all_eq_true.mpr fun a ha => List.all_eq_true.mpr fun b hb => by
    obtain ⟨i, _, rfl⟩ := List.mem_map.mp ha
    obtain ⟨j, _, rfl⟩ := List.mem_map.mp hb
    rfl
  have a2 : ((l.map D.int).all fun d => !d.isN && !d.isTup) = true := List.all_eq_true.mpr fun a ha => by
    obtain ⟨i, _, rfl⟩ := List.mem_map.mp ha
    rfl
  rw [a1, a2]; simp
theorem dHas_int (ks : List Int) (x : Int) : dHas (ks.map D.int) (.int x) = decide (x ∈ ks) := by
  unfold dHas
  rw [List.any_map, Bool.eq_iff_iff, List.any_eq_true, decide_eq_true_iff]
  constructor
  · rintro ⟨y, hy, h⟩
    have h : NestedKey.num y = NestedKey.num x := by simpa [D.nk] using h
    injection h with h
    subst h; exact hy
  · intro h; exact ⟨x, h, by simp [D.nk]⟩
def tg (mv : List Mv) (s : Int) (a : Sg) : List Int := (mv.filter fun m => decide (m.s = s ∧ m.a = a)).map Mv.t
theorem mem_tg {mv : List Mv} {s t : Int} {a : Sg} : t ∈ tg mv s a ↔ ⟨s, a, t⟩ ∈ mv := by
  unfold tg
  rw [List.mem_map]
  constructor
  · rintro ⟨m, hm, rfl⟩
    rw [List.mem_filter, decide_eq_true_iff] at hm
    obtain ⟨h, rfl, rfl⟩ := hm
    exact h
  · intro h
    exact ⟨_, List.mem_filter.mpr ⟨h, by simp⟩, rfl⟩
def ktup (s : Int) (a : Sg) : D := .tup [.int s, .str a]
theorem ktup_nk {s s2 : Int} {a a2 : Sg} : (ktup s a).nk = (ktup s2 a2).nk ↔ s = s2 ∧ a = a2 := by
  constructor
  · intro h
    have h : NestedKey.tup [.num s, .text (Sx a)] = NestedKey.tup [.num s2, .text (Sx a2)] := h
    injection h with h
    injection h with h1 h
    injection h with h2 h
    injection h1 with h1
    injection h2 with h2
    exact ⟨h1, Sx_inj h2⟩
  · rintro ⟨rfl, rfl⟩; rfl
structure TabI (p : List D × List D) (L : List Mv) : Prop where
  len : p.1.length = p.2.length
  has : ∀ s a, dHas p.1 (ktup s a) = decide (tg L s a ≠ [])
  get : ∀ s a, tg L s a ≠ [] → dGet p.1 p.2 (ktup s a) = some (.lst ((tg L s a).map D.int))
theorem tg_snoc (L : List Mv) (m : Mv) (s : Int) (a : Sg) : tg (L ++ [m]) s a = tg L s a ++ if m.s = s ∧ m.a = a then [m.t] else [] := by
  unfold tg
  rw [List.filter_append, List.map_append]
  congr 1
  by_cases h : m.s = s ∧ m.a = a
  · rw [if_pos h]; simp [h]
  · rw [if_neg h]; simp [h]
theorem dHas_snoc (ks : List D) (y x : D) : dHas (ks ++ [y]) x = (dHas ks x || decide (y.nk = x.nk)) := by
  unfold dHas
  rw [List.any_append]; simp
theorem TabI.step {p : List D × List D} {L : List Mv} (h : TabI p L) (m : Mv) : TabI (tabStep p (eMv m)) (L ++ [m]) := by
  obtain ⟨ks, vs⟩ := p
  have e : tabStep (ks, vs) (eMv m) = if dHas ks (ktup m.s m.a) then (ks, dPut ks vs (ktup m.s m.a) (.lst (lstOf ((dGet ks vs (ktup m.s m.a)).getD (.lst [])) ++ [.int m.t]))) else (ks ++ [ktup m.s m.a], vs ++ [.lst [.int m.t]]) := rfl
  have hl : ks.length = vs.length := h.len
  rw [e]
  by_cases ht : tg L m.s m.a = []
  · have hh : dHas ks (ktup m.s m.a) = false := by have := h.has m.s m.a; simpa [ht] using this
    rw [hh, if_neg Bool.false_ne_true]
    refine ⟨by simp [hl], fun s a => ?_, fun s a hne => ?_⟩
    · show dHas (ks ++ [ktup m.s m.a]) _ = _
      rw [dHas_snoc, h.has s a, tg_snoc]
      by_cases q : m.s = s ∧ m.a = a
      · have : (ktup m.s m.a).nk = (ktup s a).nk := ktup_nk.mpr q
        simp [this, if_pos q]
      · have : ¬ (ktup m.s m.a).nk = (ktup s a).nk := fun z => q (ktup_nk.mp z)
        simp [this, if_neg q]
    · show dGet (ks ++ [ktup m.s m.a]) (vs ++ [D.lst [D.int m.t]]) (ktup s a) = _
      rw [tg_snoc] at hne ⊢
      rw [dGet_snoc (ktup s a) hl]
      by_cases q : m.s = s ∧ m.a = a
      · obtain ⟨q1, q2⟩ := q
        subst q1 q2
        rw [dGet_none ks vs _ hh, ht]
        simp
      · rw [if_neg q, List.append_nil] at hne ⊢
        rw [h.get s a hne]
  · have hh : dHas ks (ktup m.s m.a) = true := by have := h.has m.s m.a; simpa [ht] using this
    rw [hh, if_pos rfl, h.get m.s m.a ht]
    refine ⟨by show ks.length = (dPut ks vs _ _).length; rw [dPut_len2 ks vs _ _ hl], fun s a => ?_, fun s a hne => ?_⟩
    · show dHas ks _ = _
      rw [h.has s a, tg_snoc]
      by_cases q : m.s = s ∧ m.a = a
      · obtain ⟨q1, q2⟩ := q
        subst q1 q2
        simp [ht]
      · simp [if_neg q]
    · show dGet ks (dPut ks vs _ _) (ktup s a) = _
      rw [dGet_put (ktup s a) hl, tg_snoc] at *
      by_cases q : m.s = s ∧ m.a = a
      · have : (ktup m.s m.a).nk = (ktup s a).nk := ktup_nk.mpr q
        obtain ⟨q1, q2⟩ := q
        subst q1 q2
        simp [hh, lstOf]
      · have : ¬ (ktup m.s m.a).nk = (ktup s a).nk := fun z => q (ktup_nk.mp z)
        rw [if_neg (fun z => this z.2)]
        rw [if_neg q, List.append_nil] at hne ⊢
        exact h.get s a hne
theorem tab_I (mv : List Mv) : TabI (tabOf (mv.map eMv)) mv := by
  have key : ∀ (l L : List Mv) (p : List D × List D), TabI p L → TabI ((l.map eMv).foldl tabStep p) (L ++ l) := by
    intro l
    induction l with
    | nil => intro L p h; rw [List.append_nil]; exact h
    | cons m l ih =>
      intro L p h
      have := ih (L ++ [m]) _ (h.step m)
      rw [List.append_assoc] at this
      exact this
  exact key mv [] ([], []) ⟨rfl, fun s a => rfl, fun s a h => absurd rfl h⟩
def tabD (mv : List Mv) : D := .dict false (tabOf (mv.map eMv)).1 (tabOf (mv.map eMv)).2
theorem tab_get (mv : List Mv) (s : Int) (a : Sg) : dgetD (tabD mv) (.tup [.int s, .str a]) (.lst []) = .ok (.lst ((tg mv s a).map D.int)) := by
  show R.ok ((dGet _ _ (ktup s a)).getD (D.lst [])) = _
  by_cases h : tg mv s a = []
  · have hh := (tab_I mv).has s a
    rw [h] at hh ⊢
    rw [dGet_none _ _ _ (by simpa using hh)]; rfl
  · rw [(tab_I mv).get s a h]; rfl
theorem whileD_thru {St : Type} (enc : St → Gam) (I : St → Prop) (μ : St → Nat) (cb : St → Bool) {kl : List Nat} {c : Gam → R Bool} {body : Gam → Out} (hc : ∀ s, I s → c (enc s) = .ok (cb s))
    (hb : ∀ s, I s → cb s = true → ∃ s' Γ2, (body (enc s) = .next Γ2 ∨ body (enc s) = .cont Γ2) ∧ killG Γ2 kl = enc s' ∧ I s' ∧ μ s' < μ s) :
    ∀ (n : Nat) (Γ : Gam) (s : St), killG Γ kl = enc s → I s → μ s < n → ∃ s', whileD kl c body n Γ = .next (enc s') ∧ I s' ∧ cb s' = false
  | 0, _, _, _, _, h => absurd h (Nat.not_lt_zero _)
  | n + 1, Γ, s, hk, hI, hm => by
    rw [whileD, hk, hc s hI, ofOk]
    cases hcb : cb s with
    | false => exact ⟨s, rfl, hI, hcb⟩
    | true =>
      obtain ⟨s', Γ2, h1, h2, h3, h4⟩ := hb s hI hcb
      obtain ⟨s2, q⟩ := whileD_thru enc I μ cb hc hb n Γ2 s' h2 h3 (by omega)
      refine ⟨s2, ?_, q.2⟩
      rcases h1 with e | e
      · rw [e]; exact q.1
      · rw [e]; exact q.1
def bClosureB : Sm :=
  (.pop 4 3
  (.ifs (.cmp .notin (.var 4) (.var 2))
  (.dput 2 (.var 4) (.bl true)
  (.ext 3 (.dget2 (.fld 7 (.var 0)) (.tup (.cons (.var 4) (.cons (.glob 0) .nil))) (.lst .nil))
  .nil))
  .nil
  .nil))
def cWait : E := .cmp .gt (.f1 .len (.var 3)) (.int 0)
def bClosure : Sm :=
  (.newD true 2
  (.asgO 3 (.f1 .list (.var 1))
  (.whl [4] cWait
  bClosureB
  (.frz 2 (.ret (.f1 .tuple (.f1 .sorted (.var 2))))))))
def bStepB : Sm :=
  (.ext 3 (.dget2 (.fld 7 (.var 0)) (.tup (.cons (.var 4) (.cons (.var 2) .nil))) (.lst .nil))
  .nil)
def bStepM : Sm :=
  (.asgO 3 (.lst .nil)
  (.loop [4] [4] false (.var 1)
  bStepB
  (.frz 3 .nil)))
def bStep : Sm :=
  (.memo 8 0 (.tup (.cons (.var 1) (.cons (.var 2) .nil)))
  bStepM
  (.calm 49 (.cons (.var 0) (.cons (.var 3) .nil))))
def bAfterB : Sm :=
  (.asg 2 (.calm 51 (.cons (.var 0) (.cons (.var 2) (.cons (.var 3) .nil))))
  .nil)
def bAfter : Sm :=
  (.asg 2 (.calm 49 (.cons (.var 0) (.cons (.lst (.cons (.int 0) .nil)) .nil)))
  (.loop [3] [3] false (.var 1)
  bAfterB
  (.ret (.var 2))))
section
variable {M : Mng} {n0 : Nat}
theorem lstK (l : List D) : f1D .list (.lst l) = .ok (.lst l) := rfl
theorem tupL (l : List D) : f1D .tuple (.lst l) = .ok (.tup l) := rfl
theorem filt_split {mv : List Mv} {p q r : Mv → Bool} (h : ∀ m, r m = (p m || q m)) (d : ∀ m, ¬ (p m = true ∧ q m = true)) : (mv.filter r).length = (mv.filter p).length + (mv.filter q).length := by
  induction mv with
  | nil => rfl
  | cons m mv ih =>
    rw [List.filter_cons, List.filter_cons, List.filter_cons, h m]
    cases hp : p m <;> cases hq : q m
    · simpa using ih
    · simp; omega
    · simp; omega
    · exact absurd ⟨hp, hq⟩ (d m)
def fcnt (mv : List Mv) (ks : List Int) : Nat := (mv.filter fun m => decide (m.a = [] ∧ m.s ∈ ks)).length
theorem fcnt_le (mv : List Mv) (ks : List Int) : fcnt mv ks ≤ mv.length := List.length_filter_le _ _
theorem fcnt_snoc (mv : List Mv) {ks : List Int} {x : Int} (h : x ∉ ks) : fcnt mv (ks ++ [x]) = fcnt mv ks + (tg mv x []).length := by
  unfold fcnt tg
  rw [List.length_map]
  refine filt_split (fun m => ?_) fun m hm => ?_
  · rw [Bool.eq_iff_iff, Bool.or_eq_true, decide_eq_true_iff, decide_eq_true_iff, decide_eq_true_iff, List.mem_append, List.mem_singleton]
    constructor
    · rintro ⟨h1, h2 | h2⟩
      · exact .inl ⟨h1, h2⟩
      · exact .inr ⟨h2, h1⟩
    · rintro (⟨h1, h2⟩ | ⟨h1, h2⟩)
      · exact ⟨h1, .inl h2⟩
      · exact ⟨h2, .inr h1⟩
  · simp only [decide_eq_true_eq] at hm
    obtain ⟨⟨_, h1⟩, h2, _⟩ := hm
    rw [h2] at h1
    exact h h1
structure CloI (mv : List Mv) (S : List Int) (p : List Int × List D × List Int) : Prop where
  nd : p.1.Nodup
  fr : ∀ x ∈ p.1, ∃ s ∈ S, FR mv s x
  wr : ∀ x ∈ p.2.2, ∃ s ∈ S, FR mv s x
  st : ∀ s ∈ S, s ∈ p.1 ∨ s ∈ p.2.2
  cl : ∀ x ∈ p.1, ∀ t, ⟨x, [], t⟩ ∈ mv → t ∈ p.1 ∨ t ∈ p.2.2
  sz : p.2.2.length ≤ S.length + fcnt mv p.1
theorem CloI.all {mv : List Mv} {S ks : List Int} {vs : List D} (h : CloI mv S (ks, vs, [])) : norm ks = clo mv S := by
  refine norm_eq (asc_clo S) fun x => ?_
  rw [mem_clo]
  refine ⟨h.fr x, ?_⟩
  rintro ⟨s, hs, hr⟩
  have h0 : s ∈ ks := by
    rcases h.st s hs with e | e
    · exact e
    · cases e
  clear hs
  induction hr with
  | refl => exact h0
  | @step s u t h1 _ ih =>
    refine ih ?_
    rcases h.cl s h0 u h1 with e | e
    · exact e
    · cases e
theorem CloI.few {mv : List Mv} {S ks w : List Int} {vs : List D} (h : CloI mv S (ks, vs, w)) : ks.length ≤ S.length + mv.length := by
  have : ks.length ≤ (S ++ mv.map Mv.t).length := nodup_len h.nd fun x hx => by
    obtain ⟨s, hs, hr⟩ := h.fr x hx
    rcases hr.tgt with e | e
    · subst e; exact List.mem_append_left _ hs
    · exact List.mem_append_right _ e
  rw [List.length_append, List.length_map] at this
  exact this
theorem getLast_app {α : Type} {l : List α} {x : α} (h : l.getLast? = some x) : l = l.dropLast ++ [x] := by
  have hne : l ≠ [] := fun e => by subst e; cases h
  have := List.dropLast_concat_getLast hne
  rw [List.getLast?_eq_some_getLast hne] at h
  cases h
  exact this.symm
theorem clo_body {o : D} {mv : List Mv} {S ks w : List Int} {vs : List D} {a : Cell} (S0 : Std M) (ho : fldD M 7 o = .ok (tabD mv)) (hS : S.length ≤ 1000000) (hm : mv.length ≤ 1000000) (h : CloI mv S (ks, vs, w)) (hw : w ≠ []) :
    ∃ ks' vs' w' x, evS M bClosureB [.val o, a, .ownD true (ks.map D.int) vs, .ownL (w.map D.int), .dead] = .next [.val o, a, .ownD true (ks'.map D.int) vs', .ownL (w'.map D.int), .val (.int x)] ∧ CloI mv S (ks', vs', w') ∧
      w'.length + (mv.length - fcnt mv ks') < w.length + (mv.length - fcnt mv ks) := by
  obtain ⟨x, hx⟩ : ∃ x, w.getLast? = some x := by
    cases e : w.getLast? with
    | none => rw [List.getLast?_eq_none_iff] at e; exact absurd e hw
    | some x => exact ⟨x, rfl⟩
  have ew := getLast_app hx
  generalize w.dropLast = u at ew
  subst ew
  have hl : ((u ++ [x]).map D.int).getLast? = some (.int x) := by rw [List.map_append]; simp
  have hd : ((u ++ [x]).map D.int).dropLast = u.map D.int := by rw [List.map_append]; simp
  have hxr := h.wr x (by simp)
  have g0 : M.gl 0 = .str [] := by rw [S0.gl]; rfl
  have few := h.few
  have fz := fcnt_le mv ks
  have sz := h.sz
  have sz' : u.length + 1 ≤ S.length + fcnt mv ks := by simpa using sz
  by_cases hk : x ∈ ks
  · refine ⟨ks, vs, u, x, ?_, ⟨h.nd, h.fr, fun y hy => h.wr y (by simp [hy]), fun s hs => ?_, fun y hy t ht => ?_, by show u.length ≤ S.length + fcnt mv ks; omega⟩, by simp⟩
    · have nh : inD (.int x) (.dict true (ks.map D.int) vs) = .ok true := by
        show (if true = true then R.ok (dHas (ks.map D.int) (.int x)) else .bad) = _
        rw [dHas_int]; simp [hk]
      simp (config := { implicitDefEqProofs := false }) [evS, evE, evL, borrow, binD, cmpD, onL, killG, ofOk, bindOk, atNext, atRet, atExc, truB, truI, intK, lenL, lenS, lenT, andK, orK, notK, addK, subK, modK, mulK, fdivK, powK, ltK, leK, eqK, run, runI, gamN, gamM, outR_next, outR_ret, outR_exc, outI_next, outI_exc, doneI, isiR, D.isi, tyD, isiD, D.isN, Mng.wf, evH, Out.mapG, bindX, noExn, endX, bClosureB, hl, hd, nh]
    · rcases h.st s hs with e | e
      · exact .inl e
      · rcases List.mem_append.mp e with e | e
        · exact .inr e
        · rw [List.mem_singleton] at e; subst e; exact .inl hk
    · rcases h.cl y hy t ht with e | e
      · exact .inl e
      · rcases List.mem_append.mp e with e | e
        · exact .inr e
        · rw [List.mem_singleton] at e; subst e; exact .inl hk
  · have nh : inD (.int x) (.dict true (ks.map D.int) vs) = .ok false := by
      show (if true = true then R.ok (dHas (ks.map D.int) (.int x)) else .bad) = _
      rw [dHas_int]; simp [hk]
    have hf : dHas (ks.map D.int) (.int x) = false := by rw [dHas_int]; simp [hk]
    have po : ∀ f : List D → List D → Out, putOut true (ks.map D.int) vs (.int x) (.bl true) f = f ((ks ++ [x]).map D.int) (vs ++ [.bl true]) := fun f => by
      unfold putOut
      rw [if_pos (show D.isKey true (.int x) = true from rfl), hf, if_neg Bool.false_ne_true, if_pos (by rw [List.length_map]; show ks.length < 16777216; omega), List.map_append]
      rfl
    have fs := fcnt_snoc mv hk
    have fl := fcnt_le mv (ks ++ [x])
    have tget := tab_get mv x []
    have isd : (tabD mv).isDct = true := rfl
    have ln : (u.map D.int).length + ((tg mv x []).map D.int).length ≤ 16777216 := by rw [List.length_map, List.length_map]; omega
    have ln2 : u.length + (tg mv x []).length ≤ 16777216 := by omega
    refine ⟨ks ++ [x], vs ++ [.bl true], u ++ tg mv x [], x, ?_, ⟨?_, fun y hy => ?_, fun y hy => ?_, fun s hs => ?_, fun y hy t ht => ?_, ?_⟩, ?_⟩
    · simp (config := { implicitDefEqProofs := false }) [evS, evE, evL, borrow, binD, cmpD, onL, killG, ofOk, bindOk, atNext, atRet, atExc, truB, truI, intK, lenL, lenS, lenT, andK, orK, notK, addK, subK, modK, mulK, fdivK, powK, ltK, leK, eqK, run, runI, gamN, gamM, outR_next, outR_ret, outR_exc, outI_next, outI_exc, doneI, isiR, D.isi, tyD, isiD, D.isN, Mng.wf, evH, Out.mapG, bindX, noExn, endX, bClosureB, hl, hd, nh, onD, po, ho, g0, tget, isd, LINE, ln2]
    · rw [List.nodup_append]
      exact ⟨h.nd, by simp, fun a ha b hb => by rw [List.mem_singleton] at hb; subst hb; exact fun e => hk (e ▸ ha)⟩
    · rcases List.mem_append.mp hy with e | e
      · exact h.fr y e
      · rw [List.mem_singleton] at e; subst e; exact hxr
    · rcases List.mem_append.mp hy with e | e
      · exact h.wr y (List.mem_append_left _ e)
      · obtain ⟨s, h1, h2⟩ := hxr
        exact ⟨s, h1, h2.tail (mem_tg.mp e)⟩
    · rcases h.st s hs with e | e
      · exact .inl (List.mem_append_left _ e)
      · rcases List.mem_append.mp e with e | e
        · exact .inr (List.mem_append_left _ e)
        · exact .inl (List.mem_append_right _ e)
    · rcases List.mem_append.mp hy with e | e
      · rcases h.cl y e t ht with e2 | e2
        · exact .inl (List.mem_append_left _ e2)
        · rcases List.mem_append.mp e2 with e2 | e2
          · exact .inr (List.mem_append_left _ e2)
          · exact .inl (List.mem_append_right _ e2)
      · rw [List.mem_singleton] at e
        subst e
        exact .inr (List.mem_append_right _ (mem_tg.mpr ht))
    · show (u ++ tg mv x []).length ≤ S.length + fcnt mv (ks ++ [x])
      rw [List.length_append, fs]; omega
    · rw [List.length_append, List.length_append, fs, List.length_singleton]
      rw [fs] at fl
      omega
theorem r_closure (S0 : Std M) (hf : M.fn n0 = run M 5 bClosure) {o : D} {mv : List Mv} (ho : fldD M 7 o = .ok (tabD mv)) (hm : mv.length ≤ 1000000) {v : D} {S : List Int} (hv : v = .lst (S.map D.int) ∨ v = .tup (S.map D.int)) (hS : S.length ≤ 1000000) :
    M.fn n0 [o, v] = .ok (eI (clo mv S)) := by
  rw [hf]
  have hl : f1D .list v = .ok (.lst (S.map D.int)) := by rcases hv with rfl | rfl <;> rfl
  obtain ⟨p, q, hI, hcb⟩ := whileD_thru (St := List Int × List D × List Int) (fun p => [.val o, .val v, .ownD true (p.1.map D.int) p.2.1, .ownL (p.2.2.map D.int), .dead]) (CloI mv S) (fun p => p.2.2.length + (mv.length - fcnt mv p.1)) (fun p => !p.2.2.isEmpty) (kl := [4])
    (c := fun Γ' => (evE M cWait Γ').bind truD) (body := evS M bClosureB) (fun p _ => by
      obtain ⟨ks, vs, w⟩ := p
      cases w with
      | nil => simp (config := { implicitDefEqProofs := false }) [evS, evE, evL, borrow, binD, cmpD, onL, killG, ofOk, bindOk, atNext, atRet, atExc, truB, truI, intK, lenL, lenS, lenT, andK, orK, notK, addK, subK, modK, mulK, fdivK, powK, ltK, leK, eqK, run, runI, gamN, gamM, outR_next, outR_ret, outR_exc, outI_next, outI_exc, doneI, isiR, D.isi, tyD, isiD, D.isN, Mng.wf, evH, Out.mapG, bindX, noExn, endX, cWait]
      | cons x w =>
        have : (0 : Int) < (w.length : Int) + 1 := by omega
        simp (config := { implicitDefEqProofs := false }) [evS, evE, evL, borrow, binD, cmpD, onL, killG, ofOk, bindOk, atNext, atRet, atExc, truB, truI, intK, lenL, lenS, lenT, andK, orK, notK, addK, subK, modK, mulK, fdivK, powK, ltK, leK, eqK, run, runI, gamN, gamM, outR_next, outR_ret, outR_exc, outI_next, outI_exc, doneI, isiR, D.isi, tyD, isiD, D.isN, Mng.wf, evH, Out.mapG, bindX, noExn, endX, cWait, this])
    (fun p hI hc => by
      obtain ⟨ks, vs, w⟩ := p
      obtain ⟨ks', vs', w', x, h1, h2, h3⟩ := clo_body (a := .val v) S0 ho hS hm hI (fun e => by subst e; cases hc)
      exact ⟨(ks', vs', w'), _, .inl h1, rfl, h2, h3⟩)
    FUEL [.val o, .val v, .ownD true [] [], .ownL (S.map D.int), .dead] ([], [], S) rfl ⟨List.nodup_nil, fun x h => (by cases h), fun x h => ⟨x, h, .refl x⟩, fun s hs => .inr hs, fun x h => (by cases h), Nat.le_add_right _ _⟩
    (by show S.length + (mv.length - fcnt mv []) < 18446744073709551616; omega)
  obtain ⟨ks, vs, w⟩ := p
  have hw : w = [] := by simpa using hcb
  subst hw
  have st : f1D .sorted (.dict true (ks.map D.int) vs) = .ok (.lst ((clo mv S).map D.int)) := by
    show (if oneShp (ks.map D.int) then R.ok (D.lst (srtD (ks.map D.int))) else .bad) = _
    rw [one_int, if_pos rfl, srtD_norm hI.nd, hI.all]
  simp (config := { implicitDefEqProofs := false }) [evS, evE, evL, borrow, binD, cmpD, onL, killG, ofOk, bindOk, atNext, atRet, atExc, truB, truI, intK, lenL, lenS, lenT, andK, orK, notK, addK, subK, modK, mulK, fdivK, powK, ltK, leK, eqK, run, runI, gamN, gamM, outR_next, outR_ret, outR_exc, outI_next, outI_exc, doneI, isiR, D.isi, tyD, isiD, D.isN, Mng.wf, evH, Out.mapG, bindX, noExn, endX, bClosure, hl, q, frzG, st, tupL, eI]
end
end G
namespace G
open PySem L2
def ruleO (c : Nat) (s : List Nat) (ns : List (List Nat)) (mv : List Mv) (en : List Int) : D := ruleC c s ns (mv.map eMv) (en.map D.int)
structure RuleOk (s : List Nat) (ns : List (List Nat)) (mv : List Mv) (en : List Int) : Prop where
  al : isAlph s = true
  nm : areNames2 (ns.map D.str) = true
  lm : mv.length ≤ 100000
  le : en.length ≤ 100000
theorem RuleOk.ls {s : List Nat} {ns : List (List Nat)} {mv : List Mv} {en : List Int} (h : RuleOk s ns mv en) : s.length ≤ 3 := by
  have := h.al
  unfold isAlph at this
  rw [Bool.and_eq_true] at this
  exact (isWord_le this.1).1
theorem RuleOk.ln {s : List Nat} {ns : List (List Nat)} {mv : List Mv} {en : List Int} (h : RuleOk s ns mv en) : ns.length ≤ 2 ∧ 1 ≤ ns.length ∧ ∀ n ∈ ns, n.length ≤ 8 ∧ n.all lowc = true := by
  obtain ⟨ns', e, h2, h3⟩ := names_str h.nm
  have : ns' = ns := (map_inj (fun a b e => by injection e) e).symm
  subst this
  have h1 := h.nm
  unfold areNames2 at h1
  simp only [Bool.and_eq_true, decide_eq_true_eq, List.length_map] at h1
  exact ⟨h2, h1.1.1.1, h3⟩
theorem RuleOk.isK {s : List Nat} {ns : List (List Nat)} {mv : List Mv} {en : List Int} (h : RuleOk s ns mv en) : IsK (ruleK s ns (mv.map eMv) (en.map D.int)) s ns mv := ⟨⟨_, rfl⟩, h.ls, h.ln.1, h.lm⟩
structure PMach (M : Mng) (cs : List Nat) : Prop where
  std : Std M
  memo : M.memo = memoR
  fl : ∀ c ∈ cs, M.flds c = [3, 4, 5, 6, 7, 8]
  clo : M.fn 48 = run M 5 bClosure
  clo' : M.fn 49 = methS cs (M.fn 48)
  stp : M.fn 50 = run M 5 bStep
  stp' : M.fn 51 = methS cs (M.fn 50)
theorem methS_in {cs : List Nat} {c : Nat} (h : c ∈ cs) (sem : List D → R D) (l ds : List D) : methS cs sem (.obj c l :: ds) = sem (.obj c l :: ds) := by
  have hh : cs.contains c = true := by rw [List.contains_eq_mem, decide_eq_true_eq]; exact h
  exact if_pos hh
section
variable {M : Mng} {cs : List Nat} {n0 : Nat} {c : Nat} {s : List Nat} {ns : List (List Nat)} {mv : List Mv} {en : List Int}
theorem f_tab (P : PMach M cs) (hc : c ∈ cs) : fldD M 7 (ruleO c s ns mv en) = .ok (tabD mv) := by unfold ruleO ruleC; rw [fldO, P.fl c hc]; rfl
theorem f_kno (P : PMach M cs) (hc : c ∈ cs) : fldD M 8 (ruleO c s ns mv en) = .ok (.cache (ruleK s ns (mv.map eMv) (en.map D.int))) := by unfold ruleO ruleC; rw [fldO, P.fl c hc]; rfl
theorem r_closure' (P : PMach M cs) (hc : c ∈ cs) (hm : mv.length ≤ 1000000) {v : D} {S : List Int} (hv : v = .lst (S.map D.int) ∨ v = .tup (S.map D.int)) (hS : S.length ≤ 1000000) : M.fn 49 [ruleO c s ns mv en, v] = .ok (eI (G.clo mv S)) := by
  rw [P.clo', show ruleO c s ns mv en = .obj c _ from rfl, methS_in hc]
  exact r_closure P.std P.clo (f_tab P hc) hm hv hS
def tgs (mv : List Mv) (S : List Int) (a : Sg) : List Int := S.flatMap fun x => tg mv x a
theorem clo_tgs (S : List Int) (a : Sg) : G.clo mv (tgs mv S a) = G.stp mv S a := asc_uniq (asc_clo _) (asc_stp _ _) fun x => by
  rw [mem_clo, mem_stp]
  constructor
  · rintro ⟨u, hu, hr⟩
    obtain ⟨y, hy, hu⟩ := List.mem_flatMap.mp hu
    exact ⟨y, hy, u, mem_tg.mp hu, hr⟩
  · rintro ⟨y, hy, u, hu, hr⟩
    exact ⟨u, List.mem_flatMap.mpr ⟨y, hy, mem_tg.mpr hu⟩, hr⟩
theorem tgs_len {S : List Int} (h : S.Nodup) (a : Sg) : (tgs mv S a).length ≤ mv.length := by
  have key : ∀ S : List Int, S.Nodup → (tgs mv S a).length = (mv.filter fun m => decide (m.s ∈ S ∧ m.a = a)).length := by
    intro S
    induction S with
    | nil => intro _; unfold tgs; simp [List.filter_eq_nil_iff.mpr]
    | cons x S ih =>
      intro hn
      rw [List.nodup_cons] at hn
      show (tg mv x a ++ tgs mv S a).length = _
      rw [List.length_append, ih hn.2]
      unfold tg
      rw [List.length_map]
      refine (filt_split (fun m => ?_) fun m hm => ?_).symm
      · rw [Bool.eq_iff_iff, Bool.or_eq_true, decide_eq_true_iff, decide_eq_true_iff, decide_eq_true_iff, List.mem_cons]
        constructor
        · rintro ⟨h1 | h1, h2⟩
          · exact .inl ⟨h1, h2⟩
          · exact .inr ⟨h1, h2⟩
        · rintro (⟨h1, h2⟩ | ⟨h1, h2⟩)
          · exact ⟨.inl h1, h2⟩
          · exact ⟨.inr h1, h2⟩
      · simp only [decide_eq_true_eq] at hm
        obtain ⟨⟨h1, _⟩, h2, _⟩ := hm
        rw [h1] at h2
        exact hn.1 h2
  rw [key S h]
  exact List.length_filter_le _ _
theorem step_loop (P : PMach M cs) (hc : c ∈ cs) (hm : mv.length ≤ 100000) (a : Sg) (x1 : Cell) : ∀ (S acc : List Int) (x : Cell), (acc ++ tgs mv S a).length ≤ 1000000 →
    forD [4] [4] (evS M bStepB) (S.map D.int) [.val (ruleO c s ns mv en), x1, .val (.str a), .ownL (acc.map D.int), x] = .next [.val (ruleO c s ns mv en), x1, .val (.str a), .ownL ((acc ++ tgs mv S a).map D.int), .dead]
  | [], acc, x, _ => by simp [forD, killG, tgs]
  | t :: S, acc, x, hl => by
    have ft := f_tab (s := s) (ns := ns) (mv := mv) (en := en) P hc
    have tget := tab_get mv t a
    have isd : (tabD mv).isDct = true := rfl
    have hl' : ((acc ++ tg mv t a) ++ tgs mv S a).length ≤ 1000000 := by rw [List.append_assoc]; exact hl
    have ln : acc.length + (tg mv t a).length ≤ 16777216 := by rw [List.length_append, List.length_append] at hl'; omega
    have e : evS M bStepB [.val (ruleO c s ns mv en), x1, .val (.str a), .ownL (acc.map D.int), .val (.int t)] = .next [.val (ruleO c s ns mv en), x1, .val (.str a), .ownL ((acc ++ tg mv t a).map D.int), .val (.int t)] := by
      simp (config := { implicitDefEqProofs := false }) [evS, evE, evL, borrow, binD, cmpD, onL, killG, ofOk, bindOk, atNext, atRet, atExc, truB, truI, intK, lenL, lenS, lenT, andK, orK, notK, addK, subK, modK, mulK, fdivK, powK, ltK, leK, eqK, run, runI, gamN, gamM, outR_next, outR_ret, outR_exc, outI_next, outI_exc, doneI, isiR, D.isi, tyD, isiD, D.isN, Mng.wf, evH, Out.mapG, bindX, noExn, endX, bStepB, ft, tget, isd, LINE, ln]
    have ih := step_loop P hc hm a x1 S (acc ++ tg mv t a) (.val (.int t)) hl'
    rw [List.map_cons, forD]
    show Out.of _ (.ok [.val (ruleO c s ns mv en), x1, .val (.str a), .ownL (acc.map D.int), .val (.int t)]) _ = _
    rw [ofOk, e]
    show forD _ _ _ _ _ = _
    rw [ih]
    simp [tgs]
theorem same_refl (d : D) : d.same d = true := D.same_iff.mpr rfl
theorem r_step (P : PMach M cs) (hc : c ∈ cs) (ok : RuleOk s ns mv en) {S : List Int} {a : Sg} (ha : a ∈ sgsOf s ns) (hS : S ∈ domL (sgsOf s ns) mv) (hn : S.Nodup) : M.fn 51 [ruleO c s ns mv en, eI S, .str a] = .ok (eI (G.stp mv S a)) := by
  rw [P.stp', show ruleO c s ns mv en = .obj c _ from rfl, methS_in hc, P.stp]
  have tl := tgs_len (mv := mv) hn a
  have lm := ok.lm
  have fk := f_kno (s := s) (ns := ns) (mv := mv) (en := en) P hc
  have loop := step_loop (M := M) (s := s) (ns := ns) (en := en) P hc ok.lm a (.val (eI S)) S [] .dead (by rw [List.nil_append]; omega)
  have cl : M.fn 49 [ruleO c s ns mv en, .lst ((tgs mv S a).map D.int)] = .ok (eI (G.stp mv S a)) := by rw [r_closure' P hc (by omega) (.inl rfl) (by omega), clo_tgs]
  have mm : M.memo (ruleK s ns (mv.map eMv) (en.map D.int)) (.tup [eI S, .str a]) = some (eI (G.stp mv S a)) := by
    rw [P.memo]
    exact memoR_val ⟨s, ns, ok.isK, ha, hS⟩
  have kk : D.isKey false (.tup [eI S, .str a]) = true := keyD_key S a
  have wd : walkD false (eI S) = .ok (S.map D.int) := rfl
  have body : evS M bStepM [.val (ruleO c s ns mv en), .val (eI S), .val (.str a), .dead, .dead] = .next [.val (ruleO c s ns mv en), .val (eI S), .val (.str a), .val (.lst ((tgs mv S a).map D.int)), .dead] := by
    simp only [List.map_nil, List.nil_append] at loop
    simp (config := { implicitDefEqProofs := false }) [evS, evE, evL, borrow, binD, cmpD, onL, killG, ofOk, bindOk, atNext, atRet, atExc, truB, truI, intK, lenL, lenS, lenT, andK, orK, notK, addK, subK, modK, mulK, fdivK, powK, ltK, leK, eqK, run, runI, gamN, gamM, outR_next, outR_ret, outR_exc, outI_next, outI_exc, doneI, isiR, D.isi, tyD, isiD, D.isN, Mng.wf, evH, Out.mapG, bindX, noExn, endX, bStepM, wd, loop, frzG]
  have e1 : fldD M 8 (.obj c [.str s, .tup (ns.map D.str), .tup (mv.map eMv), .tup (en.map D.int), .dict false (tabOf (mv.map eMv)).1 (tabOf (mv.map eMv)).2, .cache (ruleK s ns (mv.map eMv) (en.map D.int))]) = .ok (.cache (ruleK s ns (mv.map eMv) (en.map D.int))) := fk
  show run M 5 bStep [ruleO c s ns mv en, eI S, .str a] = _
  show outR (evS M bStep [.val (ruleO c s ns mv en), .val (eI S), .val (.str a), .dead, .dead]) = _
  have xe : ∀ y : Cell, evE M (.tup (.cons (.var 1) (.cons (.var 2) .nil))) [.val (ruleO c s ns mv en), .val (eI S), .val (.str a), y, .dead] = .ok (.tup [eI S, .str a]) := fun y => by simp (config := { implicitDefEqProofs := false }) [evS, evE, evL, borrow, binD, cmpD, onL, killG, ofOk, bindOk, atNext, atRet, atExc, truB, truI, intK, lenL, lenS, lenT, andK, orK, notK, addK, subK, modK, mulK, fdivK, powK, ltK, leK, eqK, run, runI, gamN, gamM, outR_next, outR_ret, outR_exc, outI_next, outI_exc, doneI, isiR, D.isi, tyD, isiD, D.isN, Mng.wf, evH, Out.mapG, bindX, noExn, endX, LINE]
  have ve : evE M (.calm 49 (.cons (.var 0) (.cons (.var 3) .nil))) [.val (ruleO c s ns mv en), .val (eI S), .val (.str a), .val (.lst ((tgs mv S a).map D.int)), .dead] = .ok (eI (G.stp mv S a)) := by
    show ((R.ok [ruleO c s ns mv en, .lst ((tgs mv S a).map D.int)]).noexc.bind fun ds => M.fn 49 ds) = _
    exact cl
  have ev0 : evS M bStep [.val (ruleO c s ns mv en), .val (eI S), .val (.str a), .dead, .dead] = .ret (eI (G.stp mv S a)) := by
    unfold bStep
    rw [evS]
    show (match fldD M 8 (ruleO c s ns mv en) with | .ok (.cache m) => _ | _ => _) = _
    rw [fk]
    show Out.of _ (evE M _ _) _ = _
    rw [xe, ofOk, if_pos kk, body]
    show (match (some (Cell.val (ruleO c s ns mv en))), evE M _ _, evE M _ _ with | some (.val (.obj c' l')), .ok y', .ok d => _ | _, _, _ => _) = _
    rw [xe, ve]
    show (if c = c ∧ _ ∧ _ ∧ _ then (match fldD M 8 (ruleO c s ns mv en) with | .ok (.cache m') => _ | _ => _) else _) = _
    rw [if_pos ⟨rfl, rfl, rfl, kk⟩, fk]
    dsimp only
    rw [mm]
    dsimp only
    rw [same_refl, same_refl]
    rfl
  rw [ev0]
  rfl
theorem asc_univ (mv : List Mv) : Asc (univ mv) := asc_norm _
theorem dom_small {sg : List Sg} (h : (univ mv).length ≤ 20) (w : List Sg) : aft mv w ∈ domL sg mv := by
  unfold domL
  rw [if_pos h]
  exact List.mem_append_left _ (mem_subsA (asc_univ mv) (asc_aft w) fun x hx => aft_univ hx)
theorem r_aft0 (P : PMach M cs) (hc : c ∈ cs) (ok : RuleOk s ns mv en) : M.fn 49 [ruleO c s ns mv en, .lst [.int 0]] = .ok (eI (aft mv [])) := by
  have lm := ok.lm
  exact r_closure' P hc (by omega) (S := [0]) (.inl rfl) (by decide)
theorem aft_loop (P : PMach M cs) (hc : c ∈ cs) (ok : RuleOk s ns mv en) (x1 : Cell) : ∀ (w p : List Sg) (x : Cell), (∀ a ∈ w, a ∈ sgsOf s ns) → (∀ q a r, w = q ++ a :: r → aft mv (p ++ q) ∈ domL (sgsOf s ns) mv) →
    forD [3] [3] (evS M bAfterB) (w.map D.str) [.val (ruleO c s ns mv en), x1, .val (eI (aft mv p)), x] = .next [.val (ruleO c s ns mv en), x1, .val (eI (aft mv (p ++ w))), .dead]
  | [], p, x, _, _ => by simp [forD, killG]
  | a :: w, p, x, ha, hd => by
    have st := r_step (c := c) P hc ok (ha a List.mem_cons_self) (by have := hd [] a w rfl; rwa [List.append_nil] at this) (asc_nodup (asc_aft p))
    have e : evS M bAfterB [.val (ruleO c s ns mv en), x1, .val (eI (aft mv p)), .val (.str a)] = .next [.val (ruleO c s ns mv en), x1, .val (eI (aft mv (p ++ [a]))), .val (.str a)] := by
      rw [aft_snoc]
      simp (config := { implicitDefEqProofs := false }) [evS, evE, evL, borrow, binD, cmpD, onL, killG, ofOk, bindOk, atNext, atRet, atExc, truB, truI, intK, lenL, lenS, lenT, andK, orK, notK, addK, subK, modK, mulK, fdivK, powK, ltK, leK, eqK, run, runI, gamN, gamM, outR_next, outR_ret, outR_exc, outI_next, outI_exc, doneI, isiR, D.isi, tyD, isiD, D.isN, Mng.wf, evH, Out.mapG, bindX, noExn, endX, bAfterB, st, noexcOk]
    have ih := aft_loop P hc ok x1 w (p ++ [a]) (.val (.str a)) (fun b hb => ha b (List.mem_cons_of_mem _ hb)) (fun q b r e => by
      rw [List.append_assoc]
      exact hd (a :: q) b r (by rw [e]; rfl))
    rw [List.map_cons, forD]
    show Out.of _ (.ok [.val (ruleO c s ns mv en), x1, .val (eI (aft mv p)), .val (.str a)]) _ = _
    rw [ofOk, e]
    show forD _ _ _ _ _ = _
    rw [ih, List.append_assoc]
    rfl
theorem r_after (P : PMach M cs) (hf : M.fn n0 = run M 4 bAfter) (hc : c ∈ cs) (ok : RuleOk s ns mv en) {v : D} {w : List Sg} (hv : v = .lst (w.map D.str) ∨ v = .tup (w.map D.str)) (hw : ∀ a ∈ w, a ∈ sgsOf s ns) (hd : ∀ q a r, w = q ++ a :: r → aft mv q ∈ domL (sgsOf s ns) mv) :
    M.fn n0 [ruleO c s ns mv en, v] = .ok (eI (aft mv w)) := by
  rw [hf]
  have a0 := r_aft0 (c := c) P hc ok
  have loop := aft_loop P hc ok (.val v) w [] .dead hw (fun q a r e => by rw [List.nil_append]; exact hd q a r e)
  have wd : walkD false v = .ok (w.map D.str) := by rcases hv with rfl | rfl <;> rfl
  rw [List.nil_append] at loop
  simp (config := { implicitDefEqProofs := false }) [evS, evE, evL, borrow, binD, cmpD, onL, killG, ofOk, bindOk, atNext, atRet, atExc, truB, truI, intK, lenL, lenS, lenT, andK, orK, notK, addK, subK, modK, mulK, fdivK, powK, ltK, leK, eqK, run, runI, gamN, gamM, outR_next, outR_ret, outR_exc, outI_next, outI_exc, doneI, isiR, D.isi, tyD, isiD, D.isN, Mng.wf, evH, Out.mapG, bindX, noExn, endX, bAfter, a0, noexcOk, wd, loop, LINE]
theorem any_eqv (l : List Int) (x : Int) : ((l.map D.int).any fun y => y.eqv (.int x)) = decide (x ∈ l) := by
  rw [List.any_map, Bool.eq_iff_iff, List.any_eq_true, decide_eq_true_iff]
  constructor
  · rintro ⟨y, hy, h⟩
    have h : (y == x) = true := h
    rw [beq_iff_eq] at h
    subst h; exact hy
  · intro h
    exact ⟨x, h, by show (x == x) = true; simp⟩
theorem inL_int (l : List Int) (x : Int) : inD (.int x) (.lst (l.map D.int)) = .ok (decide (x ∈ l)) := by
  show (if (D.int x).flat 60 && D.flatL 60 (l.map D.int) then R.ok _ else .bad) = _
  rw [flatL_int, any_eqv]; rfl
def bEndsInB : Sm :=
  (.ifs (.cmp .isin (.var 2) (.fld 6 (.var 0)))
  (.ret (.bl true))
  .nil
  .nil)
def bEndsIn : Sm :=
  (.loop [2] [2] false (.var 1)
  bEndsInB
  (.ret (.bl false)))
end
end G
namespace G
open PySem L2
def abc : List Nat := [97, 98, 99, 100, 101, 102, 103, 104, 105, 106, 107, 108, 109, 110, 111, 112, 113, 114, 115, 116, 117, 118, 119, 120, 121, 122]
def bLetters : Sm :=
  (.asg 2 (.str [97, 98, 99, 100, 101, 102, 103, 104, 105, 106, 107, 108, 109, 110, 111, 112, 113, 114, 115, 116, 117, 118, 119, 120, 121, 122])
  (.asg 3 (.bin .mod (.f1 .int (.item (.var 0) (.var 1))) (.int 24))
  (.asg 4 (.bin .add (.bin .add (.var 3) (.int 1)) (.bin .mod (.f1 .int (.bin .fdiv (.item (.var 0) (.var 1)) (.int 24))) (.bin .sub (.int 24) (.var 3))))
  (.asg 5 (.bin .add (.bin .add (.var 4) (.int 1)) (.bin .mod (.f1 .int (.bin .fdiv (.item (.var 0) (.bin .add (.var 1) (.int 1))) (.int 4))) (.bin .sub (.int 25) (.var 4))))
  (.asg 6 (.bin .add (.bin .add (.item (.var 2) (.var 3)) (.item (.var 2) (.var 4))) (.item (.var 2) (.var 5)))
  (.asg 7 (.bin .mod (.f1 .int (.item (.var 0) (.bin .add (.var 1) (.int 1)))) (.int 4))
  (.ifs (.cmp .eq (.var 7) (.int 0))
  (.ret (.slice (.var 6) .nil (.int 2)))
  .nil
  (.ifs (.cmp .eq (.var 7) (.int 1))
  (.ret (.slice (.var 6) (.int 1) .nil))
  .nil
  (.ifs (.cmp .eq (.var 7) (.int 2))
  (.ret (.bin .add (.item (.var 6) (.int 0)) (.item (.var 6) (.int 2))))
  .nil
  (.ret (.var 6)))))))))))
def bWordL : Sm :=
  (.asg 5 (.item (.var 0) (.bin .add (.bin .add (.var 1) (.int 1)) (.bin .fdiv (.var 4) (.int 2))))
  (.ifs (.cmp .eq (.bin .mod (.f1 .int (.var 4)) (.int 2)) (.int 1))
  (.asg 5 (.bin .fdiv (.var 5) (.int 26))
  .nil)
  .nil
  (.asg 3 (.bin .add (.var 3) (.item (.var 2) (.bin .mod (.f1 .int (.var 5)) (.int 26))))
  .nil)))
def bWord : Sm :=
  (.asg 2 (.str [97, 98, 99, 100, 101, 102, 103, 104, 105, 106, 107, 108, 109, 110, 111, 112, 113, 114, 115, 116, 117, 118, 119, 120, 121, 122])
  (.asg 3 (.str [])
  (.loop [4] [4, 5] true (.cons (.bin .add (.int 1) (.bin .mod (.f1 .int (.item (.var 0) (.var 1))) (.int 8))) .nil)
  bWordL
  (.ret (.var 3)))))
def bNames : Sm :=
  (.asgO 2 (.lst (.cons (.call 19 (.cons (.var 0) (.cons (.var 1) .nil))) .nil))
  (.ifs (.cmp .eq (.bin .mod (.f1 .int (.bin .fdiv (.item (.var 0) (.var 1)) (.int 8))) (.int 2)) (.int 1))
  (.asg 3 (.call 19 (.cons (.var 0) (.cons (.bin .add (.var 1) (.int 5)) .nil)))
  (.ifs (.cmp .eq (.var 3) (.item (.var 2) (.int 0)))
  (.asg 3 (.str [120])
  .nil)
  .nil
  (.ifs (.cmp .eq (.var 3) (.item (.var 2) (.int 0)))
  (.asg 3 (.str [121])
  .nil)
  .nil
  (.app 2 (.var 3)
  .nil))))
  .nil
  (.frz 2 (.ret (.var 2)))))
def bMarksL : Sm :=
  (.asgO 1 (.lst .nil)
  (.loop [2] [2] false (.var 0)
  bMarksB
  (.frz 1 (.ret (.var 1)))))
section
variable {M : Mng} {n0 : Nat}
def Drw (l : List Int) : Prop := ∀ d ∈ l, 0 ≤ d ∧ d < 5040
theorem Drw.bd {l : List Int} (h : Drw l) {p : Nat} (hp : p < l.length) : 0 ≤ l[p]! ∧ l[p]! < 5040 := by
  refine h _ (List.mem_of_getElem? (i := p) ?_)
  rw [List.getElem?_eq_getElem hp, List.getElem!_eq_getElem?_getD, List.getElem?_eq_getElem hp]
  rfl
theorem abc_at {i : Int} (h0 : 0 ≤ i) (h1 : i < 26) : itemD (.str abc) (.int i) = .ok (.str [97 + i.toNat]) := by
  obtain ⟨n, rfl⟩ : ∃ n : Nat, i = (n : Int) := ⟨i.toNat, by omega⟩
  have hn : n < 26 := by omega
  have a1 : atI abc (n : Int) = some (97 + n) := by
    rw [atI_nat]
    have : ∀ n : Fin 26, abc[n.val]? = some (97 + n.val) := by decide
    exact this ⟨n, hn⟩
  show (if (abc.length ≤ LINE) then (match atI abc (n : Int) with | some c => R.ok (D.str [c]) | none => .bad) else .bad) = _
  rw [a1]
  rfl
theorem r_letters (hf : M.fn n0 = run M 8 bLetters) {l : List Int} (hb : Drw l) {p : Nat} (hp : p + 1 < l.length) : ∃ s, M.fn n0 [.lst (l.map D.int), .int p] = .ok (.str s) ∧ isAlph s = true := by
  rw [hf]
  have b0 := hb.bd (p := p) (by omega)
  have b1 := hb.bd (p := p + 1) hp
  have i0 := r_at (l := l) (p := p) (by omega)
  have i1 : itemD (.lst (l.map D.int)) (.int ((p : Int) + 1)) = .ok (.int l[p + 1]!) := r_at (l := l) (p := p + 1) hp
  generalize l[p]! = d0 at *
  generalize l[p + 1]! = d1 at *
  have hm : 0 ≤ d0 % 24 ∧ d0 % 24 < 24 := by omega
  have h24 : 0 < 24 - d0 % 24 := by omega
  have hq : 0 ≤ d0 / 24 % (24 - d0 % 24) ∧ d0 / 24 % (24 - d0 % 24) < 24 - d0 % 24 := ⟨Int.emod_nonneg _ (by omega), Int.emod_lt_of_pos _ h24⟩
  have m1 := modK (d0 / 24) (24 - d0 % 24) h24
  generalize hx : d0 % 24 = x at *
  generalize d0 / 24 % (24 - x) = u at *
  have h25 : 0 < 25 - (x + 1 + u) := by omega
  have hr : 0 ≤ d1 / 4 % (25 - (x + 1 + u)) ∧ d1 / 4 % (25 - (x + 1 + u)) < 25 - (x + 1 + u) := ⟨Int.emod_nonneg _ (by omega), Int.emod_lt_of_pos _ h25⟩
  have m2 := modK (d1 / 4) (25 - (x + 1 + u)) h25
  generalize d1 / 4 % (25 - (x + 1 + u)) = v at *
  have A := abc_at (i := x) (by omega) (by omega)
  have Bq := abc_at (i := x + 1 + u) (by omega) (by omega)
  have Cq := abc_at (i := x + 1 + u + 1 + v) (by omega) (by omega)
  generalize ha : 97 + x.toNat = a at *
  generalize hbb : 97 + (x + 1 + u).toNat = b at *
  generalize hcc : 97 + (x + 1 + u + 1 + v).toNat = c at *
  have hab : 97 ≤ a ∧ a < b ∧ b < c ∧ c ≤ 122 := by omega
  have m0 : modD (.int d0) (.int 24) = .ok (.int x) := by rw [modK _ _ (by omega), hx]
  have al2 : ∀ y z : Nat, 97 ≤ y → y < z → z ≤ 122 → isAlph [y, z] = true := fun y z h1 h2 h3 => by
    unfold isAlph isWord lowc
    simp
    omega
  have al3 : isAlph [a, b, c] = true := by
    unfold isAlph isWord lowc
    simp
    omega
  have s1 : addD (.str [a]) (.str [b]) = .ok (.str [a, b]) := rfl
  have s2 : addD (.str [a, b]) (.str [c]) = .ok (.str [a, b, c]) := rfl
  have s3 : addD (.str [a]) (.str [c]) = .ok (.str [a, c]) := rfl
  have t0 : itemD (.str [a, b, c]) (.int 0) = .ok (.str [a]) := rfl
  have t2 : itemD (.str [a, b, c]) (.int 2) = .ok (.str [c]) := rfl
  have e1 : sliceD (.str [a, b, c]) none (some 2) = .ok (.str [a, b]) := rfl
  have e2 : sliceD (.str [a, b, c]) (some 1) none = .ok (.str [b, c]) := rfl
  have h4 : d1 % 4 = 0 ∨ d1 % 4 = 1 ∨ d1 % 4 = 2 ∨ d1 % 4 = 3 := by omega
  have ee : abc = [97, 98, 99, 100, 101, 102, 103, 104, 105, 106, 107, 108, 109, 110, 111, 112, 113, 114, 115, 116, 117, 118, 119, 120, 121, 122] := rfl
  rw [ee] at A Bq Cq
  rcases h4 with h | h | h | h
  · refine ⟨[a, b], ?_, al2 a b (by omega) (by omega) (by omega)⟩
    simp (config := { implicitDefEqProofs := false }) [evS, evE, evL, borrow, binD, cmpD, onL, killG, ofOk, bindOk, atNext, atRet, atExc, truB, truI, intK, lenL, lenS, lenT, andK, orK, notK, addK, subK, modK, mulK, fdivK, powK, ltK, leK, eqK, run, runI, gamN, gamM, outR_next, outR_ret, outR_exc, outI_next, outI_exc, doneI, isiR, D.isi, tyD, isiD, D.isN, Mng.wf, evH, Out.mapG, bindX, noExn, endX, bLetters, i0, i1, m0, m1, m2, A, Bq, Cq, s1, s2, h, part, partD, e1]
  · refine ⟨[b, c], ?_, al2 b c (by omega) (by omega) (by omega)⟩
    simp (config := { implicitDefEqProofs := false }) [evS, evE, evL, borrow, binD, cmpD, onL, killG, ofOk, bindOk, atNext, atRet, atExc, truB, truI, intK, lenL, lenS, lenT, andK, orK, notK, addK, subK, modK, mulK, fdivK, powK, ltK, leK, eqK, run, runI, gamN, gamM, outR_next, outR_ret, outR_exc, outI_next, outI_exc, doneI, isiR, D.isi, tyD, isiD, D.isN, Mng.wf, evH, Out.mapG, bindX, noExn, endX, bLetters, i0, i1, m0, m1, m2, A, Bq, Cq, s1, s2, h, part, partD, e2]
  · refine ⟨[a, c], ?_, al2 a c (by omega) (by omega) (by omega)⟩
    simp (config := { implicitDefEqProofs := false }) [evS, evE, evL, borrow, binD, cmpD, onL, killG, ofOk, bindOk, atNext, atRet, atExc, truB, truI, intK, lenL, lenS, lenT, andK, orK, notK, addK, subK, modK, mulK, fdivK, powK, ltK, leK, eqK, run, runI, gamN, gamM, outR_next, outR_ret, outR_exc, outI_next, outI_exc, doneI, isiR, D.isi, tyD, isiD, D.isN, Mng.wf, evH, Out.mapG, bindX, noExn, endX, bLetters, i0, i1, m0, m1, m2, A, Bq, Cq, s1, s2, h, t0, t2, s3]
  · refine ⟨[a, b, c], ?_, al3⟩
    simp (config := { implicitDefEqProofs := false }) [evS, evE, evL, borrow, binD, cmpD, onL, killG, ofOk, bindOk, atNext, atRet, atExc, truB, truI, intK, lenL, lenS, lenT, andK, orK, notK, addK, subK, modK, mulK, fdivK, powK, ltK, leK, eqK, run, runI, gamN, gamM, outR_next, outR_ret, outR_exc, outI_next, outI_exc, doneI, isiR, D.isi, tyD, isiD, D.isN, Mng.wf, evH, Out.mapG, bindX, noExn, endX, bLetters, i0, i1, m0, m1, m2, A, Bq, Cq, s1, s2, h]
theorem r_word (hf : M.fn n0 = run M 6 bWord) {l : List Int} (hb : Drw l) {p : Nat} (hp : p + 4 < l.length) : ∃ s, M.fn n0 [.lst (l.map D.int), .int p] = .ok (.str s) ∧ 1 ≤ s.length ∧ s.length ≤ 8 ∧ s.all lowc = true := by
  rw [hf]
  have b0 := hb.bd (p := p) (by omega)
  have i0 := r_at (l := l) (p := p) (by omega)
  generalize l[p]! = d0 at b0 i0
  obtain ⟨n, hn, hn1, hn2⟩ : ∃ n : Nat, (n : Int) = 1 + d0 % 8 ∧ 1 ≤ n ∧ n ≤ 8 := ⟨(1 + d0 % 8).toNat, by omega, by omega, by omega⟩
  have wd : walkD true (.tup [.int (1 + d0 % 8)]) = .ok ((List.range n).map fun k => D.int (k : Nat)) := by
    rw [← hn]
    have hc : -4611686018427387904 ≤ (n : Int) ∧ (n : Int) < 4611686018427387904 := by omega
    have e0 : walkD true (.tup [.int (n : Int)]) = (if -4611686018427387904 ≤ (n : Int) ∧ (n : Int) < 4611686018427387904 then R.ok ((List.range (n : Int).toNat).map fun k => D.int (k : Nat)) else .bad) := by simp only [walkD, if_true]
    rw [e0, if_pos hc, Int.toNat_natCast]
  obtain ⟨w, q, hw⟩ := forD_thru (tg := [4]) (kl := [4, 5]) (body := evS M bWordL) (fun w : List Nat => [.val (.lst (l.map D.int)), .val (.int p), .val (.str abc), .val (.str w), .dead, .dead]) ((List.range n).map fun k => D.int (k : Nat)) (fun i w => w.length = i ∧ w.all lowc = true)
    (Γ := [.val (.lst (l.map D.int)), .val (.int p), .val (.str abc), .val (.str []), .dead, .dead]) (s0 := []) rfl ⟨rfl, rfl⟩ (fun i w d hd ⟨hl, ha⟩ => by
      have hi : i < n := by
        have := (List.getElem?_eq_some_iff.mp hd).1
        simpa using this
      have ed : d = .int (i : Nat) := by
        rw [List.getElem?_map, List.getElem?_range hi] at hd
        cases hd; rfl
      subst ed
      have i1 : itemD (.lst (l.map D.int)) (.int ((p : Int) + 1 + (i : Int) / 2)) = .ok (.int l[p + 1 + i / 2]!) := by
        have := r_at (l := l) (p := p + 1 + i / 2) (by omega)
        rw [show ((p + 1 + i / 2 : Nat) : Int) = (p : Int) + 1 + (i : Int) / 2 by omega] at this
        exact this
      have b1 := hb.bd (p := p + 1 + i / 2) (by omega)
      generalize l[p + 1 + i / 2]! = d1 at *
      have A1 := abc_at (i := d1 % 26) (by omega) (by omega)
      have A2 := abc_at (i := d1 / 26 % 26) (by omega) (by omega)
      have ee : abc = [97, 98, 99, 100, 101, 102, 103, 104, 105, 106, 107, 108, 109, 110, 111, 112, 113, 114, 115, 116, 117, 118, 119, 120, 121, 122] := rfl
      have lo : ∀ j : Int, 0 ≤ j → j < 26 → lowc (97 + j.toNat) = true := fun j h0 h1 => by unfold lowc; simp; omega
      have ad : ∀ c : Nat, addD (.str w) (.str [c]) = .ok (.str (w ++ [c])) := fun c => addSK _ _ (by simp; omega)
      by_cases ho : i % 2 = 1
      · have ho' : (i : Int) % 2 = 1 := by omega
        refine ⟨[.val (.lst (l.map D.int)), .val (.int p), .val (.str abc), .val (.str w), .val (.int i), .dead], w ++ [97 + (d1 / 26 % 26).toNat], [.val (.lst (l.map D.int)), .val (.int p), .val (.str abc), .val (.str (w ++ [97 + (d1 / 26 % 26).toNat])), .val (.int i), .val (.int (d1 / 26))], rfl, .inl ?_, rfl, by simp [hl], ?_⟩
        · simp (config := { implicitDefEqProofs := false }) [evS, evE, evL, borrow, binD, cmpD, onL, killG, ofOk, bindOk, atNext, atRet, atExc, truB, truI, intK, lenL, lenS, lenT, andK, orK, notK, addK, subK, modK, mulK, fdivK, powK, ltK, leK, eqK, run, runI, gamN, gamM, outR_next, outR_ret, outR_exc, outI_next, outI_exc, doneI, isiR, D.isi, tyD, isiD, D.isN, Mng.wf, evH, Out.mapG, bindX, noExn, endX, bWordL, i1, ho', A2, ad]
        · rw [List.all_append, ha]; simp [lo _ (show 0 ≤ d1 / 26 % 26 by omega) (by omega)]
      · have ho' : ¬ (i : Int) % 2 = 1 := by omega
        refine ⟨[.val (.lst (l.map D.int)), .val (.int p), .val (.str abc), .val (.str w), .val (.int i), .dead], w ++ [97 + (d1 % 26).toNat], [.val (.lst (l.map D.int)), .val (.int p), .val (.str abc), .val (.str (w ++ [97 + (d1 % 26).toNat])), .val (.int i), .val (.int d1)], rfl, .inl ?_, rfl, by simp [hl], ?_⟩
        · simp (config := { implicitDefEqProofs := false }) [evS, evE, evL, borrow, binD, cmpD, onL, killG, ofOk, bindOk, atNext, atRet, atExc, truB, truI, intK, lenL, lenS, lenT, andK, orK, notK, addK, subK, modK, mulK, fdivK, powK, ltK, leK, eqK, run, runI, gamN, gamM, outR_next, outR_ret, outR_exc, outI_next, outI_exc, doneI, isiR, D.isi, tyD, isiD, D.isN, Mng.wf, evH, Out.mapG, bindX, noExn, endX, bWordL, i1, ho', A1, ad]
        · rw [List.all_append, ha]; simp [lo _ (show 0 ≤ d1 % 26 by omega) (by omega)])
  have hlen : w.length = n := by have := hw.1; simpa using this
  refine ⟨w, ?_, by omega, by omega, hw.2⟩
  have ee : abc = [97, 98, 99, 100, 101, 102, 103, 104, 105, 106, 107, 108, 109, 110, 111, 112, 113, 114, 115, 116, 117, 118, 119, 120, 121, 122] := rfl
  rw [ee] at q
  simp (config := { implicitDefEqProofs := false }) [evS, evE, evL, borrow, binD, cmpD, onL, killG, ofOk, bindOk, atNext, atRet, atExc, truB, truI, intK, lenL, lenS, lenT, andK, orK, notK, addK, subK, modK, mulK, fdivK, powK, ltK, leK, eqK, run, runI, gamN, gamM, outR_next, outR_ret, outR_exc, outI_next, outI_exc, doneI, isiR, D.isi, tyD, isiD, D.isN, Mng.wf, evH, Out.mapG, bindX, noExn, endX, bWord, i0, wd, q]
theorem word_ok {s : List Nat} (h1 : 1 ≤ s.length) (h2 : s.length ≤ 8) (h3 : s.all lowc = true) : isWord s 1 8 = true := by
  unfold isWord
  simp [h1, h2, h3]
theorem eqS {a b : List Nat} (ha : a.all lowc = true) (hb : b.all lowc = true) (la : a.length ≤ 100) (lb : b.length ≤ 100) : eqD (.str a) (.str b) = .ok (a == b) := by
  unfold eqD
  rw [lowc_flat ha (by omega), lowc_flat hb (by omega)]
  rfl
theorem r_names (h19 : M.fn 19 = run M 6 bWord) (hf : M.fn n0 = run M 4 bNames) {l : List Int} (hb : Drw l) {p : Nat} (hp : p + 9 < l.length) : ∃ ns : List (List Nat), M.fn n0 [.lst (l.map D.int), .int p] = .ok (.lst (ns.map D.str)) ∧ areNames2 (ns.map D.str) = true := by
  rw [hf]
  obtain ⟨a, ea, a1, a2, a3⟩ := r_word h19 hb (p := p) (by omega)
  obtain ⟨b, eb, b1, b2, b3⟩ := r_word h19 hb (p := p + 5) (by omega)
  have eb : M.fn 19 [.lst (l.map D.int), .int ((p : Int) + 5)] = .ok (.str b) := eb
  have i0 := r_at (l := l) (p := p) (by omega)
  have wa := word_ok a1 a2 a3
  have one : areNames2 ([a].map D.str) = true := by
    show (true && true && (isWord a 1 8 && true) && true) = true
    rw [wa]; rfl
  have two : ∀ c : List Nat, isWord c 1 8 = true → (a == c) = false → areNames2 ([a, c].map D.str) = true := fun c hc hne => by
    show (true && true && (isWord a 1 8 && (isWord c 1 8 && true)) && !(a == c)) = true
    rw [wa, hc, hne]; rfl
  have t0 : itemD (.lst [.str a]) (.int 0) = .ok (.str a) := rfl
  generalize l[p]! = d0 at i0
  have q1 := eqS b3 a3 (by omega) (by omega)
  have q2 := eqS (a := [120]) (b := a) (by decide) a3 (by decide) (by omega)
  by_cases h : d0 / 8 % 2 = 1
  · by_cases hba : b = a
    · subst hba
      by_cases hx : [120] = b
      · refine ⟨[b, [121]], ?_, two [121] (by decide) (by rw [← hx]; decide)⟩
        subst hx
        simp (config := { implicitDefEqProofs := false }) [evS, evE, evL, borrow, binD, cmpD, onL, killG, ofOk, bindOk, atNext, atRet, atExc, truB, truI, intK, lenL, lenS, lenT, andK, orK, notK, addK, subK, modK, mulK, fdivK, powK, ltK, leK, eqK, run, runI, gamN, gamM, outR_next, outR_ret, outR_exc, outI_next, outI_exc, doneI, isiR, D.isi, tyD, isiD, D.isN, Mng.wf, evH, Out.mapG, bindX, noExn, endX, bNames, ea, eb, i0, h, t0, q1, q2, LINE, frzG]
      · have hx2 : ([120] == b) = false := by simpa using hx
        rw [hx2] at q2
        refine ⟨[b, [120]], ?_, two [120] (by decide) (by rw [beq_eq_false_iff_ne]; exact fun z => hx z.symm)⟩
        simp (config := { implicitDefEqProofs := false }) [evS, evE, evL, borrow, binD, cmpD, onL, killG, ofOk, bindOk, atNext, atRet, atExc, truB, truI, intK, lenL, lenS, lenT, andK, orK, notK, addK, subK, modK, mulK, fdivK, powK, ltK, leK, eqK, run, runI, gamN, gamM, outR_next, outR_ret, outR_exc, outI_next, outI_exc, doneI, isiR, D.isi, tyD, isiD, D.isN, Mng.wf, evH, Out.mapG, bindX, noExn, endX, bNames, ea, eb, i0, h, t0, q1, q2, LINE, frzG]
    · have hba2 : (b == a) = false := by simpa using hba
      rw [hba2] at q1
      refine ⟨[a, b], ?_, two b (word_ok b1 b2 b3) (by rw [beq_eq_false_iff_ne]; exact fun z => hba z.symm)⟩
      simp (config := { implicitDefEqProofs := false }) [evS, evE, evL, borrow, binD, cmpD, onL, killG, ofOk, bindOk, atNext, atRet, atExc, truB, truI, intK, lenL, lenS, lenT, andK, orK, notK, addK, subK, modK, mulK, fdivK, powK, ltK, leK, eqK, run, runI, gamN, gamM, outR_next, outR_ret, outR_exc, outI_next, outI_exc, doneI, isiR, D.isi, tyD, isiD, D.isN, Mng.wf, evH, Out.mapG, bindX, noExn, endX, bNames, ea, eb, i0, h, t0, q1, LINE, frzG]
  · refine ⟨[a], ?_, one⟩
    simp (config := { implicitDefEqProofs := false }) [evS, evE, evL, borrow, binD, cmpD, onL, killG, ofOk, bindOk, atNext, atRet, atExc, truB, truI, intK, lenL, lenS, lenT, andK, orK, notK, addK, subK, modK, mulK, fdivK, powK, ltK, leK, eqK, run, runI, gamN, gamM, outR_next, outR_ret, outR_exc, outI_next, outI_exc, doneI, isiR, D.isi, tyD, isiD, D.isN, Mng.wf, evH, Out.mapG, bindX, noExn, endX, bNames, ea, i0, h, frzG, LINE]
theorem r_marksL (hf : M.fn n0 = run M 3 bMarksL) {ns : List (List Nat)} (hn : ∀ n ∈ ns, n.length ≤ 1000) (hl : ns.length ≤ 1000) : M.fn n0 [.lst (ns.map D.str)] = .ok (.lst (markS ns)) := by
  rw [hf]
  have q := marks_loop (M := M) (.val (.lst (ns.map D.str))) ns [] .dead hn (by simp; omega)
  have wd : walkD false (.lst (ns.map D.str)) = .ok (ns.map D.str) := rfl
  simp (config := { implicitDefEqProofs := false }) [evS, evE, evL, borrow, binD, cmpD, onL, killG, ofOk, bindOk, atNext, atRet, atExc, truB, truI, intK, lenL, lenS, lenT, andK, orK, notK, addK, subK, modK, mulK, fdivK, powK, ltK, leK, eqK, run, runI, gamN, gamM, outR_next, outR_ret, outR_exc, outI_next, outI_exc, doneI, isiR, D.isi, tyD, isiD, D.isN, Mng.wf, evH, Out.mapG, bindX, noExn, endX, bMarksL, wd, q, LINE, frzG]
end
end G
namespace G
open PySem L2
section
variable {α β : Type}
theorem item_map (f : α → D) (l : List α) {i : Int} (h0 : 0 ≤ i) (h1 : i < l.length) : ∃ x, x ∈ l ∧ l[i.toNat]? = some x ∧ itemD (.lst (l.map f)) (.int i) = .ok (f x) := by
  obtain ⟨n, rfl⟩ : ∃ n : Nat, i = (n : Int) := ⟨i.toNat, by omega⟩
  have hn : n < l.length := by omega
  refine ⟨l[n], List.getElem_mem hn, by simp, ?_⟩
  show (match atI (l.map f) (n : Int) with | some d => R.ok d | none => .bad) = _
  rw [atI_nat, List.getElem?_map, List.getElem?_eq_getElem hn]
  rfl
theorem item_str {s : List Nat} (hs : s.length ≤ 16777216) {i : Int} (h0 : 0 ≤ i) (h1 : i < s.length) : ∃ c, c ∈ s ∧ s[i.toNat]? = some c ∧ itemD (.str s) (.int i) = .ok (.str [c]) := by
  obtain ⟨n, rfl⟩ : ∃ n : Nat, i = (n : Int) := ⟨i.toNat, by omega⟩
  have hn : n < s.length := by omega
  refine ⟨s[n], List.getElem_mem hn, by simp, ?_⟩
  show (if s.length ≤ LINE then (match atI s (n : Int) with | some c => R.ok (D.str [c]) | none => .bad) else .bad) = _
  rw [if_pos hs, atI_nat, List.getElem?_eq_getElem hn]
theorem cutL_map (f : α → β) (xs : List α) (lo hi : Option Int) : cutL (xs.map f) lo hi = (cutL xs lo hi).map f := by
  unfold cutL
  rw [List.length_map, ← List.map_drop, ← List.map_take]
theorem cutL_len (xs : List α) (lo hi : Option Int) : (cutL xs lo hi).length ≤ xs.length := by
  unfold cutL
  rw [List.length_take, List.length_drop]
  omega
def cnd (c : Option (Gam → R D)) (Γ : Gam) : R Bool := match c with
  | none => .ok true
  | some c => (c Γ).bind truD
theorem compD_cons (tg : List Nat) (Γ : Gam) (c : Option (Gam → R D)) (f : Gam → R D) (d : D) (ds acc : List D) : compD tg Γ c f (d :: ds) acc = (tgtD Γ tg d).bind fun Γ' => (cnd c Γ').bind fun b =>
      if b then (f Γ').bind fun y => if acc.length < LINE then compD tg Γ c f ds (acc ++ [y]) else .bad else compD tg Γ c f ds acc := by
  rw [compD]
  cases c <;> rfl
theorem compD_all {M : Mng} {tg : List Nat} {Γ : Gam} {c : Option (Gam → R D)} {f : Gam → R D} (enc : α → D) (p : α → Bool) (g : α → D) : ∀ (xs : List α) (acc : List D)
    (_ : ∀ x ∈ xs, ∃ Γt, tgtD Γ tg (enc x) = .ok Γt ∧ cnd c Γt = .ok (p x) ∧ (p x = true → f Γt = .ok (g x))) (_ : acc.length + xs.length ≤ 16777216),
    compD tg Γ c f (xs.map enc) acc = .ok (acc ++ (xs.filter p).map g)
  | [], acc, _, _ => by rw [List.map_nil, compD]; simp
  | x :: xs, acc, h, hl => by
    obtain ⟨Γt, h1, h2, h3⟩ := h x List.mem_cons_self
    rw [List.length_cons] at hl
    rw [List.map_cons, compD_cons, h1, bindOk, h2, bindOk]
    cases hp : p x with
    | true =>
      rw [if_pos rfl, h3 hp, bindOk, if_pos (show acc.length < LINE by show acc.length < 16777216; omega)]
      rw [compD_all (M := M) enc p g xs (acc ++ [g x]) (fun y hy => h y (List.mem_cons_of_mem _ hy)) (by rw [List.length_append]; simp; omega)]
      rw [List.filter_cons, if_pos hp, List.map_cons, List.append_assoc]
      rfl
    | false =>
      rw [if_neg Bool.false_ne_true, compD_all (M := M) enc p g xs acc (fun y hy => h y (List.mem_cons_of_mem _ hy)) (by omega), List.filter_cons, if_neg (by rw [hp]; exact Bool.false_ne_true)]
end
theorem markS_W (ns : List (List Nat)) : markS ns = (markW ns).map D.str := by
  induction ns with
  | nil => rfl
  | cons n ns ih => show D.str (43 :: n) :: D.str (45 :: n) :: markS ns = D.str (43 :: n) :: D.str (45 :: n) :: (markW ns).map D.str; rw [ih]
theorem walk_nat (n : Nat) (h : n < 1000000000) : walkD true (.tup [.int (n : Int)]) = .ok ((List.range n).map fun k => D.int (k : Nat)) := by
  have hc : -4611686018427387904 ≤ (n : Int) ∧ (n : Int) < 4611686018427387904 := by omega
  have e0 : walkD true (.tup [.int (n : Int)]) = (if -4611686018427387904 ≤ (n : Int) ∧ (n : Int) < 4611686018427387904 then R.ok ((List.range (n : Int).toNat).map fun k => D.int (k : Nat)) else .bad) := by simp only [walkD, if_true]
  rw [e0, if_pos hc, Int.toNat_natCast]
theorem range_at {n i : Nat} {d : D} (h : ((List.range n).map fun k => D.int (k : Nat))[i]? = some d) : i < n ∧ d = .int (i : Nat) := by
  have hi : i < n := by
    have := (List.getElem?_eq_some_iff.mp h).1
    simpa using this
  rw [List.getElem?_map, List.getElem?_range hi] at h
  cases h
  exact ⟨hi, rfl⟩
structure MOk (sg : List Sg) (k : Int) (mv : List Mv) (en : List Int) : Prop where
  mv : ∀ m ∈ mv, 0 ≤ m.s ∧ m.s < k ∧ 0 ≤ m.t ∧ m.t < k ∧ (m.a = [] ∨ m.a ∈ sg)
  en : ∀ e ∈ en, 0 ≤ e ∧ e < k
def bMvB : Sm :=
  (.asg 5 (.item (.var 2) (.bin .mod (.f1 .int (.bin .fdiv (.var 4) (.int 4))) (.f1 .len (.var 2))))
  (.app 3 (.tup (.cons (.bin .mod (.f1 .int (.var 4)) (.var 1)) (.cons (.var 5) (.cons (.bin .mod (.f1 .int (.bin .fdiv (.var 4) (.int 40))) (.var 1)) .nil))))
  .nil))
def bMv : Sm :=
  (.asgO 3 (.lst .nil)
  (.loop [4] [4, 5] false (.var 0)
  bMvB
  (.retO 3)))
def bMachB1 : Sm :=
  (.asg 12 (.bin .mod (.f1 .int (.item (.var 0) (.bin .add (.int 10) (.var 10)))) (.var 4))
  (.asg 11 (.item (.var 1) (.bin .mod (.f1 .int (.bin .fdiv (.item (.var 0) (.bin .add (.int 10) (.var 10))) (.int 4))) (.f1 .len (.var 1))))
  (.app 7 (.tup (.cons (.var 9) (.cons (.var 11) (.cons (.var 9) .nil))))
  (.app 7 (.tup (.cons (.var 9) (.cons (.item (.var 5) (.var 10)) (.cons (.var 12) .nil))))
  (.asg 9 (.var 12)
  .nil)))))
def bMachB2 : Sm :=
  (.ifs (.cmp .gt (.bin .mod (.f1 .int (.item (.var 0) (.int 14))) (.int 3)) (.int 0))
  (.app 7 (.tup (.cons (.var 9) (.cons (.var 11) (.cons (.var 9) .nil))))
  .nil)
  .nil
  .nil)
def bMachT : Sm :=
  (.asg 9 (.int 0)
  (.loop [10] [10, 11, 12] true (.cons (.f1 .len (.var 5)) .nil)
  bMachB1
  (.app 8 (.var 9)
  (.loop [11] [11] false (.var 1)
  bMachB2
  .nil))))
def eEnds : E := (.comp [9] true (.cons (.var 4) .nil) (.cmp .eq (.bin .mod (.f1 .int (.bin .fdiv (.item (.var 0) (.int 2)) (.item (.lst (.cons (.int 1) (.cons (.int 2) (.cons (.int 4) (.cons (.int 8) .nil))))) (.var 9)))) (.int 2)) (.int 1)) (.var 9))
def bMach : Sm :=
  (.asg 4 (.bin .add (.int 1) (.bin .mod (.f1 .int (.item (.var 0) (.int 0))) (.var 3)))
  (.asg 5 (.call 21 (.cons (.var 2) .nil))
  (.asg 6 (.bin .mod (.f1 .int (.item (.var 0) (.int 1))) (.int 8))
  (.asgN 7 22 (.cons (.slice (.var 0) (.int 3) (.bin .add (.int 3) (.var 6))) (.cons (.var 4) (.cons (.bin .add (.bin .add (.f1 .list (.var 1)) (.lst (.cons (.str []) .nil))) (.var 5)) .nil)))
  (.asgO 8 eEnds
  (.ifs (.cmp .gt (.bin .mod (.f1 .int (.bin .fdiv (.item (.var 0) (.int 1)) (.int 8))) (.int 4)) (.int 0))
  bMachT
  .nil
  (.frz 7 (.frz 8 (.ret (.tup (.cons (.var 7) (.cons (.var 8) .nil))))))))))))
section
variable {M : Mng} {n0 : Nat}
theorem emod_bd (a : Int) {k : Int} (h : 0 < k) : 0 ≤ a % k ∧ a % k < k := ⟨Int.emod_nonneg _ (by omega), Int.emod_lt_of_pos _ h⟩
theorem r_mvs (hf : M.fn n0 = runN M 6 bMv) {l : List Int} (hl : l.length ≤ 1000) {k : Int} (hk : 0 < k) {sg : List Sg} (hs : 0 < sg.length) (hs2 : sg.length ≤ 1000) :
    ∃ mv : List Mv, M.fn n0 [.lst (l.map D.int), .int k, .lst (sg.map D.str)] = .ok (.lst (mv.map eMv)) ∧ mv.length = l.length ∧ ∀ m ∈ mv, 0 ≤ m.s ∧ m.s < k ∧ 0 ≤ m.t ∧ m.t < k ∧ m.a ∈ sg := by
  rw [hf]
  obtain ⟨mv, q, h1, h2⟩ := forD_thru (tg := [4]) (kl := [4, 5]) (body := evS M bMvB) (fun mv : List Mv => [.val (.lst (l.map D.int)), .val (.int k), .val (.lst (sg.map D.str)), .ownL (mv.map eMv), .dead, .dead]) (l.map D.int)
    (fun i mv => mv.length = i ∧ ∀ m ∈ mv, 0 ≤ m.s ∧ m.s < k ∧ 0 ≤ m.t ∧ m.t < k ∧ m.a ∈ sg) (Γ := [.val (.lst (l.map D.int)), .val (.int k), .val (.lst (sg.map D.str)), .ownL [], .dead, .dead]) (s0 := []) rfl ⟨rfl, fun m h => (by cases h)⟩ (fun i mv d hd ⟨hi, hm⟩ => by
      have hil : i < l.length := by have := (List.getElem?_eq_some_iff.mp hd).1; simpa using this
      rw [List.getElem?_map, List.getElem?_eq_getElem hil] at hd
      cases hd
      generalize l[i] = d0
      have b1 := emod_bd (d0 / 4) (k := sg.length) (by omega)
      obtain ⟨a, ha, _, it⟩ := item_map D.str sg b1.1 b1.2
      have m1 := modK (d0 / 4) sg.length (by omega)
      have m2 := modK d0 k hk
      have m3 := modK (d0 / 40) k hk
      have b2 := emod_bd d0 hk
      have b3 := emod_bd (d0 / 40) hk
      have ln : mv.length < 16777216 := by omega
      refine ⟨[.val (.lst (l.map D.int)), .val (.int k), .val (.lst (sg.map D.str)), .ownL (mv.map eMv), .val (.int d0), .dead], mv ++ [Mv.mk (d0 % k) a (d0 / 40 % k)], [.val (.lst (l.map D.int)), .val (.int k), .val (.lst (sg.map D.str)), .ownL ((mv ++ [Mv.mk (d0 % k) a (d0 / 40 % k)]).map eMv), .val (.int d0), .val (.str a)], rfl, .inl ?_, rfl, ?_, ?_⟩
      · simp (config := { implicitDefEqProofs := false }) [evS, evE, evL, borrow, binD, cmpD, onL, killG, ofOk, bindOk, atNext, atRet, atExc, truB, truI, intK, lenL, lenS, lenT, andK, orK, notK, addK, subK, modK, mulK, fdivK, powK, ltK, leK, eqK, run, runI, runN, outN_rown, outN_exc, gamN, gamM, outR_next, outR_ret, outR_exc, outI_next, outI_exc, doneI, isiR, D.isi, tyD, isiD, D.isN, Mng.wf, evH, Out.mapG, bindX, noExn, endX, bMvB, m1, m2, m3, it, LINE, ln, eMv]
      · rw [List.length_append, hi]; rfl
      · intro m hm2
        rcases List.mem_append.mp hm2 with h | h
        · exact hm m h
        · rw [List.mem_singleton] at h; subst h
          exact ⟨b2.1, b2.2, b3.1, b3.2, ha⟩)
  rw [List.length_map] at h1
  refine ⟨mv, ?_, h1, h2⟩
  have wd : walkD false (.lst (l.map D.int)) = .ok (l.map D.int) := rfl
  simp (config := { implicitDefEqProofs := false }) [evS, evE, evL, borrow, binD, cmpD, onL, killG, ofOk, bindOk, atNext, atRet, atExc, truB, truI, intK, lenL, lenS, lenT, andK, orK, notK, addK, subK, modK, mulK, fdivK, powK, ltK, leK, eqK, run, runI, runN, outN_rown, outN_exc, gamN, gamM, outR_next, outR_ret, outR_exc, outI_next, outI_exc, doneI, isiR, D.isi, tyD, isiD, D.isN, Mng.wf, evH, Out.mapG, bindX, noExn, endX, bMv, wd, q, LINE, frzG]
theorem r_ends_l {l : List Int} (hl : 2 < l.length) {k : Nat} (hk : k ≤ 4) {v1 v2 v3 v5 v6 v7 v8 v9 x1 x2 x3 : Cell} :
    ∃ en : List Int, evE M eEnds [.val (.lst (l.map D.int)), v1, v2, v3, .val (.int k), v5, v6, v7, v8, v9, x1, x2, x3] = .ok (.lst (en.map D.int)) ∧ en.length ≤ k ∧ ∀ e ∈ en, 0 ≤ e ∧ e < k := by
  have i2 : itemD (.lst (l.map D.int)) (.int 2) = .ok (.int l[2]!) := r_at (l := l) (p := 2) hl
  generalize l[2]! = d2 at i2
  let p : Nat → Bool := fun i => d2 / (match i with | 0 => 1 | 1 => 2 | 2 => 4 | _ => 8) % 2 == 1
  refine ⟨((List.range k).filter p).map fun i : Nat => (i : Int), ?_, ?_, ?_⟩
  · have wd := walk_nat k (by omega)
    have c := compD_all (M := M) (tg := [9]) (Γ := [.val (.lst (l.map D.int)), v1, v2, v3, .val (.int k), v5, v6, v7, v8, .dead, x1, x2, x3])
      (c := condF (.cmp .eq (.bin .mod (.f1 .int (.bin .fdiv (.item (.var 0) (.int 2)) (.item (.lst (.cons (.int 1) (.cons (.int 2) (.cons (.int 4) (.cons (.int 8) .nil))))) (.var 9)))) (.int 2)) (.int 1)) fun Γ' => evE M (.cmp .eq (.bin .mod (.f1 .int (.bin .fdiv (.item (.var 0) (.int 2)) (.item (.lst (.cons (.int 1) (.cons (.int 2) (.cons (.int 4) (.cons (.int 8) .nil))))) (.var 9)))) (.int 2)) (.int 1)) Γ')
      (f := fun Γ' => evE M (.var 9) Γ') (fun i : Nat => D.int i) p (fun i : Nat => D.int i) (List.range k) [] (fun i hi => by
        have hi := List.mem_range.mp hi
        refine ⟨[.val (.lst (l.map D.int)), v1, v2, v3, .val (.int k), v5, v6, v7, v8, .val (.int i), x1, x2, x3], rfl, ?_, fun _ => by simp (config := { implicitDefEqProofs := false }) [evS, evE, evL, borrow, binD, cmpD, onL, killG, ofOk, bindOk, atNext, atRet, atExc, truB, truI, intK, lenL, lenS, lenT, andK, orK, notK, addK, subK, modK, mulK, fdivK, powK, ltK, leK, eqK, run, runI, runN, outN_rown, outN_exc, gamN, gamM, outR_next, outR_ret, outR_exc, outI_next, outI_exc, doneI, isiR, D.isi, tyD, isiD, D.isN, Mng.wf, evH, Out.mapG, bindX, noExn, endX]⟩
        have hi4 : i = 0 ∨ i = 1 ∨ i = 2 ∨ i = 3 := by omega
        have t0 : itemD (.lst [.int 1, .int 2, .int 4, .int 8]) (.int 0) = .ok (.int 1) := rfl
        have t1 : itemD (.lst [.int 1, .int 2, .int 4, .int 8]) (.int 1) = .ok (.int 2) := rfl
        have t2 : itemD (.lst [.int 1, .int 2, .int 4, .int 8]) (.int 2) = .ok (.int 4) := rfl
        have t3 : itemD (.lst [.int 1, .int 2, .int 4, .int 8]) (.int 3) = .ok (.int 8) := rfl
        show ((evE M _ _).bind truD) = _
        rcases hi4 with rfl | rfl | rfl | rfl
        · simp (config := { implicitDefEqProofs := false }) [evS, evE, evL, borrow, binD, cmpD, onL, killG, ofOk, bindOk, atNext, atRet, atExc, truB, truI, intK, lenL, lenS, lenT, andK, orK, notK, addK, subK, modK, mulK, fdivK, powK, ltK, leK, eqK, run, runI, runN, outN_rown, outN_exc, gamN, gamM, outR_next, outR_ret, outR_exc, outI_next, outI_exc, doneI, isiR, D.isi, tyD, isiD, D.isN, Mng.wf, evH, Out.mapG, bindX, noExn, endX, i2, t0, LINE, p]
        · simp (config := { implicitDefEqProofs := false }) [evS, evE, evL, borrow, binD, cmpD, onL, killG, ofOk, bindOk, atNext, atRet, atExc, truB, truI, intK, lenL, lenS, lenT, andK, orK, notK, addK, subK, modK, mulK, fdivK, powK, ltK, leK, eqK, run, runI, runN, outN_rown, outN_exc, gamN, gamM, outR_next, outR_ret, outR_exc, outI_next, outI_exc, doneI, isiR, D.isi, tyD, isiD, D.isN, Mng.wf, evH, Out.mapG, bindX, noExn, endX, i2, t1, LINE, p]
        · simp (config := { implicitDefEqProofs := false }) [evS, evE, evL, borrow, binD, cmpD, onL, killG, ofOk, bindOk, atNext, atRet, atExc, truB, truI, intK, lenL, lenS, lenT, andK, orK, notK, addK, subK, modK, mulK, fdivK, powK, ltK, leK, eqK, run, runI, runN, outN_rown, outN_exc, gamN, gamM, outR_next, outR_ret, outR_exc, outI_next, outI_exc, doneI, isiR, D.isi, tyD, isiD, D.isN, Mng.wf, evH, Out.mapG, bindX, noExn, endX, i2, t2, LINE, p]
        · simp (config := { implicitDefEqProofs := false }) [evS, evE, evL, borrow, binD, cmpD, onL, killG, ofOk, bindOk, atNext, atRet, atExc, truB, truI, intK, lenL, lenS, lenT, andK, orK, notK, addK, subK, modK, mulK, fdivK, powK, ltK, leK, eqK, run, runI, runN, outN_rown, outN_exc, gamN, gamM, outR_next, outR_ret, outR_exc, outI_next, outI_exc, doneI, isiR, D.isi, tyD, isiD, D.isN, Mng.wf, evH, Out.mapG, bindX, noExn, endX, i2, t3, LINE, p]) (by simp; omega)
    unfold eEnds
    rw [evE]
    have ea : evL M (.cons (.var 4) .nil) [.val (.lst (l.map D.int)), v1, v2, v3, .val (.int k), v5, v6, v7, v8, v9, x1, x2, x3] = .ok [.int k] := by simp (config := { implicitDefEqProofs := false }) [evS, evE, evL, borrow, binD, cmpD, onL, killG, ofOk, bindOk, atNext, atRet, atExc, truB, truI, intK, lenL, lenS, lenT, andK, orK, notK, addK, subK, modK, mulK, fdivK, powK, ltK, leK, eqK, run, runI, runN, outN_rown, outN_exc, gamN, gamM, outR_next, outR_ret, outR_exc, outI_next, outI_exc, doneI, isiR, D.isi, tyD, isiD, D.isN, Mng.wf, evH, Out.mapG, bindX, noExn, endX]
    rw [if_pos rfl, ea, bindOk, wd, bindOk]
    show (compD _ _ _ _ _ _).noexc.bind _ = _
    rw [show killG [.val (.lst (l.map D.int)), v1, v2, v3, .val (.int k), v5, v6, v7, v8, v9, x1, x2, x3] [9] = [.val (.lst (l.map D.int)), v1, v2, v3, .val (.int k), v5, v6, v7, v8, .dead, x1, x2, x3] from rfl, c, noexcOk, bindOk]
    rw [List.nil_append, List.map_map]
    rfl
  · rw [List.length_map]
    have := List.length_filter_le p (List.range k)
    rw [List.length_range] at this
    exact this
  · intro e he
    obtain ⟨i, hi, rfl⟩ := List.mem_map.mp he
    have := List.mem_range.mp (List.mem_filter.mp hi).1
    constructor <;> omega
theorem sgs_mem {s : List Nat} {ns : List (List Nat)} {c : Nat} (h : c ∈ s) : [c] ∈ sgsOf s ns := List.mem_append_left _ (List.mem_map_of_mem (f := fun c => [c]) h)
theorem r_machine (h21 : M.fn 21 = run M 3 bMarksL) (h22 : M.fn 22 = runN M 6 bMv) (hf : M.fn n0 = run M 13 bMach) {l : List Int} (hl : l.length = 15 ∨ l.length = 17) (hb : Drw l) {s : List Nat} {ns : List (List Nat)} (hs : isAlph s = true) (hn : areNames2 (ns.map D.str) = true) {k : Nat} (hk1 : 1 ≤ k) (hk : k ≤ 4) :
    ∃ mv en, M.fn n0 [.lst (l.map D.int), .str s, .lst (ns.map D.str), .int k] = .ok (.tup [.lst (mv.map eMv), .lst (en.map D.int)]) ∧ MOk (sgsOf s ns) k mv en ∧ mv.length ≤ 18 ∧ en.length ≤ 5 := by
  rw [hf]
  obtain ⟨ns', e', hn2, hnb⟩ := names_str hn
  have : ns' = ns := (map_inj (fun a b e => by injection e) e').symm
  subst this
  have sl : s.length ≤ 3 ∧ 2 ≤ s.length := by
    have := hs
    unfold isAlph at this
    rw [Bool.and_eq_true] at this
    have h := this.1
    unfold isWord at h
    simp only [Bool.and_eq_true, decide_eq_true_eq] at h
    omega
  obtain ⟨d0, i0⟩ : ∃ d : Int, itemD (.lst (l.map D.int)) (.int 0) = .ok (.int d) := ⟨_, r_at (l := l) (p := 0) (by omega)⟩
  obtain ⟨d1, i1⟩ : ∃ d : Int, itemD (.lst (l.map D.int)) (.int 1) = .ok (.int d) := ⟨_, r_at (l := l) (p := 1) (by omega)⟩
  obtain ⟨d14, i14⟩ : ∃ d : Int, itemD (.lst (l.map D.int)) (.int 14) = .ok (.int d) := ⟨_, r_at (l := l) (p := 14) (by omega)⟩
  have m0 := modK d0 k (by omega)
  have b0 := emod_bd d0 (k := k) (by omega)
  obtain ⟨many, hmany, hm1, hm2⟩ : ∃ many : Nat, (many : Int) = 1 + d0 % k ∧ 1 ≤ many ∧ many ≤ k := ⟨(1 + d0 % k).toNat, by omega, by omega, by omega⟩
  have mk := r_marksL h21 (ns := ns') (fun n hn => by have := (hnb n hn).1; omega) (by omega)
  have hcut : sliceD (.lst (l.map D.int)) (some 3) (some (3 + d1 % 8)) = .ok (.lst ((cutL l (some 3) (some (3 + d1 % 8))).map D.int)) := by
    show R.ok (D.lst (cutL (l.map D.int) _ _)) = _
    rw [cutL_map]
  have hcl : (cutL l (some 3) (some (3 + d1 % 8))).length ≤ 7 := by
    have b := emod_bd d1 (k := 8) (by omega)
    generalize d1 % 8 = j at *
    unfold cutL
    rw [List.length_take, List.length_drop]
    have h4 : (3 : Int) + (j.toNat : Nat) = 3 + j := by omega
    have h2 : ∀ j : Fin 8, HT.sIx 15 15 (some (3 + (j.val : Int))) = 3 + j.val := by decide
    have h5 : ∀ j : Fin 8, HT.sIx 17 17 (some (3 + (j.val : Int))) = 3 + j.val := by decide
    have h3 := h2 ⟨j.toNat, by omega⟩
    have h6 := h5 ⟨j.toNat, by omega⟩
    rw [h4] at h3 h6
    rcases hl with hl | hl <;> rw [hl]
    · have h1 : HT.sIx 15 0 (some 3) = 3 := by decide
      rw [h1, h3]
      dsimp only
      omega
    · have h1 : HT.sIx 17 0 (some 3) = 3 := by decide
      rw [h1, h6]
      dsimp only
      omega
  have hsg : (.lst ((s.map fun c => D.str [c]) ++ [.str []] ++ markS ns') : D) = .lst ((s.map (fun c => [c]) ++ [[]] ++ markW ns').map D.str) := by
    rw [List.map_append, List.map_append, List.map_map, markS_W]; rfl
  have mwl := markW_len ns'
  have hsl : (s.map (fun c => [c]) ++ [[]] ++ markW ns').length ≤ 8 := by
    rw [List.length_append, List.length_append, List.length_map, List.length_singleton]; omega
  obtain ⟨mv0, emv, hml, hmo⟩ := r_mvs h22 (l := cutL l (some 3) (some (3 + d1 % 8))) (by omega) (k := many) (by omega) (sg := s.map (fun c => [c]) ++ [[]] ++ markW ns') (by rw [List.length_append, List.length_append, List.length_singleton]; omega) (by omega)
  rw [← hsg, hmany] at emv
  simp only [List.append_assoc, List.cons_append, List.nil_append] at emv
  have hmo' : ∀ m ∈ mv0, 0 ≤ m.s ∧ m.s < many ∧ 0 ≤ m.t ∧ m.t < many ∧ (m.a = [] ∨ m.a ∈ sgsOf s ns') := fun m hm => by
    obtain ⟨h1, h2, h3, h4, h5⟩ := hmo m hm
    refine ⟨h1, h2, h3, h4, ?_⟩
    rcases List.mem_append.mp h5 with h5 | h5
    · rcases List.mem_append.mp h5 with h5 | h5
      · exact .inr (List.mem_append_left _ h5)
      · exact .inl (List.mem_singleton.mp h5)
    · exact .inr (List.mem_append_right _ h5)
  have ls : f1D .list (.str s) = .ok (.lst (s.map fun c => D.str [c])) := if_pos (show s.length ≤ 16777216 by omega)
  have ad1 : addD (.lst (s.map fun c => D.str [c])) (.lst [.str []]) = .ok (.lst ((s.map fun c => D.str [c]) ++ [.str []])) := addLK _ _ (by simp; omega)
  have ad2 : addD (.lst ((s.map fun c => D.str [c]) ++ [.str []])) (.lst (markS ns')) = .ok (.lst ((s.map fun c => D.str [c]) ++ [.str []] ++ markS ns')) := addLK _ _ (by rw [markS_W]; simp; omega)
  obtain ⟨en0, een, hel, heo⟩ := r_ends_l (M := M) (l := l) (by omega) (k := many) (by omega) (v1 := .val (.str s)) (v2 := .val (.lst (ns'.map D.str))) (v3 := .val (.int k)) (v5 := .val (.lst (markS ns'))) (v6 := .val (.int (d1 % 8))) (v7 := .ownL (mv0.map eMv)) (v8 := .dead) (v9 := .dead) (x1 := .dead) (x2 := .dead) (x3 := .dead)
  rw [hmany] at een
  have m8 := modK d1 8 (by omega)
  have m84 := modK (d1 / 8) 4 (by omega)
  by_cases hgo : 0 < d1 / 8 % 4
  · -- the path
    have wk := walk_nat (markS ns').length (by rw [markS_W, List.length_map]; omega)
    have lenM : (markS ns').length = 2 * ns'.length := by rw [markS_W, List.length_map, mwl]
    obtain ⟨p1, q1, hp1, hp2, hp3, hp4⟩ := forD_thru (tg := [10]) (kl := [10, 11, 12]) (body := evS M bMachB1) (fun p : List Mv × Int => [.val (.lst (l.map D.int)), .val (.str s), .val (.lst (ns'.map D.str)), .val (.int k), .val (.int (1 + d0 % k)), .val (.lst (markS ns')), .val (.int (d1 % 8)), .ownL (p.1.map eMv), .ownL (en0.map D.int), .val (.int p.2), .dead, .dead, .dead]) ((List.range (markS ns').length).map fun k => D.int (k : Nat))
      (fun i p => p.1.length = mv0.length + 2 * i ∧ 0 ≤ p.2 ∧ p.2 < many ∧ ∀ m ∈ p.1, 0 ≤ m.s ∧ m.s < many ∧ 0 ≤ m.t ∧ m.t < many ∧ (m.a = [] ∨ m.a ∈ sgsOf s ns'))
      (Γ := [.val (.lst (l.map D.int)), .val (.str s), .val (.lst (ns'.map D.str)), .val (.int k), .val (.int (1 + d0 % k)), .val (.lst (markS ns')), .val (.int (d1 % 8)), .ownL (mv0.map eMv), .ownL (en0.map D.int), .val (.int 0), .dead, .dead, .dead]) (s0 := (mv0, 0)) rfl ⟨rfl, by omega, by omega, hmo'⟩ (fun i p d hd ⟨h1, h2, h3, h4⟩ => by
        obtain ⟨hi, rfl⟩ := range_at hd
        obtain ⟨mv, st⟩ := p
        dsimp only at h1 h2 h3 h4
        have it : itemD (.lst (l.map D.int)) (.int (10 + (i : Int))) = .ok (.int l[10 + i]!) := by
          have := r_at (l := l) (p := 10 + i) (by omega)
          rw [show ((10 + i : Nat) : Int) = 10 + (i : Int) by omega] at this
          exact this
        generalize l[10 + i]! = dk at it
        have mm1 := modK dk (1 + d0 % k) (by omega)
        have bb1 := emod_bd dk (k := 1 + d0 % k) (by omega)
        have mm2 := modK (dk / 4) s.length (by omega)
        have bb2 := emod_bd (dk / 4) (k := s.length) (by omega)
        obtain ⟨c, hc, _, ic⟩ := item_str (s := s) (by omega) bb2.1 bb2.2
        obtain ⟨a, ha, _, im⟩ := item_map D.str (markW ns') (i := (i : Int)) (by omega) (by omega)
        rw [← markS_W] at im
        have lns : f1D .len (.str s) = .ok (.int s.length) := if_pos (show s.length ≤ 16777216 by omega)
        have g1 : mv.length < 16777216 := by omega
        have g2 : mv.length + 1 < 16777216 := by omega
        refine ⟨[.val (.lst (l.map D.int)), .val (.str s), .val (.lst (ns'.map D.str)), .val (.int k), .val (.int (1 + d0 % k)), .val (.lst (markS ns')), .val (.int (d1 % 8)), .ownL (mv.map eMv), .ownL (en0.map D.int), .val (.int st), .val (.int i), .dead, .dead], (mv ++ [Mv.mk st [c] st, Mv.mk st a (dk % (1 + d0 % k))], dk % (1 + d0 % k)),
          [.val (.lst (l.map D.int)), .val (.str s), .val (.lst (ns'.map D.str)), .val (.int k), .val (.int (1 + d0 % k)), .val (.lst (markS ns')), .val (.int (d1 % 8)), .ownL ((mv ++ [Mv.mk st [c] st, Mv.mk st a (dk % (1 + d0 % k))]).map eMv), .ownL (en0.map D.int), .val (.int (dk % (1 + d0 % k))), .val (.int i), .val (.str [c]), .val (.int (dk % (1 + d0 % k)))], rfl, .inl ?_, rfl, ?_, by dsimp only; omega, by dsimp only; omega, ?_⟩
        · simp (config := { implicitDefEqProofs := false }) [evS, evE, evL, borrow, binD, cmpD, onL, killG, ofOk, bindOk, atNext, atRet, atExc, truB, truI, intK, lenL, lenS, lenT, andK, orK, notK, addK, subK, modK, mulK, fdivK, powK, ltK, leK, eqK, run, runI, runN, outN_rown, outN_exc, gamN, gamM, outR_next, outR_ret, outR_exc, outI_next, outI_exc, doneI, isiR, D.isi, tyD, isiD, D.isN, Mng.wf, evH, Out.mapG, bindX, noExn, endX, bMachB1, it, mm1, mm2, ic, im, lns, LINE, g1, g2, eMv]
        · dsimp only; rw [List.length_append, h1]; simp; omega
        · intro m hm
          rcases List.mem_append.mp hm with h | h
          · exact h4 m h
          · rcases List.mem_cons.mp h with h | h
            · subst h; exact ⟨h2, h3, h2, h3, .inr (sgs_mem hc)⟩
            · rw [List.mem_singleton] at h; subst h
              exact ⟨h2, h3, bb1.1, by dsimp only; omega, .inr (List.mem_append_right _ ha)⟩)
    obtain ⟨mv1, st1⟩ := p1
    rw [List.length_map, List.length_range, lenM] at hp1
    dsimp only at hp1 hp2 hp3 hp4 q1
    have wd : walkD false (.str s) = .ok (s.map fun c => D.str [c]) := rfl
    obtain ⟨mv2, q2, h2, h3⟩ := forD_thru (tg := [11]) (kl := [11]) (body := evS M bMachB2) (fun mv : List Mv => [.val (.lst (l.map D.int)), .val (.str s), .val (.lst (ns'.map D.str)), .val (.int k), .val (.int (1 + d0 % k)), .val (.lst (markS ns')), .val (.int (d1 % 8)), .ownL (mv.map eMv), .ownL (en0.map D.int ++ [.int st1]), .val (.int st1), .dead, .dead, .dead]) (s.map fun c => D.str [c])
      (fun i mv => mv.length ≤ mv1.length + i ∧ ∀ m ∈ mv, 0 ≤ m.s ∧ m.s < many ∧ 0 ≤ m.t ∧ m.t < many ∧ (m.a = [] ∨ m.a ∈ sgsOf s ns'))
      (Γ := [.val (.lst (l.map D.int)), .val (.str s), .val (.lst (ns'.map D.str)), .val (.int k), .val (.int (1 + d0 % k)), .val (.lst (markS ns')), .val (.int (d1 % 8)), .ownL (mv1.map eMv), .ownL (en0.map D.int ++ [.int st1]), .val (.int st1), .dead, .dead, .dead]) (s0 := mv1) rfl ⟨by omega, hp4⟩ (fun i mv d hd ⟨h1, h4⟩ => by
        have hil : i < s.length := by have := (List.getElem?_eq_some_iff.mp hd).1; simpa using this
        rw [List.getElem?_map, List.getElem?_eq_getElem hil] at hd
        cases hd
        have hc : s[i] ∈ s := List.getElem_mem hil
        generalize s[i] = c at hc
        have mm := modK d14 3 (by omega)
        have g1 : mv.length < 16777216 := by omega
        by_cases hg : 0 < d14 % 3
        · refine ⟨[.val (.lst (l.map D.int)), .val (.str s), .val (.lst (ns'.map D.str)), .val (.int k), .val (.int (1 + d0 % k)), .val (.lst (markS ns')), .val (.int (d1 % 8)), .ownL (mv.map eMv), .ownL (en0.map D.int ++ [.int st1]), .val (.int st1), .dead, .val (.str [c]), .dead], mv ++ [Mv.mk st1 [c] st1], [.val (.lst (l.map D.int)), .val (.str s), .val (.lst (ns'.map D.str)), .val (.int k), .val (.int (1 + d0 % k)), .val (.lst (markS ns')), .val (.int (d1 % 8)), .ownL ((mv ++ [Mv.mk st1 [c] st1]).map eMv), .ownL (en0.map D.int ++ [.int st1]), .val (.int st1), .dead, .val (.str [c]), .dead], rfl, .inl ?_, rfl, by rw [List.length_append]; simp; omega, ?_⟩
          · simp (config := { implicitDefEqProofs := false }) [evS, evE, evL, borrow, binD, cmpD, onL, killG, ofOk, bindOk, atNext, atRet, atExc, truB, truI, intK, lenL, lenS, lenT, andK, orK, notK, addK, subK, modK, mulK, fdivK, powK, ltK, leK, eqK, run, runI, runN, outN_rown, outN_exc, gamN, gamM, outR_next, outR_ret, outR_exc, outI_next, outI_exc, doneI, isiR, D.isi, tyD, isiD, D.isN, Mng.wf, evH, Out.mapG, bindX, noExn, endX, bMachB2, i14, mm, hg, LINE, g1, eMv]
          · intro m hm
            rcases List.mem_append.mp hm with h | h
            · exact h4 m h
            · rw [List.mem_singleton] at h; subst h
              exact ⟨hp2, hp3, hp2, hp3, .inr (sgs_mem hc)⟩
        · refine ⟨[.val (.lst (l.map D.int)), .val (.str s), .val (.lst (ns'.map D.str)), .val (.int k), .val (.int (1 + d0 % k)), .val (.lst (markS ns')), .val (.int (d1 % 8)), .ownL (mv.map eMv), .ownL (en0.map D.int ++ [.int st1]), .val (.int st1), .dead, .val (.str [c]), .dead], mv, [.val (.lst (l.map D.int)), .val (.str s), .val (.lst (ns'.map D.str)), .val (.int k), .val (.int (1 + d0 % k)), .val (.lst (markS ns')), .val (.int (d1 % 8)), .ownL (mv.map eMv), .ownL (en0.map D.int ++ [.int st1]), .val (.int st1), .dead, .val (.str [c]), .dead], rfl, .inl ?_, rfl, by omega, h4⟩
          simp (config := { implicitDefEqProofs := false }) [evS, evE, evL, borrow, binD, cmpD, onL, killG, ofOk, bindOk, atNext, atRet, atExc, truB, truI, intK, lenL, lenS, lenT, andK, orK, notK, addK, subK, modK, mulK, fdivK, powK, ltK, leK, eqK, run, runI, runN, outN_rown, outN_exc, gamN, gamM, outR_next, outR_ret, outR_exc, outI_next, outI_exc, doneI, isiR, D.isi, tyD, isiD, D.isN, Mng.wf, evH, Out.mapG, bindX, noExn, endX, bMachB2, i14, mm, hg])
    rw [List.length_map] at h2
    refine ⟨mv2, en0 ++ [st1], ?_, ⟨fun m hm => ?_, fun e he => ?_⟩, by omega, by rw [List.length_append]; simp; omega⟩
    · have t : evS M bMachT [.val (.lst (l.map D.int)), .val (.str s), .val (.lst (ns'.map D.str)), .val (.int k), .val (.int (1 + d0 % k)), .val (.lst (markS ns')), .val (.int (d1 % 8)), .ownL (mv0.map eMv), .ownL (en0.map D.int), .dead, .dead, .dead, .dead] =
          .next [.val (.lst (l.map D.int)), .val (.str s), .val (.lst (ns'.map D.str)), .val (.int k), .val (.int (1 + d0 % k)), .val (.lst (markS ns')), .val (.int (d1 % 8)), .ownL (mv2.map eMv), .ownL (en0.map D.int ++ [.int st1]), .val (.int st1), .dead, .dead, .dead] := by
        have ge : en0.length < 16777216 := by omega
        simp (config := { implicitDefEqProofs := false }) [evS, evE, evL, borrow, binD, cmpD, onL, killG, ofOk, bindOk, atNext, atRet, atExc, truB, truI, intK, lenL, lenS, lenT, andK, orK, notK, addK, subK, modK, mulK, fdivK, powK, ltK, leK, eqK, run, runI, runN, outN_rown, outN_exc, gamN, gamM, outR_next, outR_ret, outR_exc, outI_next, outI_exc, doneI, isiR, D.isi, tyD, isiD, D.isN, Mng.wf, evH, Out.mapG, bindX, noExn, endX, bMachT, wk, q1, wd, q2, LINE, ge]
      simp (config := { implicitDefEqProofs := false }) [evS, evE, evL, borrow, binD, cmpD, onL, killG, ofOk, bindOk, atNext, atRet, atExc, truB, truI, intK, lenL, lenS, lenT, andK, orK, notK, addK, subK, modK, mulK, fdivK, powK, ltK, leK, eqK, run, runI, runN, outN_rown, outN_exc, gamN, gamM, outR_next, outR_ret, outR_exc, outI_next, outI_exc, doneI, isiR, D.isi, tyD, isiD, D.isN, Mng.wf, evH, Out.mapG, bindX, noExn, endX, bMach, i0, i1, m0, m8, m84, mk, hcut, ls, ad1, ad2, emv, een, hgo, t, part, partD, frzG, LINE]
    · obtain ⟨a1, a2, a3, a4, a5⟩ := h3 m hm
      exact ⟨a1, by omega, a3, by omega, a5⟩
    · rcases List.mem_append.mp he with h | h
      · have := heo e h; omega
      · rw [List.mem_singleton] at h; subst h; omega
  · refine ⟨mv0, en0, ?_, ⟨fun m hm => ?_, fun e he => by have := heo e he; omega⟩, by omega, by omega⟩
    · simp (config := { implicitDefEqProofs := false }) [evS, evE, evL, borrow, binD, cmpD, onL, killG, ofOk, bindOk, atNext, atRet, atExc, truB, truI, intK, lenL, lenS, lenT, andK, orK, notK, addK, subK, modK, mulK, fdivK, powK, ltK, leK, eqK, run, runI, runN, outN_rown, outN_exc, gamN, gamM, outR_next, outR_ret, outR_exc, outI_next, outI_exc, doneI, isiR, D.isi, tyD, isiD, D.isN, Mng.wf, evH, Out.mapG, bindX, noExn, endX, bMach, i0, i1, m0, m8, m84, mk, hcut, ls, ad1, ad2, emv, een, hgo, part, partD, frzG, LINE]
    · obtain ⟨a1, a2, a3, a4, a5⟩ := hmo' m hm
      exact ⟨a1, by omega, a3, by omega, a5⟩
end
end G
namespace G
open PySem L2
def sgB (a : Sg) : Bool := a.all (· < 128) && decide (a.length ≤ 1000)
def MvB (mv : List Mv) : Prop := ∀ m ∈ mv, sgB m.a = true
theorem sgB_flat {a : Sg} (h : sgB a = true) (n : Nat) : D.flat n (.str a) = true := by
  unfold sgB at h
  rw [Bool.and_eq_true, decide_eq_true_eq] at h
  have : (a.all (· < 128) && decide (a.length ≤ 16777216)) = true := by rw [Bool.and_eq_true, decide_eq_true_eq]; exact ⟨h.1, by omega⟩
  cases n <;> exact this
theorem eqSg {a b : Sg} (ha : sgB a = true) (hb : sgB b = true) : eqD (.str a) (.str b) = .ok (a == b) := by
  unfold eqD
  rw [sgB_flat ha, sgB_flat hb]
  rfl
theorem sgB_nil : sgB [] = true := by decide
theorem lowc_sgB {a : List Nat} (h : a.all lowc = true) (hl : a.length ≤ 1000) : sgB a = true := by
  unfold sgB
  rw [Bool.and_eq_true, decide_eq_true_eq]
  refine ⟨List.all_eq_true.mpr fun c hc => ?_, hl⟩
  have := List.all_eq_true.mp h c hc
  unfold lowc at this
  simp only [Bool.and_eq_true, decide_eq_true_eq] at this ⊢
  omega
def col (p : Mv → Bool) (found : List Int) (m : Mv) : List Int := if p m = true ∧ m.t ∉ found then found ++ [m.t] else found
theorem col_app {p : Mv → Bool} : ∀ (mv : List Mv) (found : List Int), ∃ e, mv.foldl (col p) found = found ++ e ∧ e.Nodup ∧ (∀ y ∈ e, y ∉ found ∧ y ∈ mv.map Mv.t) ∧ (∀ y, y ∈ found ++ e ↔ y ∈ found ∨ ∃ m ∈ mv, p m = true ∧ m.t = y)
  | [], found => ⟨[], by simp, List.nodup_nil, fun y h => (by cases h), fun y => by simp⟩
  | m :: mv, found => by
    rw [List.foldl_cons]
    by_cases h : p m = true ∧ m.t ∉ found
    · have e1 : col p found m = found ++ [m.t] := if_pos h
      obtain ⟨e, q1, q2, q3, q4⟩ := col_app (p := p) mv (found ++ [m.t])
      refine ⟨m.t :: e, by rw [e1, q1, List.append_assoc]; rfl, ?_, fun y hy => ?_, fun y => ?_⟩
      · rw [List.nodup_cons]
        exact ⟨fun hm => (q3 _ hm).1 (by simp), q2⟩
      · rcases List.mem_cons.mp hy with rfl | hy
        · exact ⟨h.2, by simp⟩
        · have := q3 y hy
          refine ⟨fun z => this.1 (by simp [z]), ?_⟩
          rw [List.map_cons]; exact List.mem_cons_of_mem _ this.2
      · have := q4 y
        rw [List.append_assoc] at this
        rw [show found ++ m.t :: e = found ++ ([m.t] ++ e) from rfl, this, List.mem_append, List.mem_singleton]
        constructor
        · rintro ((h1 | h1) | ⟨m2, h1, h2, h3⟩)
          · exact .inl h1
          · exact .inr ⟨m, by simp, h.1, h1.symm⟩
          · exact .inr ⟨m2, List.mem_cons_of_mem _ h1, h2, h3⟩
        · rintro (h1 | ⟨m2, h1, h2, h3⟩)
          · exact .inl (.inl h1)
          · rcases List.mem_cons.mp h1 with rfl | h1
            · exact .inl (.inr h3.symm)
            · exact .inr ⟨m2, h1, h2, h3⟩
    · have e1 : col p found m = found := if_neg h
      obtain ⟨e, q1, q2, q3, q4⟩ := col_app (p := p) mv found
      refine ⟨e, by rw [e1, q1], q2, fun y hy => ⟨(q3 y hy).1, by rw [List.map_cons]; exact List.mem_cons_of_mem _ (q3 y hy).2⟩, fun y => ?_⟩
      rw [q4 y]
      constructor
      · rintro (h1 | ⟨m2, h1, h2, h3⟩)
        · exact .inl h1
        · exact .inr ⟨m2, List.mem_cons_of_mem _ h1, h2, h3⟩
      · rintro (h1 | ⟨m2, h1, h2, h3⟩)
        · exact .inl h1
        · rcases List.mem_cons.mp h1 with rfl | h1
          · refine .inl ?_
            rw [← h3]
            by_cases hh : m2.t ∈ found
            · exact hh
            · exact absurd ⟨h2, hh⟩ h
          · exact .inr ⟨m2, h1, h2, h3⟩
structure FrI (mv : List Mv) (S : List Int) (i : Nat) (F : List Int) : Prop where
  ex : ∃ e, F = S ++ e ∧ e.Nodup ∧ ∀ y ∈ e, y ∉ S ∧ y ∈ mv.map Mv.t
  fr : ∀ y ∈ F, ∃ s ∈ S, FR mv s y
  cl : ∀ j x, j < i → F[j]? = some x → ∀ t, ⟨x, [], t⟩ ∈ mv → t ∈ F
theorem FrI.len {mv : List Mv} {S F : List Int} {i : Nat} (h : FrI mv S i F) : F.length ≤ S.length + mv.length := by
  obtain ⟨e, rfl, h2, h3⟩ := h.ex
  have := nodup_len h2 fun y hy => (h3 y hy).2
  rw [List.length_map] at this
  rw [List.length_append]; omega
theorem FrI.all {mv : List Mv} {S F : List Int} (h : FrI mv S (S.length + mv.length) F) (y : Int) : y ∈ F ↔ ∃ s ∈ S, FR mv s y := by
  refine ⟨h.fr y, ?_⟩
  rintro ⟨s, hs, hr⟩
  have h0 : s ∈ F := by obtain ⟨e, rfl, _⟩ := h.ex; exact List.mem_append_left _ hs
  clear hs
  induction hr with
  | refl => exact h0
  | @step s u t h1 _ ih =>
    refine ih ?_
    obtain ⟨j, hj, e⟩ := List.getElem_of_mem h0
    exact h.cl j s (Nat.lt_of_lt_of_le hj h.len) (by rw [List.getElem?_eq_getElem hj, e]) u h1
def frP (x : Int) (m : Mv) : Bool := m.a == [] && m.s == x
theorem FrI.step {mv : List Mv} {S F : List Int} {i : Nat} {x : Int} (h : FrI mv S i F) (hx : F[i]? = some x) : FrI mv S (i + 1) (mv.foldl (col (frP x)) F) := by
  obtain ⟨e, q1, q2, q3, q4⟩ := col_app (p := frP x) mv F
  rw [q1]
  obtain ⟨e0, rfl, h2, h3⟩ := h.ex
  have hxm : x ∈ S ++ e0 := List.mem_of_getElem? hx
  have pm : ∀ m : Mv, frP x m = true → m = ⟨x, [], m.t⟩ := fun m hm => by
    unfold frP at hm
    simp only [Bool.and_eq_true, beq_iff_eq] at hm
    obtain ⟨s, a, t⟩ := m
    dsimp only at hm
    rw [hm.1, hm.2]
  refine ⟨⟨e0 ++ e, by rw [List.append_assoc], ?_, fun y hy => ?_⟩, fun y hy => ?_, fun j y hj hy t ht => ?_⟩
  · rw [List.nodup_append]
    exact ⟨h2, q2, fun a ha b hb hab => (q3 b hb).1 (List.mem_append_right _ (hab ▸ ha))⟩
  · rcases List.mem_append.mp hy with hy | hy
    · exact h3 y hy
    · exact ⟨fun z => (q3 y hy).1 (List.mem_append_left _ z), (q3 y hy).2⟩
  · rcases (q4 y).mp hy with hy | ⟨m, hm, hp, rfl⟩
    · exact h.fr y hy
    · obtain ⟨s, hs, hr⟩ := h.fr x hxm
      refine ⟨s, hs, hr.tail ?_⟩
      rw [← pm m hp]; exact hm
  · rw [q4]
    by_cases hji : j < i
    · have hjl : j < (S ++ e0).length := Nat.lt_of_lt_of_le hji (Nat.le_of_lt (List.getElem?_eq_some_iff.mp hx).1)
      rw [List.getElem?_append_left hjl] at hy
      exact .inl (h.cl j y hji hy t ht)
    · have : j = i := by omega
      subst this
      rw [List.getElem?_append_left (List.getElem?_eq_some_iff.mp hx).1, hx] at hy
      cases hy
      exact .inr ⟨_, ht, by simp [frP], rfl⟩
def bFrB : Sm :=
  (.ifs (.and (.cmp .eq (.item (.var 4) (.int 1)) (.str [])) (.and (.cmp .eq (.item (.var 4) (.int 0)) (.item (.var 2) (.var 3))) (.last (.cmp .notin (.item (.var 4) (.int 2)) (.var 2)))))
  (.app 2 (.item (.var 4) (.int 2))
  .nil)
  .nil
  .nil)
def bFrL : Sm :=
  (.ifs (.cmp .lt (.var 3) (.f1 .len (.var 2)))
  (.loop [4] [4] false (.var 0)
  bFrB
  .nil)
  .nil
  .nil)
def bFreeLp : Sm :=
  (.loop [3] [3, 4] true (.cons (.bin .add (.f1 .len (.var 1)) (.f1 .len (.var 0))) .nil)
  bFrL
  (.frz 2 (.ret (.var 2))))
def bFree : Sm :=
  (.asgO 2 (.f1 .list (.var 1))
  bFreeLp)
theorem loop_rng {M : Mng} {tg kl : List Nat} {it : E} {body k : Sm} {Γ : Gam} {ds items : List D} (h1 : evL M it Γ = .ok ds) (h2 : walkD true (.tup ds) = .ok items) : evS M (.loop tg kl true it body k) Γ = (forD tg kl (evS M body) items Γ).andThen (evS M k) := by
  rw [evS, if_pos rfl, h1, bindOk, h2, ofOk]
theorem loop_seq {M : Mng} {tg kl : List Nat} {it : E} {body k : Sm} {Γ : Gam} {d : D} {items : List D} (h1 : evE M it Γ = .ok d) (h2 : walkD false d = .ok items) : evS M (.loop tg kl false it body k) Γ = (forD tg kl (evS M body) items Γ).andThen (evS M k) := by
  rw [evS, if_neg Bool.false_ne_true, h1, bindOk, h2, ofOk]
theorem walk_nat2 (a b : Nat) (h : a + b < 1000000000) : walkD true (.tup [.int ((a : Int) + (b : Int))]) = .ok ((List.range (a + b)).map fun k => D.int (k : Nat)) := by
  have e : (a : Int) + (b : Int) = ((a + b : Nat) : Int) := by omega
  rw [e]
  exact walk_nat (a + b) h
def bAfB : Sm :=
  (.ifs (.and (.cmp .eq (.item (.var 5) (.int 1)) (.var 3)) (.and (.cmp .isin (.item (.var 5) (.int 0)) (.var 2)) (.last (.cmp .notin (.item (.var 5) (.int 2)) (.var 4)))))
  (.app 4 (.item (.var 5) (.int 2))
  .nil)
  .nil
  .nil)
def bAfL : Sm :=
  (.asgO 4 (.lst .nil)
  (.loop [5] [5] false (.var 0)
  bAfB
  (.frz 4 (.asg 2 (.call 45 (.cons (.var 0) (.cons (.var 4) .nil)))
  .nil))))
def bAf : Sm :=
  (.asg 2 (.call 45 (.cons (.var 0) (.cons (.lst (.cons (.int 0) .nil)) .nil)))
  (.loop [3] [3, 4, 5] false (.var 1)
  bAfL
  (.ret (.var 2))))
section
variable {M : Mng} {n0 : Nat} {mv : List Mv}
theorem mv_i0 (m : Mv) : itemD (eMv m) (.int 0) = .ok (.int m.s) := rfl
theorem mv_i1 (m : Mv) : itemD (eMv m) (.int 1) = .ok (.str m.a) := rfl
theorem mv_i2 (m : Mv) : itemD (eMv m) (.int 2) = .ok (.int m.t) := rfl
theorem item_int (l : List Int) {i : Nat} {x : Int} (h : l[i]? = some x) : itemD (.lst (l.map D.int)) (.int (i : Int)) = .ok (.int x) := by
  show (match atI (l.map D.int) (i : Int) with | some d => R.ok d | none => .bad) = _
  rw [atI_nat, List.getElem?_map, h]; rfl
theorem fr_loop (hb : MvB mv) {x : Int} {i : Nat} (v1 : Cell) (L : D) : ∀ (l : List Mv) (F : List Int) (y : Cell), (∀ m ∈ l, m ∈ mv) → F[i]? = some x → F.length + l.length ≤ 1000000 →
    forD [4] [4] (evS M bFrB) (l.map eMv) [.val L, v1, .ownL (F.map D.int), .val (.int i), y] = .next [.val L, v1, .ownL ((l.foldl (col (frP x)) F).map D.int), .val (.int i), .dead]
  | [], F, y, _, _, _ => by simp [forD, killG]
  | m :: l, F, y, hm, hx, hl => by
    rw [List.length_cons] at hl
    have e1 := eqSg (hb m (hm m List.mem_cons_self)) sgB_nil
    have e2 := item_int F hx
    have e3 := inL_int F m.t
    have ln : F.length < 16777216 := by omega
    have e : evS M bFrB [.val L, v1, .ownL (F.map D.int), .val (.int i), .val (eMv m)] = .next [.val L, v1, .ownL ((col (frP x) F m).map D.int), .val (.int i), .val (eMv m)] := by
      unfold col frP
      cases h1 : m.a == [] with
      | true =>
        rw [h1] at e1
        by_cases h2 : m.s = x
        · by_cases h3 : m.t ∈ F
          · simp (config := { implicitDefEqProofs := false }) [evS, evE, evL, borrow, binD, cmpD, onL, killG, ofOk, bindOk, atNext, atRet, atExc, truB, truI, intK, lenL, lenS, lenT, andK, orK, notK, addK, subK, modK, mulK, fdivK, powK, ltK, leK, eqK, run, runI, gamN, gamM, outR_next, outR_ret, outR_exc, outI_next, outI_exc, doneI, isiR, D.isi, tyD, isiD, D.isN, Mng.wf, evH, Out.mapG, bindX, noExn, endX, bFrB, mv_i0, mv_i1, mv_i2, e1, e2, e3, h2, h3]
          · simp (config := { implicitDefEqProofs := false }) [evS, evE, evL, borrow, binD, cmpD, onL, killG, ofOk, bindOk, atNext, atRet, atExc, truB, truI, intK, lenL, lenS, lenT, andK, orK, notK, addK, subK, modK, mulK, fdivK, powK, ltK, leK, eqK, run, runI, gamN, gamM, outR_next, outR_ret, outR_exc, outI_next, outI_exc, doneI, isiR, D.isi, tyD, isiD, D.isN, Mng.wf, evH, Out.mapG, bindX, noExn, endX, bFrB, mv_i0, mv_i1, mv_i2, e1, e2, e3, h2, h3, LINE, ln]
        · simp (config := { implicitDefEqProofs := false }) [evS, evE, evL, borrow, binD, cmpD, onL, killG, ofOk, bindOk, atNext, atRet, atExc, truB, truI, intK, lenL, lenS, lenT, andK, orK, notK, addK, subK, modK, mulK, fdivK, powK, ltK, leK, eqK, run, runI, gamN, gamM, outR_next, outR_ret, outR_exc, outI_next, outI_exc, doneI, isiR, D.isi, tyD, isiD, D.isN, Mng.wf, evH, Out.mapG, bindX, noExn, endX, bFrB, mv_i0, mv_i1, mv_i2, e1, e2, e3, h2]
      | false =>
        rw [h1] at e1
        simp (config := { implicitDefEqProofs := false }) [evS, evE, evL, borrow, binD, cmpD, onL, killG, ofOk, bindOk, atNext, atRet, atExc, truB, truI, intK, lenL, lenS, lenT, andK, orK, notK, addK, subK, modK, mulK, fdivK, powK, ltK, leK, eqK, run, runI, gamN, gamM, outR_next, outR_ret, outR_exc, outI_next, outI_exc, doneI, isiR, D.isi, tyD, isiD, D.isN, Mng.wf, evH, Out.mapG, bindX, noExn, endX, bFrB, mv_i0, mv_i1, mv_i2, e1, e2, e3]
    have hx' : (col (frP x) F m)[i]? = some x := by
      unfold col
      split
      · rw [List.getElem?_append_left (List.getElem?_eq_some_iff.mp hx).1]; exact hx
      · exact hx
    have hl' : (col (frP x) F m).length + l.length ≤ 1000000 := by
      unfold col
      split
      · rw [List.length_append, List.length_singleton]; omega
      · omega
    have ih := fr_loop hb v1 L l (col (frP x) F m) (.val (eMv m)) (fun m hm' => hm m (List.mem_cons_of_mem _ hm')) hx' hl'
    rw [List.map_cons, forD]
    show Out.of _ (.ok [.val L, v1, .ownL (F.map D.int), .val (.int i), .val (eMv m)]) _ = _
    rw [ofOk, e]
    exact ih
theorem r_free (hf : M.fn n0 = run M 5 bFree) (hb : MvB mv) (hm : mv.length ≤ 10000) {S : List Int} (hS : S.length ≤ 10000) :
    ∃ F : List Int, M.fn n0 [.lst (mv.map eMv), .lst (S.map D.int)] = .ok (.lst (F.map D.int)) ∧ (∀ y, y ∈ F ↔ ∃ s ∈ S, FR mv s y) ∧ F.length ≤ S.length + mv.length := by
  rw [hf]
  have wk := walk_nat2 S.length mv.length (by omega)
  have el : evL M (.cons (.bin .add (.f1 .len (.var 1)) (.f1 .len (.var 0))) .nil) [.val (.lst (mv.map eMv)), .val (.lst (S.map D.int)), .ownL (S.map D.int), .dead, .dead] = .ok [.int ((S.length : Int) + (mv.length : Int))] := by simp (config := { implicitDefEqProofs := false }) [evS, evE, evL, borrow, binD, cmpD, onL, killG, ofOk, bindOk, atNext, atRet, atExc, truB, truI, intK, lenL, lenS, lenT, andK, orK, notK, addK, subK, modK, mulK, fdivK, powK, ltK, leK, eqK, run, runI, gamN, gamM, outR_next, outR_ret, outR_exc, outI_next, outI_exc, doneI, isiR, D.isi, tyD, isiD, D.isN, Mng.wf, evH, Out.mapG, bindX, noExn, endX]
  obtain ⟨F, q, hI⟩ := forD_thru (tg := [3]) (kl := [3, 4]) (body := evS M bFrL) (fun F : List Int => [.val (.lst (mv.map eMv)), .val (.lst (S.map D.int)), .ownL (F.map D.int), .dead, .dead]) ((List.range (S.length + mv.length)).map fun k => D.int (k : Nat)) (fun i F => FrI mv S i F)
    (Γ := [.val (.lst (mv.map eMv)), .val (.lst (S.map D.int)), .ownL (S.map D.int), .dead, .dead]) (s0 := S) rfl ⟨⟨[], by simp, List.nodup_nil, fun y h => (by cases h)⟩, fun y hy => ⟨y, hy, .refl y⟩, fun j x hj => (by omega)⟩ (fun i F d hd hI => by
      obtain ⟨hi, rfl⟩ := range_at hd
      refine ⟨[.val (.lst (mv.map eMv)), .val (.lst (S.map D.int)), .ownL (F.map D.int), .val (.int i), .dead], ?_⟩
      by_cases hx : i < F.length
      · have hx' : F[i]? = some F[i] := List.getElem?_eq_getElem hx
        have hx2 : (i : Int) < (F.length : Int) := by omega
        have fl := hI.len
        have lp := fr_loop (M := M) hb (x := F[i]) (i := i) (.val (.lst (S.map D.int))) (.lst (mv.map eMv)) mv F .dead (fun m h => h) hx' (by omega)
        have wd : walkD false (.lst (mv.map eMv)) = .ok (mv.map eMv) := rfl
        refine ⟨mv.foldl (col (frP F[i])) F, [.val (.lst (mv.map eMv)), .val (.lst (S.map D.int)), .ownL ((mv.foldl (col (frP F[i])) F).map D.int), .val (.int i), .dead], rfl, .inl ?_, rfl, hI.step hx'⟩
        simp (config := { implicitDefEqProofs := false }) [evS, evE, evL, borrow, binD, cmpD, onL, killG, ofOk, bindOk, atNext, atRet, atExc, truB, truI, intK, lenL, lenS, lenT, andK, orK, notK, addK, subK, modK, mulK, fdivK, powK, ltK, leK, eqK, run, runI, gamN, gamM, outR_next, outR_ret, outR_exc, outI_next, outI_exc, doneI, isiR, D.isi, tyD, isiD, D.isN, Mng.wf, evH, Out.mapG, bindX, noExn, endX, bFrL, hx2, wd, lp]
      · have hx2 : ¬ (i : Int) < (F.length : Int) := by omega
        refine ⟨F, [.val (.lst (mv.map eMv)), .val (.lst (S.map D.int)), .ownL (F.map D.int), .val (.int i), .dead], rfl, .inl ?_, rfl, ⟨hI.ex, hI.fr, fun j x hj hjx => ?_⟩⟩
        · simp (config := { implicitDefEqProofs := false }) [evS, evE, evL, borrow, binD, cmpD, onL, killG, ofOk, bindOk, atNext, atRet, atExc, truB, truI, intK, lenL, lenS, lenT, andK, orK, notK, addK, subK, modK, mulK, fdivK, powK, ltK, leK, eqK, run, runI, gamN, gamM, outR_next, outR_ret, outR_exc, outI_next, outI_exc, doneI, isiR, D.isi, tyD, isiD, D.isN, Mng.wf, evH, Out.mapG, bindX, noExn, endX, bFrL, hx2]
        · exact hI.cl j x (by have := (List.getElem?_eq_some_iff.mp hjx).1; omega) hjx)
  rw [List.length_map, List.length_range] at hI
  refine ⟨F, ?_, hI.all, hI.len⟩
  have lp : evS M bFreeLp [.val (.lst (mv.map eMv)), .val (.lst (S.map D.int)), .ownL (S.map D.int), .dead, .dead] = .ret (.lst (F.map D.int)) := by
    unfold bFreeLp
    rw [loop_rng el wk, q, atNext]
    simp (config := { implicitDefEqProofs := false }) [evS, evE, evL, borrow, binD, cmpD, onL, killG, ofOk, bindOk, atNext, atRet, atExc, truB, truI, intK, lenL, lenS, lenT, andK, orK, notK, addK, subK, modK, mulK, fdivK, powK, ltK, leK, eqK, run, runI, gamN, gamM, outR_next, outR_ret, outR_exc, outI_next, outI_exc, doneI, isiR, D.isi, tyD, isiD, D.isN, Mng.wf, evH, Out.mapG, bindX, noExn, endX, frzG]
  simp (config := { implicitDefEqProofs := false }) [evS, evE, evL, borrow, binD, cmpD, onL, killG, ofOk, bindOk, atNext, atRet, atExc, truB, truI, intK, lenL, lenS, lenT, andK, orK, notK, addK, subK, modK, mulK, fdivK, powK, ltK, leK, eqK, run, runI, gamN, gamM, outR_next, outR_ret, outR_exc, outI_next, outI_exc, doneI, isiR, D.isi, tyD, isiD, D.isN, Mng.wf, evH, Out.mapG, bindX, noExn, endX, bFree, lstK, lp]
def afP (a : Sg) (S : List Int) (m : Mv) : Bool := m.a == a && decide (m.s ∈ S)
theorem af_loop (hb : MvB mv) {a : Sg} (ha : sgB a = true) (S : List Int) (v1 : Cell) (L : D) : ∀ (l : List Mv) (F : List Int) (y : Cell), (∀ m ∈ l, m ∈ mv) → F.length + l.length ≤ 1000000 →
    forD [5] [5] (evS M bAfB) (l.map eMv) [.val L, v1, .val (.lst (S.map D.int)), .val (.str a), .ownL (F.map D.int), y] = .next [.val L, v1, .val (.lst (S.map D.int)), .val (.str a), .ownL ((l.foldl (col (afP a S)) F).map D.int), .dead]
  | [], F, y, _, _ => by simp [forD, killG]
  | m :: l, F, y, hm, hl => by
    rw [List.length_cons] at hl
    have e1 := eqSg (hb m (hm m List.mem_cons_self)) ha
    have e2 := inL_int S m.s
    have e3 := inL_int F m.t
    have ln : F.length < 16777216 := by omega
    have e : evS M bAfB [.val L, v1, .val (.lst (S.map D.int)), .val (.str a), .ownL (F.map D.int), .val (eMv m)] = .next [.val L, v1, .val (.lst (S.map D.int)), .val (.str a), .ownL ((col (afP a S) F m).map D.int), .val (eMv m)] := by
      unfold col afP
      by_cases h1 : m.a = a
      · have h1' : (m.a == a) = true := by rw [h1]; simp
        rw [h1'] at e1 ⊢
        by_cases h2 : m.s ∈ S
        · by_cases h3 : m.t ∈ F
          · simp (config := { implicitDefEqProofs := false }) [evS, evE, evL, borrow, binD, cmpD, onL, killG, ofOk, bindOk, atNext, atRet, atExc, truB, truI, intK, lenL, lenS, lenT, andK, orK, notK, addK, subK, modK, mulK, fdivK, powK, ltK, leK, eqK, run, runI, gamN, gamM, outR_next, outR_ret, outR_exc, outI_next, outI_exc, doneI, isiR, D.isi, tyD, isiD, D.isN, Mng.wf, evH, Out.mapG, bindX, noExn, endX, bAfB, mv_i0, mv_i1, mv_i2, e1, e2, e3, h2, h3]
          · simp (config := { implicitDefEqProofs := false }) [evS, evE, evL, borrow, binD, cmpD, onL, killG, ofOk, bindOk, atNext, atRet, atExc, truB, truI, intK, lenL, lenS, lenT, andK, orK, notK, addK, subK, modK, mulK, fdivK, powK, ltK, leK, eqK, run, runI, gamN, gamM, outR_next, outR_ret, outR_exc, outI_next, outI_exc, doneI, isiR, D.isi, tyD, isiD, D.isN, Mng.wf, evH, Out.mapG, bindX, noExn, endX, bAfB, mv_i0, mv_i1, mv_i2, e1, e2, e3, h2, h3, LINE, ln]
        · simp (config := { implicitDefEqProofs := false }) [evS, evE, evL, borrow, binD, cmpD, onL, killG, ofOk, bindOk, atNext, atRet, atExc, truB, truI, intK, lenL, lenS, lenT, andK, orK, notK, addK, subK, modK, mulK, fdivK, powK, ltK, leK, eqK, run, runI, gamN, gamM, outR_next, outR_ret, outR_exc, outI_next, outI_exc, doneI, isiR, D.isi, tyD, isiD, D.isN, Mng.wf, evH, Out.mapG, bindX, noExn, endX, bAfB, mv_i0, mv_i1, mv_i2, e1, e2, e3, h2]
      · have h1' : (m.a == a) = false := by rw [beq_eq_false_iff_ne]; exact h1
        rw [h1'] at e1 ⊢
        simp (config := { implicitDefEqProofs := false }) [evS, evE, evL, borrow, binD, cmpD, onL, killG, ofOk, bindOk, atNext, atRet, atExc, truB, truI, intK, lenL, lenS, lenT, andK, orK, notK, addK, subK, modK, mulK, fdivK, powK, ltK, leK, eqK, run, runI, gamN, gamM, outR_next, outR_ret, outR_exc, outI_next, outI_exc, doneI, isiR, D.isi, tyD, isiD, D.isN, Mng.wf, evH, Out.mapG, bindX, noExn, endX, bAfB, mv_i0, mv_i1, mv_i2, e1, e2, e3]
    have hl' : (col (afP a S) F m).length + l.length ≤ 1000000 := by
      unfold col
      split
      · rw [List.length_append, List.length_singleton]; omega
      · omega
    have ih := af_loop hb ha S v1 L l (col (afP a S) F m) (.val (eMv m)) (fun m hm' => hm m (List.mem_cons_of_mem _ hm')) hl'
    rw [List.map_cons, forD]
    show Out.of _ (.ok [.val L, v1, .val (.lst (S.map D.int)), .val (.str a), .ownL (F.map D.int), .val (eMv m)]) _ = _
    rw [ofOk, e]
    exact ih
theorem r_af (h45 : M.fn 45 = run M 5 bFree) (hf : M.fn n0 = run M 6 bAf) (hb : MvB mv) (hm : mv.length ≤ 9000) {w : List Sg} (hw : ∀ a ∈ w, sgB a = true) :
    ∃ A : List Int, M.fn n0 [.lst (mv.map eMv), .lst (w.map D.str)] = .ok (.lst (A.map D.int)) ∧ (∀ y, y ∈ A ↔ Run mv 0 w y) ∧ A.length ≤ 1 + mv.length + mv.length := by
  rw [hf]
  obtain ⟨F0, f1, f2, f3⟩ := r_free h45 hb (by omega) (S := [0]) (by decide)
  have f1 : M.fn 45 [.lst (mv.map eMv), .lst [.int 0]] = .ok (.lst (F0.map D.int)) := f1
  have wd : walkD false (.lst (w.map D.str)) = .ok (w.map D.str) := rfl
  have wd2 : walkD false (.lst (mv.map eMv)) = .ok (mv.map eMv) := rfl
  obtain ⟨A, q, hA, hA2⟩ := forD_thru (tg := [3]) (kl := [3, 4, 5]) (body := evS M bAfL) (fun A : List Int => [.val (.lst (mv.map eMv)), .val (.lst (w.map D.str)), .val (.lst (A.map D.int)), .dead, .dead, .dead]) (w.map D.str) (fun i A => (∀ y, y ∈ A ↔ Run mv 0 (w.take i) y) ∧ A.length ≤ 1 + mv.length + mv.length)
    (Γ := [.val (.lst (mv.map eMv)), .val (.lst (w.map D.str)), .val (.lst (F0.map D.int)), .dead, .dead, .dead]) (s0 := F0) rfl ⟨fun y => by
      rw [f2 y, List.take_zero, run_nil]
      constructor
      · rintro ⟨s, hs, h⟩; rw [List.mem_singleton] at hs; subst hs; exact h
      · intro h; exact ⟨0, List.mem_singleton.mpr rfl, h⟩, by rw [List.length_singleton] at f3; omega⟩ (fun i A d hd ⟨hA, hA2⟩ => by
      have hil : i < w.length := by have := (List.getElem?_eq_some_iff.mp hd).1; simpa using this
      rw [List.getElem?_map, List.getElem?_eq_getElem hil] at hd
      cases hd
      have hsg := hw _ (List.getElem_mem hil)
      have lp := af_loop (M := M) hb hsg A (.val (.lst (w.map D.str))) (.lst (mv.map eMv)) mv [] .dead (fun m h => h) (by simp; omega)
      obtain ⟨e, q1, q2, q3, q4⟩ := col_app (p := afP w[i] A) mv []
      rw [List.nil_append] at q1 q4
      rw [q1] at lp
      have le : e.length ≤ mv.length := by
        have := nodup_len q2 fun y hy => (q3 y hy).2
        rwa [List.length_map] at this
      obtain ⟨F, g1, g2, g3⟩ := r_free h45 hb (by omega) (S := e) (by omega)
      refine ⟨[.val (.lst (mv.map eMv)), .val (.lst (w.map D.str)), .val (.lst (A.map D.int)), .val (.str w[i]), .dead, .dead], F, [.val (.lst (mv.map eMv)), .val (.lst (w.map D.str)), .val (.lst (F.map D.int)), .val (.str w[i]), .val (.lst (e.map D.int)), .dead], rfl, .inl ?_, rfl, ⟨fun y => ?_, by omega⟩⟩
      · rw [List.map_nil] at lp
        simp (config := { implicitDefEqProofs := false }) [evS, evE, evL, borrow, binD, cmpD, onL, killG, ofOk, bindOk, atNext, atRet, atExc, truB, truI, intK, lenL, lenS, lenT, andK, orK, notK, addK, subK, modK, mulK, fdivK, powK, ltK, leK, eqK, run, runI, gamN, gamM, outR_next, outR_ret, outR_exc, outI_next, outI_exc, doneI, isiR, D.isi, tyD, isiD, D.isN, Mng.wf, evH, Out.mapG, bindX, noExn, endX, bAfL, wd2, lp, frzG, g1, LINE]
      · rw [g2 y, List.take_add_one, List.getElem?_eq_getElem hil, Option.toList_some, run_snoc]
        constructor
        · rintro ⟨s, hs, hr⟩
          rcases (q4 s).mp hs with h | ⟨m, h1, h2, h3⟩
          · cases h
          · subst h3
            unfold afP at h2
            simp only [Bool.and_eq_true, beq_iff_eq, decide_eq_true_eq] at h2
            refine ⟨m.s, m.t, (hA _).mp h2.2, ?_, hr⟩
            obtain ⟨ms, ma, mt⟩ := m
            dsimp only at h2 ⊢
            rw [← h2.1]; exact h1
        · rintro ⟨x, u, h1, h2, h3⟩
          exact ⟨u, (q4 u).mpr (.inr ⟨_, h2, by simp [afP, (hA x).mpr h1], rfl⟩), h3⟩)
  rw [List.length_map, List.take_length] at hA
  refine ⟨A, ?_, hA, hA2⟩
  simp (config := { implicitDefEqProofs := false }) [evS, evE, evL, borrow, binD, cmpD, onL, killG, ofOk, bindOk, atNext, atRet, atExc, truB, truI, intK, lenL, lenS, lenT, andK, orK, notK, addK, subK, modK, mulK, fdivK, powK, ltK, leK, eqK, run, runI, gamN, gamM, outR_next, outR_ret, outR_exc, outI_next, outI_exc, doneI, isiR, D.isi, tyD, isiD, D.isN, Mng.wf, evH, Out.mapG, bindX, noExn, endX, bAf, f1, wd, q, LINE]
def bAccB : Sm :=
  (.ifs (.cmp .isin (.var 2) (.item (.var 0) (.int 1)))
  (.ret (.bl true))
  .nil
  .nil)
def bAcc : Sm :=
  (.loop [2] [2] false (.call 46 (.cons (.item (.var 0) (.int 0)) (.cons (.var 1) .nil)))
  bAccB
  (.ret (.bl false)))
end
end G
namespace G
open PySem L2
def putM (ks : List Mv) (m : Mv) : List Mv := if m ∈ ks then ks else ks ++ [m]
theorem mem_putM : ∀ {l ks : List Mv} {x : Mv}, x ∈ l.foldl putM ks ↔ x ∈ ks ∨ x ∈ l
  | [], ks, x => by simp
  | m :: l, ks, x => by
    rw [List.foldl_cons, mem_putM (l := l)]
    unfold putM
    split
    · rename_i h
      constructor
      · rintro (h1 | h1)
        · exact .inl h1
        · exact .inr (List.mem_cons_of_mem _ h1)
      · rintro (h1 | h1)
        · exact .inl h1
        · rcases List.mem_cons.mp h1 with rfl | h1
          · exact .inl h
          · exact .inr h1
    · rw [List.mem_append, List.mem_singleton, List.mem_cons, or_assoc]
theorem putM_len : ∀ (l ks : List Mv), (l.foldl putM ks).length ≤ ks.length + l.length
  | [], ks => by simp
  | m :: l, ks => by
    have h := putM_len l (putM ks m)
    have h2 : (putM ks m).length ≤ ks.length + 1 := by unfold putM; split <;> simp
    rw [List.foldl_cons, List.length_cons]
    omega
theorem eMv_nk {a b : Mv} : (eMv a).nk = (eMv b).nk ↔ a = b := by
  constructor
  · intro h
    have h : NestedKey.tup [.num a.s, .text (Sx a.a), .num a.t] = NestedKey.tup [.num b.s, .text (Sx b.a), .num b.t] := h
    injection h with h
    injection h with h1 h
    injection h with h2 h
    injection h with h3 h
    injection h1 with h1
    injection h2 with h2
    injection h3 with h3
    have hx : a.a = b.a := Sx_inj h2
    clear h2
    obtain ⟨s, x, t⟩ := a
    obtain ⟨s2, x2, t2⟩ := b
    dsimp only at h1 hx h3
    subst h1 hx h3
    rfl
  · rintro rfl; rfl
theorem dHas_mv (ks : List Mv) (m : Mv) : dHas (ks.map eMv) (eMv m) = decide (m ∈ ks) := by
  unfold dHas
  rw [List.any_map, Bool.eq_iff_iff, List.any_eq_true, decide_eq_true_iff]
  constructor
  · rintro ⟨y, hy, h⟩
    have h : decide ((eMv y).nk = (eMv m).nk) = true := h
    rw [decide_eq_true_eq, eMv_nk] at h
    subst h; exact hy
  · intro h; exact ⟨m, h, by simp⟩
theorem putK_mv (ks : List Mv) (m : Mv) : putK (ks.map eMv) (eMv m) = (putM ks m).map eMv := by
  unfold putK putM
  rw [dHas_mv]
  by_cases h : m ∈ ks
  · rw [if_pos (by simpa using h), if_pos h]
  · rw [if_neg (by simpa using h), if_neg h, List.map_append]; rfl
theorem foldK_mv : ∀ (l ks : List Mv), (l.map eMv).foldl putK (ks.map eMv) = (l.foldl putM ks).map eMv
  | [], ks => rfl
  | m :: l, ks => by rw [List.map_cons, List.foldl_cons, putK_mv, foldK_mv l, List.foldl_cons]
def mvsOf (mv : List Mv) : List Mv := (mv.foldl putM []).mergeSort fun a b => PySem.W.dataLe false D.py (eMv a) (eMv b)
theorem movesOf_mv (mv : List Mv) : movesOf (mv.map eMv) = (mvsOf mv).map eMv := by
  unfold movesOf mvsOf srtD
  have e : (mv.map eMv).map mvOf = mv.map eMv := by rw [List.map_map]; rfl
  rw [e, show ([] : List D) = ([] : List Mv).map eMv from rfl, foldK_mv, List.map_mergeSort (s := PySem.W.dataLe false D.py)]
  intro a _ b _
  rfl
theorem mem_mvsOf {mv : List Mv} {m : Mv} : m ∈ mvsOf mv ↔ m ∈ mv := by
  unfold mvsOf
  rw [(List.mergeSort_perm _ _).mem_iff, mem_putM]; simp
theorem mvsOf_len (mv : List Mv) : (mvsOf mv).length ≤ mv.length := by
  have := putM_len mv []
  unfold mvsOf
  rw [List.length_mergeSort]
  simpa using this
def putI (ks : List Int) (m : Int) : List Int := if m ∈ ks then ks else ks ++ [m]
theorem mem_putI : ∀ {l ks : List Int} {x : Int}, x ∈ l.foldl putI ks ↔ x ∈ ks ∨ x ∈ l
  | [], ks, x => by simp
  | m :: l, ks, x => by
    rw [List.foldl_cons, mem_putI (l := l)]
    unfold putI
    split
    · rename_i h
      constructor
      · rintro (h1 | h1)
        · exact .inl h1
        · exact .inr (List.mem_cons_of_mem _ h1)
      · rintro (h1 | h1)
        · exact .inl h1
        · rcases List.mem_cons.mp h1 with rfl | h1
          · exact .inl h
          · exact .inr h1
    · rw [List.mem_append, List.mem_singleton, List.mem_cons, or_assoc]
theorem nodup_putI : ∀ {l ks : List Int}, ks.Nodup → (l.foldl putI ks).Nodup
  | [], ks, h => h
  | m :: l, ks, h => by
    rw [List.foldl_cons]
    refine nodup_putI ?_
    unfold putI
    split
    · exact h
    · rename_i hm
      rw [List.nodup_append]
      exact ⟨h, by simp, fun a ha b hb e => by rw [List.mem_singleton] at hb; subst hb; exact hm (e ▸ ha)⟩
theorem foldK_int : ∀ (l ks : List Int), (l.map D.int).foldl putK (ks.map D.int) = (l.foldl putI ks).map D.int
  | [], ks => rfl
  | m :: l, ks => by
    rw [List.map_cons, List.foldl_cons, List.foldl_cons, ← foldK_int l]
    congr 1
    unfold putK putI
    rw [dHas_int]
    by_cases h : m ∈ ks
    · rw [if_pos (by simpa using h), if_pos h]
    · rw [if_neg (by simpa using h), if_neg h, List.map_append]; rfl
theorem endsOf_int (en : List Int) : endsOf (en.map D.int) = (norm en).map D.int := by
  unfold endsOf
  rw [show ([] : List D) = ([] : List Int).map D.int from rfl, foldK_int, srtD_norm (nodup_putI List.nodup_nil)]
  congr 1
  exact norm_eq (asc_norm _) fun x => by rw [mem_putI, mem_norm]; simp
structure Parts (s : List Nat) (ns : List (List Nat)) (mv : List Mv) (en : List Int) : Prop where
  al : isAlph s = true
  nm : areNames2 (ns.map D.str) = true
  mvs : ∀ m ∈ mv, 0 ≤ m.s ∧ m.s ≤ 999999 ∧ 0 ≤ m.t ∧ m.t ≤ 999999 ∧ (m.a = [] ∨ m.a ∈ sgsOf s ns)
  ens : ∀ e ∈ en, 0 ≤ e ∧ e ≤ 999999
  lm : mv.length ≤ 100000
  le : en.length ≤ 100000
theorem alph_low {s : List Nat} (h : isAlph s = true) : s.all lowc = true ∧ s.length ≤ 3 ∧ 2 ≤ s.length := by
  unfold isAlph at h
  rw [Bool.and_eq_true] at h
  have h := h.1
  unfold isWord at h
  simp only [Bool.and_eq_true, decide_eq_true_eq] at h
  exact ⟨h.2, by omega, by omega⟩
theorem names_low {ns : List (List Nat)} (h : areNames2 (ns.map D.str) = true) : ns.length ≤ 2 ∧ 1 ≤ ns.length ∧ ∀ n ∈ ns, n.length ≤ 8 ∧ n.all lowc = true := by
  obtain ⟨ns', e, h2, h3⟩ := names_str h
  have : ns' = ns := (map_inj (fun a b e => by injection e) e).symm
  subst this
  unfold areNames2 at h
  simp only [Bool.and_eq_true, decide_eq_true_eq, List.length_map] at h
  exact ⟨h2, h.1.1.1, h3⟩
theorem sgs_sgB {s : List Nat} {ns : List (List Nat)} (hs : isAlph s = true) (hn : areNames2 (ns.map D.str) = true) {a : Sg} (h : a ∈ sgsOf s ns) : sgB a = true := by
  rcases List.mem_append.mp h with h | h
  · obtain ⟨c, hc, rfl⟩ := List.mem_map.mp h
    have := List.all_eq_true.mp (alph_low hs).1 c hc
    exact lowc_sgB (by simp [this]) (by simp)
  · obtain ⟨n, hn', h⟩ := List.mem_flatMap.mp h
    obtain ⟨h1, h2⟩ := (names_low hn).2.2 n hn'
    have hb := lowc_sgB h2 (by omega)
    unfold sgB at hb ⊢
    rw [Bool.and_eq_true, decide_eq_true_eq] at hb
    rcases List.mem_cons.mp h with rfl | h
    · simp [hb.1]; omega
    · rw [List.mem_singleton] at h; subst h
      simp [hb.1]; omega
theorem Parts.mvB {s : List Nat} {ns : List (List Nat)} {mv : List Mv} {en : List Int} (h : Parts s ns mv en) : MvB mv := fun m hm => by
  rcases (h.mvs m hm).2.2.2.2 with e | e
  · rw [e]; decide
  · exact sgs_sgB h.al h.nm e
theorem signsOf_map (s : List Nat) (ns : List (List Nat)) : signsOf s ns = (([] : Sg) :: sgsOf s ns).map D.str := by
  unfold signsOf sgsOf
  rw [markS_W, List.map_cons, List.map_append, List.map_map]
  rfl
theorem signIn_yes {s : List Nat} {ns : List (List Nat)} {a : Sg} (h : a = [] ∨ a ∈ sgsOf s ns) : signIn (signsOf s ns) (.str a) = true := by
  rw [signsOf_map]
  show (List.any _ _) = true
  rw [List.any_eq_true]
  refine ⟨.str a, List.mem_map_of_mem (List.mem_cons.mpr h), ?_⟩
  show (a == a) = true
  simp
theorem okMove_mv2 {s : List Nat} {ns : List (List Nat)} {mv : List Mv} {en : List Int} (h : Parts s ns mv en) : (mv.map eMv).all (okMove (signsOf s ns)) = true := List.all_eq_true.mpr fun d hd => by
  obtain ⟨m, hm, rfl⟩ := List.mem_map.mp hd
  obtain ⟨h1, h2, h3, h4, h5⟩ := h.mvs m hm
  show (okState (.int m.s) && okState (.int m.t) && signIn (signsOf s ns) (.str m.a)) = true
  rw [signIn_yes h5]
  have o : ∀ i : Int, 0 ≤ i → i ≤ 999999 → okState (.int i) = true := fun i a b => by
    show (decide (0 ≤ i) && decide (i ≤ 999999)) = true
    simp [a, b]
  rw [o _ h1 h2, o _ h3 h4]; rfl
theorem flatL_str {l : List Sg} (h : ∀ a ∈ l, sgB a = true) (n : Nat) : D.flatL n (l.map D.str) = true := by
  induction l with
  | nil => rfl
  | cons a l ih =>
    show (D.flat n (.str a) && D.flatL n (l.map D.str)) = true
    rw [sgB_flat (h a List.mem_cons_self), ih fun b hb => h b (List.mem_cons_of_mem _ hb)]; rfl
theorem Parts.signs {s : List Nat} {ns : List (List Nat)} {mv : List Mv} {en : List Int} (h : Parts s ns mv en) (n : Nat) : D.flatL n (signsOf s ns) = true := by
  rw [signsOf_map]
  refine flatL_str (fun a ha => ?_) n
  rcases List.mem_cons.mp ha with rfl | ha
  · decide
  · exact sgs_sgB h.al h.nm ha
theorem Parts.ok {s : List Nat} {ns : List (List Nat)} {mv : List Mv} {en : List Int} (h : Parts s ns mv en) : RuleOk s ns (mvsOf mv) (norm en) :=
  ⟨h.al, h.nm, Nat.le_trans (mvsOf_len mv) h.lm, Nat.le_trans (norm_len en) h.le⟩
theorem okMv_mv {mv : List Mv} (h : MvB mv) : (mv.map eMv).all okMv = true := List.all_eq_true.mpr fun d hd => by
  obtain ⟨m, hm, rfl⟩ := List.mem_map.mp hd
  have := h m hm
  unfold sgB at this
  rw [Bool.and_eq_true, decide_eq_true_eq] at this
  show (m.a.all (· < 128) && decide (m.a.length ≤ 16777216)) = true
  rw [Bool.and_eq_true, decide_eq_true_eq]
  exact ⟨this.1, by omega⟩
section
variable {M : Mng}
theorem r_ruleC (P : PRule M) {c n1 : Nat} (hnew : M.fn n1 = runI M 5 c bRule) (hown : ∀ fs, M.fn 29 [.obj c fs] = M.fn 28 [.obj c fs]) (hfl : fldsG c = [3, 4, 5, 6, 7, 8]) {s : List Nat} {ns : List (List Nat)} {mv : List Mv} {en : List Int} (h : Parts s ns mv en) {vn vm ve : D}
    (hvn : vn = .lst (ns.map D.str) ∨ vn = .tup (ns.map D.str)) (hvm : vm = .lst (mv.map eMv) ∨ vm = .tup (mv.map eMv)) (hve : ve = .lst (en.map D.int) ∨ ve = .tup (en.map D.int)) :
    M.fn n1 [.str s, vn, vm, ve] = .ok (ruleO c s ns (mvsOf mv) (norm en)) := by
  have st := (rule_stepsC P hnew hown hfl (vm := vm) (ve := ve) h.al hvn h.nm).2.2 (movesOf (mv.map eMv)) (endsOf (en.map D.int))
  have lm := h.lm
  have le := h.le
  have sh : ∀ d ∈ mv.map eMv, mvShape d = true := fun d hd => by
    obtain ⟨m, hm, rfl⟩ := List.mem_map.mp hd
    show ([D.int m.s, .str m.a, .int m.t].all simp2) = true
    have := sgB_flat (h.mvB m hm) 60
    show (simp2 (.int m.s) && (simp2 (.str m.a) && (simp2 (.int m.t) && true))) = true
    have e : simp2 (.str m.a) = true := by
      show (simple (.str m.a) && D.flat 60 (.str m.a)) = true
      rw [this]; rfl
    rw [e]; rfl
  have m1 := r_moves P.std P.isn P.stt P.mvs hvm (h.signs 60) sh (by rw [List.length_map]; omega)
  rw [okMove_mv2 h, if_pos rfl] at m1
  have e1 := r_ends P.std P.isn P.stt P.eds hve (fun d hd => by obtain ⟨i, _, rfl⟩ := List.mem_map.mp hd; rfl) (by rw [List.length_map]; omega)
  have ea : (en.map D.int).all okState = true := List.all_eq_true.mpr fun d hd => by
    obtain ⟨i, hi, rfl⟩ := List.mem_map.mp hd
    have := h.ens i hi
    show (decide (0 ≤ i) && decide (i ≤ 999999)) = true
    simp [this.1, this.2]
  rw [ea, if_pos rfl] at e1
  rw [movesOf_mv, endsOf_int] at st
  rw [movesOf_mv] at m1
  rw [endsOf_int] at e1
  have l2 := mvsOf_len mv
  exact st m1 e1 (okMv_mv fun m hm => h.mvB m (mem_mvsOf.mp hm)) (by rw [List.length_map]; omega)
theorem r_rule (P : PRule M) {s : List Nat} {ns : List (List Nat)} {mv : List Mv} {en : List Int} (h : Parts s ns mv en) {vn vm ve : D}
    (hvn : vn = .lst (ns.map D.str) ∨ vn = .tup (ns.map D.str)) (hvm : vm = .lst (mv.map eMv) ∨ vm = .tup (mv.map eMv)) (hve : ve = .lst (en.map D.int) ∨ ve = .tup (en.map D.int)) :
    M.fn 32 [.str s, vn, vm, ve] = .ok (ruleO 2 s ns (mvsOf mv) (norm en)) := r_ruleC P P.new P.own rfl h hvn hvm hve
end
theorem MOk.parts {s : List Nat} {ns : List (List Nat)} {k : Int} {mv : List Mv} {en : List Int} (h : MOk (sgsOf s ns) k mv en) (hk : k ≤ 1000000) (hs : isAlph s = true) (hn : areNames2 (ns.map D.str) = true) (l1 : mv.length ≤ 100000) (l2 : en.length ≤ 100000) : Parts s ns mv en :=
  ⟨hs, hn, fun m hm => by obtain ⟨a, b, c, d, e⟩ := h.mv m hm; exact ⟨a, by omega, c, by omega, e⟩, fun e he => by have := h.en e he; omega, l1, l2⟩
theorem univ_small {mv : List Mv} {k : Nat} (hk : 1 ≤ k) (h : ∀ m ∈ mv, 0 ≤ m.t ∧ m.t < (k : Int)) : (univ mv).length ≤ k := by
  have : (univ mv).length ≤ ((List.range k).map fun i : Nat => (i : Int)).length := asc_len (asc_univ mv) fun x hx => by
    unfold univ at hx
    rw [mem_norm, List.mem_cons] at hx
    have hx2 : 0 ≤ x ∧ x < (k : Int) := by
      rcases hx with rfl | hx
      · omega
      · obtain ⟨m, hm, rfl⟩ := List.mem_map.mp hx
        exact h m hm
    rw [List.mem_map]
    exact ⟨x.toNat, List.mem_range.mpr (by omega), by omega⟩
  simpa using this
end G
namespace G
def plAt (p : List Int) (k : Nat) : Int := p.getD k (-1)
def gapJ (marks : List Sg) (p : List Int) (g : Int) (j : Nat) : List Sg := ((List.range j).filter fun k => plAt p k == g).map fun k => marks.getD k []
def wPre (marks : List Sg) (text : List Nat) (p : List Int) : Nat → List Sg
  | 0 => []
  | g + 1 => wPre marks text p g ++ gapJ marks p g marks.length ++ [[text.getD g 0]]
def wAt (marks : List Sg) (text : List Nat) (p : List Int) (g j : Nat) : List Sg := wPre marks text p g ++ gapJ marks p g j
def mkW (marks : List Sg) (text : List Nat) (p : List Int) : List Sg := wAt marks text p text.length marks.length
structure Val (m g j : Nat) (p : List Int) : Prop where
  len : p.length = m
  bd : ∀ k, k < m → plAt p k = -1 ∨ (0 ≤ plAt p k ∧ (plAt p k < g ∨ (plAt p k = g ∧ k < j)))
  ord : ∀ k, 2 * k + 1 < m → plAt p (2 * k + 1) ≠ -1 → plAt p (2 * k) ≠ -1 ∧ plAt p (2 * k) ≤ plAt p (2 * k + 1)
theorem plAt_set {p : List Int} {k : Nat} {g : Int} (h : k < p.length) (i : Nat) : plAt (p.set k g) i = if i = k then g else plAt p i := by
  unfold plAt
  simp only [List.getD_eq_getElem?_getD, List.getElem?_set]
  by_cases e : k = i
  · subst e; simp [h]
  · rw [if_neg e, if_neg (fun z => e z.symm)]
theorem gapJ_succ (marks : List Sg) (p : List Int) (g : Int) (j : Nat) : gapJ marks p g (j + 1) = gapJ marks p g j ++ if plAt p j = g then [marks.getD j []] else [] := by
  unfold gapJ
  rw [List.range_succ, List.filter_append, List.map_append]
  congr 1
  by_cases h : plAt p j = g
  · rw [if_pos h]; simp [h]
  · rw [if_neg h]; simp [h]
theorem gapJ_congr {marks : List Sg} {p q : List Int} {g : Int} {j : Nat} (h : ∀ k, k < j → (plAt p k = g ↔ plAt q k = g)) : gapJ marks p g j = gapJ marks q g j := by
  induction j with
  | zero => rfl
  | succ j ih =>
    rw [gapJ_succ, gapJ_succ, ih fun k hk => h k (by omega)]
    congr 1
    by_cases e : plAt p j = g
    · rw [if_pos e, if_pos ((h j (by omega)).mp e)]
    · rw [if_neg e, if_neg fun z => e ((h j (by omega)).mpr z)]
theorem wPre_congr {marks : List Sg} {text : List Nat} {p q : List Int} : ∀ {g : Nat}, (∀ k i, k < marks.length → i < g → (plAt p k = (i : Int) ↔ plAt q k = (i : Int))) → wPre marks text p g = wPre marks text q g
  | 0, _ => rfl
  | g + 1, h => by
    rw [wPre, wPre, wPre_congr (g := g) fun k i h1 h2 => h k i h1 (by omega), gapJ_congr fun k hk => h k g hk (by omega)]
section
variable {marks : List Sg} {text : List Nat} {p : List Int} {g j : Nat}
theorem Val.start {m : Nat} : Val m 0 0 (List.replicate m (-1)) := by
  have e : ∀ k, plAt (List.replicate m (-1)) k = -1 := fun k => by
    unfold plAt
    rw [List.getD_eq_getElem?_getD, List.getElem?_replicate]
    split <;> rfl
  exact ⟨List.length_replicate, fun k _ => .inl (e k), fun k _ h => absurd (e _) h⟩
theorem Val.only {m : Nat} {p : List Int} (h : Val m 0 0 p) : p = List.replicate m (-1) := by
  refine List.ext_getElem (by rw [h.len, List.length_replicate]) fun i h1 h2 => ?_
  rw [List.getElem_replicate]
  have hi : i < m := by rw [← h.len]; exact h1
  have e : plAt p i = p[i] := by unfold plAt; rw [List.getD_eq_getElem?_getD, List.getElem?_eq_getElem h1]; rfl
  rcases h.bd i hi with q | q
  · rw [← e]; exact q
  · omega
theorem Val.letter {m : Nat} (h : Val m g m p) : Val m (g + 1) 0 p := ⟨h.len, fun k hk => by have := h.bd k hk; omega, h.ord⟩
theorem Val.letter' {m : Nat} (h : Val m (g + 1) 0 p) : Val m g m p := ⟨h.len, fun k hk => by have := h.bd k hk; omega, h.ord⟩
theorem Val.keep {m : Nat} (h : Val m g j p) : Val m g (j + 1) p := ⟨h.len, fun k hk => by have := h.bd k hk; omega, h.ord⟩
theorem Val.back {m : Nat} (h : Val m g (j + 1) p) (n : plAt p j ≠ g) : Val m g j p := ⟨h.len, fun k hk => by
  by_cases e : k = j
  · subst e; have := h.bd k hk; omega
  · have := h.bd k hk; omega, h.ord⟩
theorem Val.ne {m : Nat} (h : Val m g j p) (hj : j < m) : plAt p j ≠ g := fun e => by have := h.bd j hj; omega
theorem Val.set {m : Nat} (h : Val m g j p) (hj : j < m) (h1 : plAt p j = -1) (h2 : j % 2 = 0 ∨ plAt p (j - 1) ≠ -1) : Val m g (j + 1) (p.set j g) := by
  have hl : j < p.length := by rw [h.len]; exact hj
  refine ⟨by rw [List.length_set]; exact h.len, fun k hk => ?_, fun k hk hn => ?_⟩
  · rw [plAt_set hl]
    split
    · rename_i e; subst e; omega
    · have := h.bd k hk; omega
  · rw [plAt_set hl] at hn ⊢
    rw [plAt_set hl]
    by_cases e : 2 * k + 1 = j
    · rw [if_pos e, if_neg (by omega)]
      have e2 : j - 1 = 2 * k := by omega
      rw [e2] at h2
      have := h.bd (2 * k) (by omega)
      omega
    · rw [if_neg e] at hn ⊢
      by_cases e2 : 2 * k = j
      · have := h.ord k hk hn
        rw [e2, h1] at this
        exact absurd rfl this.1
      · rw [if_neg e2]
        exact h.ord k hk hn
theorem Val.unset {m : Nat} (h : Val m g (j + 1) p) (hj : j < m) (e : plAt p j = g) : Val m g j (p.set j (-1)) ∧ plAt (p.set j (-1)) j = -1 ∧ (j % 2 = 0 ∨ plAt (p.set j (-1)) (j - 1) ≠ -1) ∧ (p.set j (-1)).set j g = p := by
  have hl : j < p.length := by rw [h.len]; exact hj
  refine ⟨⟨by rw [List.length_set]; exact h.len, fun k hk => ?_, fun k hk hn => ?_⟩, ?_, ?_, ?_⟩
  · rw [plAt_set hl]
    split
    · exact .inl rfl
    · have := h.bd k hk; omega
  · rw [plAt_set hl] at hn ⊢
    rw [plAt_set hl]
    by_cases e1 : 2 * k + 1 = j
    · rw [if_pos e1] at hn; exact absurd rfl hn
    · rw [if_neg e1] at hn ⊢
      by_cases e2 : 2 * k = j
      · have h1 := h.ord k hk hn
        have h2 := h.bd (2 * k + 1) hk
        rw [e2] at h1 h2
        omega
      · rw [if_neg e2]; exact h.ord k hk hn
  · rw [plAt_set hl, if_pos rfl]
  · by_cases ev : j % 2 = 0
    · exact .inl ev
    · refine .inr ?_
      rw [plAt_set hl, if_neg (by omega)]
      have h1 := h.ord (j / 2) (by omega) (by rw [show 2 * (j / 2) + 1 = j by omega, e]; omega)
      rw [show 2 * (j / 2) = j - 1 by omega] at h1
      exact h1.1
  · rw [List.set_set]
    refine List.ext_getElem (by simp) fun i h1 h2 => ?_
    rw [List.getElem_set]
    split
    · rename_i ei
      subst ei
      rw [← e]
      unfold plAt
      rw [List.getD_eq_getElem?_getD, List.getElem?_eq_getElem h2]; rfl
    · rfl
theorem wAt_keep (h : Val marks.length g j p) (hj : j < marks.length) : wAt marks text p g (j + 1) = wAt marks text p g j := by
  unfold wAt
  rw [gapJ_succ, if_neg (h.ne hj), List.append_nil]
theorem wAt_set (h : Val marks.length g j p) (hj : j < marks.length) (h1 : plAt p j = -1) : wAt marks text (p.set j g) g (j + 1) = wAt marks text p g j ++ [marks.getD j []] := by
  have hl : j < p.length := by rw [h.len]; exact hj
  unfold wAt
  rw [gapJ_succ, plAt_set hl, if_pos rfl, if_pos rfl, wPre_congr (q := p) fun k i hk hi => ?_, gapJ_congr (q := p) fun k hk => ?_, List.append_assoc]
  · rw [plAt_set hl, if_neg (by omega)]
  · rw [plAt_set hl]
    split
    · rename_i e; subst e; rw [h1]; constructor <;> intro z <;> omega
    · exact Iff.rfl
theorem wAt_letter : wAt marks text p (g + 1) 0 = wAt marks text p g marks.length ++ [[text.getD g 0]] := by
  unfold wAt
  rw [wPre]
  show _ ++ [] = _
  rw [List.append_nil]
end
def allT (n : Nat) : Nat → List (List Int)
  | 0 => [[]]
  | m + 1 => (List.range (n + 2)).flatMap fun i : Nat => (allT n m).map fun p => ((i : Int) - 1) :: p
theorem flatMap_len2 {α β : Type} {f : α → List β} {n : Nat} (h : ∀ a, (f a).length = n) : ∀ (l : List α), (l.flatMap f).length = l.length * n
  | [] => by simp
  | a :: l => by rw [List.flatMap_cons, List.length_append, h, flatMap_len2 h l, List.length_cons, Nat.succ_mul]; omega
theorem allT_len (n : Nat) : ∀ m, (allT n m).length = (n + 2) ^ m
  | 0 => rfl
  | m + 1 => by
    rw [allT, flatMap_len2 (n := (n + 2) ^ m) fun i => by rw [List.length_map, allT_len n m], List.length_range, Nat.pow_succ, Nat.mul_comm]
theorem mem_allT {n : Nat} : ∀ {m : Nat} {p : List Int}, p.length = m → (∀ x ∈ p, -1 ≤ x ∧ x ≤ n) → p ∈ allT n m
  | 0, [], _, _ => List.mem_cons_self
  | 0, _ :: _, h, _ => by cases h
  | m + 1, [], h, _ => by cases h
  | m + 1, x :: p, h, hb => by
    have hx := hb x List.mem_cons_self
    refine List.mem_flatMap.mpr ⟨(x + 1).toNat, List.mem_range.mpr (by omega), List.mem_map.mpr ⟨p, mem_allT (by simpa using h) fun y hy => hb y (List.mem_cons_of_mem _ hy), ?_⟩⟩
    congr 1
    omega
theorem Val.mem {m g j n : Nat} {p : List Int} (h : Val m g j p) (hg : g ≤ n) : p ∈ allT n m := mem_allT h.len fun x hx => by
  obtain ⟨k, hk, e⟩ := List.getElem_of_mem hx
  have e2 : plAt p k = x := by unfold plAt; rw [List.getD_eq_getElem?_getD, List.getElem?_eq_getElem hk, e]; rfl
  have := h.bd k (by rw [← h.len]; exact hk)
  rw [e2] at this
  omega
abbrev Prt := List Int × List Int
structure PI2 (mv : List Mv) (marks : List Sg) (text : List Nat) (g j : Nat) (parts : List Prt) : Prop where
  nd : (parts.map (·.1)).Nodup
  ok : ∀ q ∈ parts, Val marks.length g j q.1 ∧ q.2 = aft mv (wAt marks text q.1 g j) ∧ q.2 ≠ []
  all : ∀ p, Val marks.length g j p → aft mv (wAt marks text p g j) ≠ [] → (p, aft mv (wAt marks text p g j)) ∈ parts
section
variable {mv : List Mv} {marks : List Sg} {text : List Nat} {g j : Nat} {parts : List Prt}
theorem PI2.few (h : PI2 mv marks text g j parts) {n : Nat} (hg : g ≤ n) : parts.length ≤ (n + 2) ^ marks.length := by
  have := nodup_len h.nd (L := allT n marks.length) fun p hp => by
    obtain ⟨q, hq, rfl⟩ := List.mem_map.mp hp
    exact (h.ok q hq).1.mem hg
  rw [List.length_map, allT_len] at this
  exact this
theorem stp_nil (a : Sg) : stp mv [] a = [] := by
  cases e : stp mv [] a with
  | nil => rfl
  | cons x l =>
    have : x ∈ stp mv [] a := by rw [e]; exact List.mem_cons_self
    obtain ⟨s, hs, _⟩ := mem_stp.mp this
    cases hs
theorem PI2.start : PI2 mv marks text 0 0 (if aft mv [] = [] then [] else [(List.replicate marks.length (-1), aft mv [])]) := by
  have hw : ∀ p, wAt marks text p 0 0 = [] := fun p => rfl
  split
  · rename_i e
    exact ⟨List.nodup_nil, fun q h => (by cases h), fun p h hn => by rw [hw] at hn; exact absurd e hn⟩
  · rename_i e
    refine ⟨by simp, fun q hq => ?_, fun p h hn => ?_⟩
    · rw [List.mem_singleton] at hq; subst hq
      exact ⟨Val.start, by rw [hw], e⟩
    · rw [hw, h.only]; simp
noncomputable def addM (mv : List Mv) (marks : List Sg) (g j : Nat) (parts : List Prt) : List Prt := parts.filterMap fun q =>
  if plAt q.1 j = -1 ∧ (j % 2 = 0 ∨ plAt q.1 (j - 1) ≠ -1) ∧ stp mv q.2 (marks.getD j []) ≠ [] then some (q.1.set j g, stp mv q.2 (marks.getD j [])) else none
theorem mem_addM {q : Prt} : q ∈ addM mv marks g j parts ↔ ∃ p ∈ parts, (plAt p.1 j = -1 ∧ (j % 2 = 0 ∨ plAt p.1 (j - 1) ≠ -1) ∧ stp mv p.2 (marks.getD j []) ≠ []) ∧ q = (p.1.set j g, stp mv p.2 (marks.getD j [])) := by
  unfold addM
  rw [List.mem_filterMap]
  constructor
  · rintro ⟨p, hp, h⟩
    split at h
    · rename_i hc; cases h; exact ⟨p, hp, hc, rfl⟩
    · cases h
  · rintro ⟨p, hp, hc, rfl⟩
    exact ⟨p, hp, by rw [if_pos hc]⟩
theorem nodup_filterMap {α β γ : Type} {f : α → Option β} {k : α → γ} {k2 : β → γ} : ∀ {l : List α}, (l.map k).Nodup → (∀ a ∈ l, ∀ b ∈ l, ∀ x y, f a = some x → f b = some y → k2 x = k2 y → k a = k b) → ((l.filterMap f).map k2).Nodup
  | [], _, _ => List.nodup_nil
  | a :: l, h, inj => by
    rw [List.map_cons, List.nodup_cons] at h
    have ih := nodup_filterMap (f := f) (k := k) (k2 := k2) (l := l) h.2 fun a ha b hb => inj a (List.mem_cons_of_mem _ ha) b (List.mem_cons_of_mem _ hb)
    rw [List.filterMap_cons]
    split
    · exact ih
    · rename_i x hx
      rw [List.map_cons, List.nodup_cons]
      refine ⟨fun hm => ?_, ih⟩
      obtain ⟨y, hy, e⟩ := List.mem_map.mp hm
      obtain ⟨b, hb, hf⟩ := List.mem_filterMap.mp hy
      have := inj a List.mem_cons_self b (List.mem_cons_of_mem _ hb) x y hx hf e.symm
      exact h.1 (List.mem_map.mpr ⟨b, hb, this.symm⟩)
theorem PI2.mark (h : PI2 mv marks text g j parts) (hj : j < marks.length) : PI2 mv marks text g (j + 1) (parts ++ addM mv marks g j parts) := by
  refine ⟨?_, fun q hq => ?_, fun p hv hn => ?_⟩
  · rw [List.map_append, List.nodup_append]
    refine ⟨h.nd, ?_, fun a ha b hb e => ?_⟩
    · refine nodup_filterMap (k := (·.1)) h.nd fun a ha b hb x y hx hy e => ?_
      split at hx
      · split at hy
        · rename_i c1 c2
          cases hx; cases hy
          have va := (h.ok a ha).1
          have vb := (h.ok b hb).1
          have e : a.1.set j g = b.1.set j g := e
          refine List.ext_getElem (by rw [va.len, vb.len]) fun i h1 h2 => ?_
          by_cases hi : i = j
          · subst hi
            have e1 : plAt a.1 i = a.1[i] := by unfold plAt; rw [List.getD_eq_getElem?_getD, List.getElem?_eq_getElem h1]; rfl
            have e2 : plAt b.1 i = b.1[i] := by unfold plAt; rw [List.getD_eq_getElem?_getD, List.getElem?_eq_getElem h2]; rfl
            rw [← e1, ← e2, c1.1, c2.1]
          · have e1 : (a.1.set j g)[i]'(by simpa using h1) = a.1[i] := List.getElem_set_ne (fun z => hi z.symm) _
            have e2 : (b.1.set j g)[i]'(by simpa using h2) = b.1[i] := List.getElem_set_ne (fun z => hi z.symm) _
            rw [← e1, ← e2]
            simp only [e]
        · cases hy
      · cases hx
    · subst e
      obtain ⟨q1, h1, rfl⟩ := List.mem_map.mp ha
      obtain ⟨q2, h2, e2⟩ := List.mem_map.mp hb
      obtain ⟨p, hp, _, rfl⟩ := mem_addM.mp h2
      have v1 := (h.ok q1 h1).1
      have vp := (h.ok p hp).1
      have := v1.ne hj
      have e2 : p.1.set j g = q1.1 := e2
      rw [← e2, plAt_set (by rw [vp.len]; exact hj), if_pos rfl] at this
      exact this rfl
  · rcases List.mem_append.mp hq with hq | hq
    · obtain ⟨v, e, ne⟩ := h.ok q hq
      exact ⟨v.keep, by rw [wAt_keep v hj]; exact e, ne⟩
    · obtain ⟨p, hp, ⟨c1, c2, c3⟩, rfl⟩ := mem_addM.mp hq
      obtain ⟨v, e, ne⟩ := h.ok p hp
      refine ⟨v.set hj c1 c2, ?_, c3⟩
      dsimp only
      rw [wAt_set v hj c1, aft_snoc, ← e]
  · rw [List.mem_append]
    by_cases e : plAt p j = g
    · obtain ⟨u1, u2, u3, u4⟩ := hv.unset hj e
      have ew := wAt_set (text := text) u1 hj u2
      rw [u4] at ew
      rw [ew, aft_snoc] at hn ⊢
      have hn0 : aft mv (wAt marks text (p.set j (-1)) g j) ≠ [] := fun z => by rw [z, stp_nil] at hn; exact hn rfl
      refine .inr (mem_addM.mpr ⟨_, h.all _ u1 hn0, ⟨u2, u3, hn⟩, ?_⟩)
      dsimp only
      rw [u4]
    · have v := hv.back e
      rw [wAt_keep v hj] at hn ⊢
      exact .inl (h.all p v hn)
noncomputable def addL (mv : List Mv) (a : Sg) (parts : List Prt) : List Prt := parts.filterMap fun q => if stp mv q.2 a ≠ [] then some (q.1, stp mv q.2 a) else none
theorem PI2.letter (h : PI2 mv marks text g marks.length parts) : PI2 mv marks text (g + 1) 0 (addL mv [text.getD g 0] parts) := by
  have mem : ∀ q, q ∈ addL mv [text.getD g 0] parts ↔ ∃ p ∈ parts, stp mv p.2 [text.getD g 0] ≠ [] ∧ q = (p.1, stp mv p.2 [text.getD g 0]) := fun q => by
    unfold addL
    rw [List.mem_filterMap]
    constructor
    · rintro ⟨p, hp, h⟩
      split at h
      · rename_i hc; cases h; exact ⟨p, hp, hc, rfl⟩
      · cases h
    · rintro ⟨p, hp, hc, rfl⟩
      exact ⟨p, hp, by rw [if_pos hc]⟩
  refine ⟨?_, fun q hq => ?_, fun p hv hn => ?_⟩
  · refine nodup_filterMap (k := (·.1)) h.nd fun a _ b _ x y hx hy e => ?_
    split at hx
    · split at hy
      · cases hx; cases hy; exact e
      · cases hy
    · cases hx
  · obtain ⟨p, hp, hc, rfl⟩ := (mem q).mp hq
    obtain ⟨v, e, ne⟩ := h.ok p hp
    exact ⟨v.letter, by dsimp only; rw [wAt_letter, aft_snoc, ← e], hc⟩
  · rw [wAt_letter, aft_snoc] at hn ⊢
    have hn0 : aft mv (wAt marks text p g marks.length) ≠ [] := fun z => by rw [z, stp_nil] at hn; exact hn rfl
    exact (mem _).mpr ⟨_, h.all p hv.letter' hn0, hn, rfl⟩
structure Full (m n : Nat) (p : List Int) : Prop where
  val : Val m n m p
  all : ∀ k, k < m → plAt p k ≠ -1
theorem PI2.fin (h : PI2 mv marks text text.length marks.length parts) {en : List Int} (p : List Int) :
    (∃ S, (p, S) ∈ parts ∧ -1 ∉ p ∧ ∃ t ∈ S, t ∈ en) ↔ Full marks.length text.length p ∧ Acc mv en (mkW marks text p) := by
  have at_iff : ∀ {p : List Int}, p.length = marks.length → (-1 ∉ p ↔ ∀ k, k < marks.length → plAt p k ≠ -1) := fun {p} hl => by
    constructor
    · intro hn k hk e
      have hk' : k < p.length := by rw [hl]; exact hk
      have e2 : plAt p k = p[k] := by unfold plAt; rw [List.getD_eq_getElem?_getD, List.getElem?_eq_getElem hk']; rfl
      exact hn (by rw [← e, e2]; exact List.getElem_mem _)
    · intro ha hm
      obtain ⟨k, hk, e⟩ := List.getElem_of_mem hm
      have e2 : plAt p k = p[k] := by unfold plAt; rw [List.getD_eq_getElem?_getD, List.getElem?_eq_getElem hk]; rfl
      exact ha k (by rw [← hl]; exact hk) (by rw [e2, e])
  constructor
  · rintro ⟨S, hS, hn, t, ht, he⟩
    obtain ⟨v, e, _⟩ := h.ok _ hS
    dsimp only at v e
    refine ⟨⟨v, (at_iff v.len).mp hn⟩, t, he, ?_⟩
    rw [e] at ht
    exact mem_aft.mp ht
  · rintro ⟨⟨v, ha⟩, t, he, ht⟩
    have hm : t ∈ aft mv (wAt marks text p text.length marks.length) := mem_aft.mpr ht
    exact ⟨_, h.all p v (fun z => by rw [z] at hm; cases hm), (at_iff v.len).mpr ha, t, hm, he⟩
end
end G
namespace G
end G
namespace G
open PySem L2
def eWMC : E := (.and (.cmp .eq (.item (.var 6) (.var 4)) (.neg (.int 1))) (.last (.or (.cmp .eq (.bin .mod (.f1 .int (.var 4)) (.int 2)) (.int 0)) (.last (.cmp .ne (.item (.var 6) (.bin .sub (.var 4) (.int 1))) (.neg (.int 1)))))))
def bWMI : Sm :=
  (.asg 8 (.calm 51 (.cons (.var 0) (.cons (.var 7) (.cons (.item (.var 3) (.var 4)) .nil))))
  (.ifs (.cmp .gt (.f1 .len (.var 8)) (.int 0))
  (.app 5 (.tup (.cons (.bin .add (.bin .add (.slice (.var 6) .nil (.var 4)) (.tup (.cons (.var 2) .nil))) (.slice (.var 6) (.bin .add (.var 4) (.int 1)) .nil)) (.cons (.var 8) .nil)))
  .nil)
  .nil
  .nil))
def bWMB : Sm :=
  (.ifs eWMC
  bWMI
  .nil
  .nil)
def bWML : Sm :=
  (.asgO 5 (.lst .nil)
  (.loop [6, 7] [6, 7, 8] false (.var 1)
  bWMB
  (.asg 1 (.bin .add (.var 1) (.var 5))
  .nil)))
def bWM : Sm :=
  (.asg 3 (.call 67 (.cons (.var 0) .nil))
  (.loop [4] [4, 5, 6, 7, 8] true (.cons (.f1 .len (.var 3)) .nil)
  bWML
  (.ret (.var 1))))
def bWLB : Sm :=
  (.asg 6 (.calm 51 (.cons (.var 0) (.cons (.var 5) (.cons (.var 2) .nil))))
  (.ifs (.cmp .gt (.f1 .len (.var 6)) (.int 0))
  (.app 3 (.tup (.cons (.var 4) (.cons (.var 6) .nil)))
  .nil)
  .nil
  .nil))
def bWL : Sm :=
  (.asgO 3 (.lst .nil)
  (.loop [4, 5] [4, 5, 6] false (.var 1)
  bWLB
  (.frz 3 (.ret (.var 3)))))
def bPlL : Sm :=
  (.asg 2 (.calm 69 (.cons (.var 0) (.cons (.var 2) (.cons (.var 3) .nil))))
  (.ifs (.cmp .lt (.var 3) (.f1 .len (.var 1)))
  (.asg 2 (.calm 71 (.cons (.var 0) (.cons (.var 2) (.cons (.item (.var 1) (.var 3)) .nil))))
  .nil)
  .nil
  .nil))
def ePlC : E := (.and (.cmp .notin (.neg (.int 1)) (.var 4)) (.last (.calm 73 (.cons (.var 0) (.cons (.var 5) .nil)))))
def ePl : E := (.comp [4, 5] false (.var 2) ePlC (.var 4))
def bPlLp : Sm :=
  (.loop [3] [3] true (.cons (.bin .add (.f1 .len (.var 1)) (.int 1)) .nil)
  bPlL
  (.ret (.f1 .sorted ePl)))
def bPl : Sm :=
  (.asg 2 (.lst (.cons (.tup (.cons (.bin .mul (.tup (.cons (.neg (.int 1)) .nil)) (.f1 .len (.call 67 (.cons (.var 0) .nil)))) (.cons (.calm 49 (.cons (.var 0) (.cons (.lst (.cons (.int 0) .nil)) .nil))) .nil))) .nil))
  bPlLp)
structure PFind (M : Mng) (cs : List Nat) : Prop extends PMach M cs where
  mrk : M.fn 28 = run M 3 bMarks
  mrk' : M.fn 67 = methS cs fun ds => (M.fn 28 ds).noexc
  wm : M.fn 68 = run M 9 bWM
  wm' : M.fn 69 = methS cs (M.fn 68)
  wl : M.fn 70 = run M 7 bWL
  wl' : M.fn 71 = methS cs (M.fn 70)
  ei : M.fn 72 = run M 3 bEndsIn
  ei' : M.fn 73 = methS cs (M.fn 72)
  pl : M.fn 74 = run M 6 bPl
  pl' : M.fn 75 = methS cs (M.fn 74)
section
variable {M : Mng} {cs : List Nat} {n0 : Nat} {c : Nat} {s : List Nat} {ns : List (List Nat)} {mv : List Mv} {en : List Int}
def DomW (sg : List Sg) (mv : List Mv) (k : Nat) : Prop := ∀ w : List Sg, w.length < k → (∀ a ∈ w, a ∈ sg) → aft mv w ∈ domL sg mv
theorem domW_small {sg : List Sg} (h : (univ mv).length ≤ 20) (k : Nat) : DomW sg mv k := fun w _ _ => dom_small h w
end
end G
namespace G
def spansL (n : Nat) : List (Int × Int) := (List.range (n + 1)).flatMap fun a : Nat => (List.range (n + 1 - a)).map fun b : Nat => ((a : Int), (a : Int) + (b : Int))
def rowsL (n : Nat) : Nat → List (List Int)
  | 0 => [[]]
  | w + 1 => (rowsL n w).flatMap fun r => (spansL n).map fun s => r ++ [s.1, s.2]
inductive IsRow (n : Nat) : Nat → List Int → Prop
  | nil : IsRow n 0 []
  | snoc {w : Nat} {r : List Int} {a b : Int} : IsRow n w r → 0 ≤ a → a ≤ b → b ≤ n → IsRow n (w + 1) (r ++ [a, b])
theorem IsRow.len {n w : Nat} {p : List Int} (h : IsRow n w p) : p.length = 2 * w := by
  induction h with
  | nil => rfl
  | snoc _ _ _ _ ih => rw [List.length_append, ih]; simp; omega
theorem Full.row {n : Nat} : ∀ {w : Nat} {p : List Int}, Full (2 * w) n p → IsRow n w p
  | 0, p, h => by
    have : p = [] := List.length_eq_zero_iff.mp h.val.len
    subst this; exact .nil
  | w + 1, p, h => by
    have hl := h.val.len
    have e : p = p.take (2 * w) ++ [plAt p (2 * w), plAt p (2 * w + 1)] := by
      refine List.ext_getElem (by rw [List.length_append, List.length_take]; simp; omega) fun i h1 h2 => ?_
      have pe : ∀ k (hk : k < p.length), plAt p k = p[k] := fun k hk => by unfold plAt; rw [List.getD_eq_getElem?_getD, List.getElem?_eq_getElem hk]; rfl
      by_cases hi : i < 2 * w
      · rw [List.getElem_append_left (by rw [List.length_take]; omega), List.getElem_take]
      · rw [List.getElem_append_right (by rw [List.length_take]; omega)]
        have ht : (p.take (2 * w)).length = 2 * w := by rw [List.length_take]; omega
        simp only [ht]
        rcases (by omega : i = 2 * w ∨ i = 2 * w + 1) with rfl | rfl
        · simp [pe _ h1]
        · simp [pe _ h1]
    have b1 := h.val.bd (2 * w) (by omega)
    have b2 := h.val.bd (2 * w + 1) (by omega)
    have a1 := h.all (2 * w) (by omega)
    have a2 := h.all (2 * w + 1) (by omega)
    have o := h.val.ord w (by omega) a2
    rw [e]
    have ht : (p.take (2 * w)).length = 2 * w := by rw [List.length_take]; omega
    have e3 : ∀ k, k < 2 * w → plAt (p.take (2 * w)) k = plAt p k := fun k hk => by
      unfold plAt
      rw [List.getD_eq_getElem?_getD, List.getD_eq_getElem?_getD, List.getElem?_take_of_lt hk]
    refine .snoc (Full.row (w := w) ⟨⟨ht, fun k hk => ?_, fun k hk hn => ?_⟩, fun k hk => ?_⟩) (by omega) (by omega) (by omega)
    · rw [e3 k hk]; have := h.val.bd k (by omega); omega
    · rw [e3 _ (by omega)] at hn ⊢
      rw [e3 _ (by omega)]
      exact h.val.ord k (by omega) hn
    · rw [e3 k hk]; exact h.all k (by omega)
open Classical in
noncomputable def findsL (mv : List Mv) (en : List Int) (marks : List Sg) (text : List Nat) (w : Nat) : List (List Int) := (rowsL text.length w).filter fun p => decide (Acc mv en (mkW marks text p))
open Classical in
theorem findsL_congr {mv mv2 : List Mv} {en en2 : List Int} (h : ∀ m, m ∈ mv ↔ m ∈ mv2) (he : ∀ x, x ∈ en ↔ x ∈ en2) (marks : List Sg) (text : List Nat) (w : Nat) : findsL mv en marks text w = findsL mv2 en2 marks text w := by
  unfold findsL
  congr 1
  funext p
  rw [Bool.eq_iff_iff, decide_eq_true_iff, decide_eq_true_iff]
  exact acc_congr h he
end G
namespace L2
open PySem PySem.Spec PyProof.Rows GenW
section
variable {prog : Program} {w : World} {A : Around} {R : GenEnd} {Y : Protocol} {n : Nat} {s₀ : Shared} {c : Code} {fs : List Frame} {s : Shared} {env : Env} {K : Flow → Sem PySem.Fin} {J : Value → Sem PySem.Fin} {gd : Bool → Bool} {lv : List Value → List Value}
end
section
variable {X : Cx}
end
end L2
namespace G
open PySem L2
section
variable {C : Cfg} {T : Tb} {N ps : List Str} {x qual : Str} {st : Stmt} {f : Addr} {fd : FuncData} {g : GenA} {sem : List D → R (List D)}
end
end G
namespace G
open PySem L2
section
variable {C : Cfg} {T : Tb} {X : Cx} {B : Bs} {Γ : Gam} {W : WX} {N ps : List Str} {sc : Scope} {top : Bool} {k n : Nat} {f g : Addr} {fd : FuncData} {x m : Str} {sem : List D → R (List D)} {es : List Expr} {rs : R (List D)} {p pos apos : Pos} {o e : Expr}
end
end G
namespace G
open PySem L2
def eP (p : List Int) : D := .tup (p.map D.int)
section
variable {M : Mng} {cs : List Nat} {n0 : Nat} {c : Nat} {s : List Nat} {ns : List (List Nat)} {mv : List Mv} {en : List Int}
structure Srch (s : List Nat) (ns : List (List Nat)) (mv : List Mv) (text : List Nat) : Prop where
  tl : text.length ≤ 10000
  ts : ∀ a ∈ text, a ∈ s
  dm : DomW (sgsOf s ns) mv (text.length + (markW ns).length)
  sz : (text.length + 2) ^ (markW ns).length ≤ 8000000
def bPlainB : Sm :=
  (.ifs (.or (.cmp .lt (.var 2) (.str [97])) (.last (.cmp .gt (.var 2) (.str [122]))))
  (.raise 2)
  .nil
  .nil)
def bPlain : Sm :=
  (.ifs (.isi [.c 1] (.var 0))
  (.ret (.fld 2 (.var 0)))
  .nil
  (.ifs (.isi [.b "bytes"] (.var 0))
  .any
  .nil
  (.ifs (.not (.isi [.b "str"] (.var 0)))
  (.raise 2)
  .nil
  (.loop [2] [2] false (.var 0)
  bPlainB
  (.ret (.var 0))))))
def bChkB : Sm :=
  (.ifs (.cmp .notin (.var 3) (.fld 3 (.var 0)))
  (.raise 2)
  .nil
  .nil)
def bChk : Sm :=
  (.asg 2 (.call 76 (.cons (.var 1) .nil))
  (.loop [3] [3] false (.var 2)
  bChkB
  (.ret (.var 2))))
def eFindAt : E := (.comp [1] true (.cons (.int 0) (.cons (.f1 .len (.var 0)) (.cons (.int 2) .nil))) .nil (.call 5 (.cons (.item (.var 0) (.var 1)) (.cons (.item (.var 0) (.bin .add (.var 1) (.int 1))) .nil))))
def bFindAt : Sm := (.ret (.f1 .tuple eFindAt))
def gFinds : GenA := ⟨[2], (.calm 75 (.cons (.var 0) (.cons (.calm 78 (.cons (.var 0) (.cons (.var 1) .nil))) .nil))), (.call 79 (.cons (.var 2) .nil))⟩
structure PFs (M : Mng) (cs : List Nat) : Prop extends PFind M cs where
  chk : M.fn 77 = run M 4 bChk
  chk' : M.fn 78 = methS cs (M.fn 77)
  fat : M.fn 79 = run M 2 bFindAt
  spn : PSpan M
end
end G
namespace G
open PySem L2
def eCp (i j : Int) : E := .comp [7] false (.var 1) .nil (.tup (.cons (.int i) (.cons (.var 7) (.cons (.int j) .nil))))
def eB (i j : Int) : E := .bin .add (.var 9) (eCp i j)
def same (s : List Nat) (i j : Int) : List Mv := s.map fun c => ⟨i, [c], j⟩
section
variable {M : Mng} {n0 : Nat}
end
end G
namespace G
open PySem L2
def eTxt : E := (.comp [4] true (.cons (.var 3) .nil) .nil (.item (.var 1) (.bin .mod (.f1 .int (.item (.var 0) (.bin .add (.var 4) (.int 1)))) (.f1 .len (.var 1)))))
def bTxt : Sm :=
  (.asg 3 (.bin .mod (.f1 .int (.item (.var 0) (.int 0))) (.bin .add (.var 2) (.int 1)))
  (.ret (.calm 38 (.cons (.str []) (.cons eTxt .nil)))))
def bSgB : Sm :=
  (.ifs (.cmp .eq (.item (.var 2) (.var 5)) (.var 4))
  (.app 3 (.bin .add (.item (.str [43, 45]) (.bin .mod (.f1 .int (.var 5)) (.int 2))) (.item (.var 0) (.bin .fdiv (.var 5) (.int 2))))
  .nil)
  .nil
  .nil)
def bSgT : Sm :=
  (.ifs (.cmp .lt (.var 4) (.f1 .len (.var 1)))
  (.app 3 (.item (.var 1) (.var 4))
  .nil)
  .nil
  .nil)
def bSgL : Sm :=
  (.loop [5] [5] true (.cons (.f1 .len (.var 2)) .nil)
  bSgB
  bSgT)
def bSgLp : Sm :=
  (.loop [4] [4, 5] true (.cons (.bin .add (.f1 .len (.var 1)) (.int 1)) .nil)
  bSgL
  (.frz 3 (.ret (.var 3))))
def bSg : Sm :=
  (.asgO 3 (.lst .nil)
  bSgLp)
def bSpB : Sm :=
  (.app 1 (.tup (.cons (.var 2) (.cons (.var 3) .nil)))
  .nil)
def bSpL : Sm :=
  (.loop [3] [3] true (.cons (.var 2) (.cons (.bin .add (.var 0) (.int 1)) .nil))
  bSpB
  .nil)
def bSpLp : Sm :=
  (.loop [2] [2, 3] true (.cons (.bin .add (.var 0) (.int 1)) .nil)
  bSpL
  (.frz 1 (.ret (.var 1))))
def bSp : Sm :=
  (.asgO 1 (.lst .nil)
  bSpLp)
def bRwB : Sm :=
  (.app 4 (.bin .add (.var 5) (.var 6))
  .nil)
def bRwL2 : Sm :=
  (.loop [6] [6] false (.call 62 (.cons (.var 0) .nil))
  bRwB
  .nil)
def bRwL : Sm :=
  (.asgO 4 (.lst .nil)
  (.loop [5] [5, 6] false (.var 2)
  bRwL2
  (.asg 2 (.f1 .list (.var 4))
  .nil)))
def bRwLp : Sm :=
  (.loop [3] [3, 4, 5, 6] true (.cons (.var 1) .nil)
  bRwL
  (.ret (.var 2)))
def bRw : Sm :=
  (.asg 2 (.lst (.cons (.tup .nil) .nil))
  bRwLp)
def bFnB : Sm :=
  (.ifs (.call 60 (.cons (.var 0) (.cons (.call 61 (.cons (.var 1) (.cons (.var 2) (.cons (.var 4) .nil)))) .nil)))
  (.app 3 (.var 4)
  .nil)
  .nil
  .nil)
def bFn : Sm :=
  (.asgO 3 (.lst .nil)
  (.loop [4] [4] false (.call 63 (.cons (.f1 .len (.var 2)) (.cons (.f1 .len (.var 1)) .nil)))
  bFnB
  (.frz 3 (.ret (.var 3)))))
section
variable {M : Mng} {n0 : Nat}
end
end G
namespace G
open PySem L2
theorem alph_len {s : List Nat} (h : isAlph s = true) : 2 ≤ s.length ∧ s.length ≤ 3 := by
  unfold isAlph isWord at h
  simp only [Bool.and_eq_true, decide_eq_true_eq] at h
  exact ⟨h.1.1.1, h.1.1.2⟩
def GoodM (sg : List Sg) (m : Mv) : Prop := 0 ≤ m.s ∧ m.s < 4 ∧ 0 ≤ m.t ∧ m.t < 4 ∧ (m.a = [] ∨ m.a ∈ sg)
def AllG (sg : List Sg) (l : List Mv) : Prop := ∀ m ∈ l, GoodM sg m
theorem AllG.nil {sg : List Sg} : AllG sg [] := fun m h => by cases h
theorem AllG.cons {sg : List Sg} {m : Mv} {l : List Mv} (h : GoodM sg m) (t : AllG sg l) : AllG sg (m :: l) := fun x hx => by
  rcases List.mem_cons.mp hx with rfl | hx
  · exact h
  · exact t x hx
theorem AllG.app {sg : List Sg} {a b : List Mv} (h : AllG sg a) (t : AllG sg b) : AllG sg (a ++ b) := fun x hx => by
  rcases List.mem_append.mp hx with hx | hx
  · exact h x hx
  · exact t x hx
end G
namespace G
open PySem L2
section
variable {M : Mng} {n0 : Nat}
end
end G
namespace G
open PySem L2
def bPlcB : Sm :=
  (.ifs (.not (.isi [.c 0] (.var 3)))
  (.ret .non)
  .nil
  (.ifs (.or (.not (.call 13 (.cons (.fld 0 (.var 3)) .nil))) (.last (.not (.call 13 (.cons (.fld 1 (.var 3)) .nil)))))
  (.ret .non)
  .nil
  (.asg 2 (.bin .add (.var 2) (.tup (.cons (.fld 0 (.var 3)) (.cons (.fld 1 (.var 3)) .nil))))
  .nil)))
def bPlc : Sm :=
  (.ifs (.or (.not (.isi [.b "tuple"] (.var 0))) (.last (.cmp .ne (.f1 .len (.var 0)) (.var 1))))
  (.ret .non)
  .nil
  (.asg 2 (.tup .nil)
  (.loop [3] [3] false (.var 0)
  bPlcB
  (.ret (.var 2)))))
def bSameB : Sm :=
  (.ifs (.cmp .ne (.call 65 (.cons (.item (.var 0) (.var 3)) (.cons (.var 2) .nil))) (.item (.var 1) (.var 3)))
  (.ret (.bl false))
  .nil
  .nil)
def bSame : Sm :=
  (.ifs (.or (.not (.isi [.b "list"] (.var 0))) (.last (.cmp .ne (.f1 .len (.var 0)) (.f1 .len (.var 1)))))
  (.ret (.bl false))
  .nil
  (.loop [3] [3] true (.cons (.f1 .len (.var 1)) .nil)
  bSameB
  (.ret (.bl true))))
mutual
theorem eqv_rf : ∀ {n : Nat} (d : D), d.flat n = true → d.eqv d = true
  | _, .non, _ => rfl
  | _, .bl b, _ => by show (b == b) = true; simp
  | _, .int i, _ => by show (i == i) = true; simp
  | _, .str s, _ => by show (s == s) = true; simp
  | n + 1, .tup l, h => eqvL_rf (n := n) l h
  | n + 1, .lst l, h => eqvL_rf (n := n) l h
  | 0, .tup _, h => by cases h
  | 0, .lst _, h => by cases h
  | n, .byt _, h => by cases n <;> cases h
  | n, .obj _ _, h => by cases n <;> cases h
  | n, .scr _, h => by cases n <;> cases h
  | n, .dict _ _ _, h => by cases n <;> cases h
  | n, .cache _, h => by cases n <;> cases h
  | n, .cls _, h => by cases n <;> cases h
theorem eqvL_rf : ∀ {n : Nat} (l : List D), D.flatL n l = true → D.eqvL l l = true
  | _, [], _ => rfl
  | n, d :: l, h => by
    have h : (D.flat n d && D.flatL n l) = true := h
    rw [Bool.and_eq_true] at h
    show (D.eqv d d && D.eqvL l l) = true
    rw [eqv_rf d h.1, eqvL_rf l h.2]
    rfl
end
theorem eqD_refl {d : D} (h : d.flat 60 = true) : eqD d d = .ok true := by
  unfold eqD
  rw [h, eqv_rf d h]
  rfl
section
variable {M : Mng} {n0 : Nat}
end
end G
namespace G
open PySem L2
structure PK (M : Mng) : Prop where
  std : Std M
  fs : PFs M [2]
  rl : PRule M
  s00 : M.sub (.c 0) (.c 0) = some true
  ssT : M.sub (.b "str") (.c 1) = some false
  f1 : M.fn 1 = run M 8 bDraws
  f18 : M.fn 18 = run M 8 bLetters
  f19 : M.fn 19 = run M 6 bWord
  f20 : M.fn 20 = run M 4 bNames
  f21 : M.fn 21 = run M 3 bMarksL
  f22 : M.fn 22 = runN M 6 bMv
  f44 : M.fn 44 = run M 13 bMach
  f38 : M.fn 38 = joinM
  f59 : M.fn 59 = run M 5 bTxt
  f45 : M.fn 45 = run M 5 bFree
  f46 : M.fn 46 = run M 6 bAf
  f60 : M.fn 60 = run M 3 bAcc
  f61 : M.fn 61 = run M 6 bSg
  f62 : M.fn 62 = run M 4 bSp
  f63 : M.fn 63 = run M 7 bRw
  f64 : M.fn 64 = run M 5 bFn
  f13 : M.fn 13 = run M 1 bIsNum
  f65 : M.fn 65 = run M 4 bPlc
  f66 : M.fn 66 = run M 4 bSame
  f76 : M.fn 76 = run M 3 bPlain
  f80 : M.fn 80 = fun ds => (genR M gFinds (gamN 3 ds)).bind fun l => .ok (.lst l)
  f81 : M.fn 81 = methS [2] (M.fn 80)
section
variable {M : Mng} {s : List Nat} {ns : List (List Nat)} {mv : List Mv} {en : List Int} {t : List Nat}
structure KM (s : List Nat) (ns : List (List Nat)) (mv : List Mv) (en : List Int) : Prop where
  al : isAlph s = true
  nm : areNames2 (ns.map D.str) = true
  ok : MOk (sgsOf s ns) 4 mv en
  lm : mv.length ≤ 1000
  le : en.length ≤ 1000
theorem KM.parts (h : KM s ns mv en) : Parts s ns mv en := h.ok.parts (by omega) h.al h.nm (by have := h.lm; omega) (by have := h.le; omega)
theorem KM.univ (h : KM s ns mv en) : (univ (mvsOf mv)).length ≤ 4 := univ_small (k := 4) (by omega) fun m hm => by
  have := h.ok.mv m (mem_mvsOf.mp hm)
  exact ⟨this.2.2.1, this.2.2.2.1⟩
theorem KM.finds (h : KM s ns mv en) : findsL (mvsOf mv) (norm en) (markW ns) t ns.length = findsL mv en (markW ns) t ns.length :=
  findsL_congr (fun m => mem_mvsOf) (fun x => mem_norm) _ _ _
theorem KM.mvB (h : KM s ns mv en) : MvB mv := fun m hm => h.parts.mvB m hm
end
end G
namespace G
open PySem L2
def ePtC : E := (.comp [6] false (.var 0) (.and (.cmp .isin (.item (.var 6) (.int 0)) (.var 3)) (.last (.cmp .ne (.item (.var 6) (.int 1)) (.str [])))) (.var 6))
def bPthB : Sm :=
  (.asg 5 ePtC
  (.ifs (.cmp .gt (.f1 .len (.var 5)) (.int 0))
  (.app 2 (.item (.item (.var 5) (.bin .mod (.f1 .int (.var 4)) (.f1 .len (.var 5)))) (.int 1))
  (.asg 3 (.lend 2 (.call 46 (.cons (.var 0) (.cons (.var 2) .nil))))
  .nil))
  .nil
  .nil))
def bPthL : Sm :=
  (.loop [4] [4, 5] false (.var 1)
  bPthB
  (.frz 2 (.ret (.var 2))))
def bPth : Sm :=
  (.asgO 2 (.lst .nil)
  (.asg 3 (.call 45 (.cons (.var 0) (.cons (.lst (.cons (.int 0) .nil)) .nil)))
  bPthL))
def bTdB : Sm :=
  (.ifs (.or (.not (.isi [.b "int"] (.var 4))) (.last (.isi [.b "bool"] (.var 4))))
  (.ret (.bl false))
  .nil
  .nil)
def bTdL : Sm :=
  (.loop [4] [4] false (.var 3)
  bTdB
  (.ret (.bl true)))
def bTdA : Sm :=
  (.asg 3 (.calm 53 (.cons (.var 0) (.cons (.var 1) .nil)))
  (.ifs (.or (.not (.isi [.b "tuple"] (.var 3))) (.last (.cmp .ne (.f1 .list (.var 3)) (.var 2))))
  (.ret (.bl false))
  .nil
  bTdL))
def eDuC : E := (.comp [3] true (.cons (.int 4) .nil) (.cmp .isin (.var 3) (.var 2)) (.var 3))
def bDuA : Sm :=
  (.asg 2 (.call 46 (.cons (.var 0) (.cons (.var 1) .nil)))
  (.ret eDuC))
section
variable {M : Mng} {n0 : Nat} {s : List Nat} {ns : List (List Nat)} {mv : List Mv} {en : List Int}
theorem flat_intsL : ∀ (l : List Int) (n : Nat), D.flatL n (l.map D.int) = true
  | [], n => by cases n <;> rfl
  | a :: l, n => by
    show (D.flat n (.int a) && D.flatL n (l.map D.int)) = true
    rw [flat_intsL l n]
    cases n <;> rfl
theorem inInts (x : Int) (X : List Int) : inD (.int x) (.lst (X.map D.int)) = .ok (decide (x ∈ X)) := by
  show (if D.flat 60 (.int x) && D.flatL 60 (X.map D.int) then R.ok ((X.map D.int).any fun y => y.eqv (.int x)) else .bad) = _
  rw [flat_intsL X 60]
  show R.ok _ = _
  congr 1
  rw [Bool.eq_iff_iff, List.any_eq_true, decide_eq_true_eq]
  constructor
  · rintro ⟨y, hy, h⟩
    obtain ⟨z, hz, rfl⟩ := List.mem_map.mp hy
    have h : (z == x) = true := h
    rw [eq_of_beq h] at hz
    exact hz
  · intro h
    exact ⟨.int x, List.mem_map_of_mem h, by show (x == x) = true; simp⟩
theorem ways_ev (hb : MvB mv) (hm : mv.length ≤ 10000) (X : List Int) {w : List D} {v1 : D} {d : D} :
    evE M ePtC [.val (.lst (mv.map eMv)), .val v1, .ownL w, .val (.lst (X.map D.int)), .val d, .dead, .dead] = .ok (.lst ((mv.filter fun m => decide (m.s ∈ X) && !decide (m.a = [])).map eMv)) := by
  have cc := compD_all (M := M) (tg := [6]) (Γ := [.val (.lst (mv.map eMv)), .val v1, .ownL w, .val (.lst (X.map D.int)), .val d, .dead, .dead]) (c := some fun Γ' => evE M (.and (.cmp .isin (.item (.var 6) (.int 0)) (.var 3)) (.last (.cmp .ne (.item (.var 6) (.int 1)) (.str [])))) Γ') (f := fun Γ' => evE M (.var 6) Γ') eMv
    (fun m => decide (m.s ∈ X) && !decide (m.a = [])) eMv mv [] (fun m hm' => ⟨[.val (.lst (mv.map eMv)), .val v1, .ownL w, .val (.lst (X.map D.int)), .val d, .dead, .val (eMv m)], rfl, by
      show (evE M _ _).bind truD = _
      have i0 : itemD (eMv m) (.int 0) = .ok (.int m.s) := rfl
      have i1 : itemD (eMv m) (.int 1) = .ok (.str m.a) := rfl
      have iX := inInts m.s X
      have q : eqD (.str m.a) (.str []) = .ok (decide (m.a = [])) := by
        unfold eqD
        rw [sgB_flat (hb m hm') 60]
        show R.ok (m.a == []) = _
        congr 1
        rw [Bool.eq_iff_iff, beq_iff_eq, decide_eq_true_eq]
      generalize eMv m = md at *
      generalize mv.map eMv = mvd at *
      generalize X.map D.int = xd at *
      cases h : decide (m.s ∈ X)
      · rw [h] at iX
        simp (config := { implicitDefEqProofs := false }) [evS, evE, evL, borrow, binD, cmpD, onL, killG, ofOk, bindOk, atNext, atRet, atExc, truB, truI, intK, lenL, lenS, lenT, andK, orK, notK, addK, subK, modK, mulK, fdivK, powK, ltK, leK, eqK, run, runI, runN, outN_rown, outN_exc, gamN, gamM, outR_next, outR_ret, outR_exc, outI_next, outI_exc, doneI, isiR, D.isi, tyD, isiD, D.isN, Mng.wf, evH, Out.mapG, bindX, noExn, endX, i0, i1, iX, q]
      · rw [h] at iX
        simp (config := { implicitDefEqProofs := false }) [evS, evE, evL, borrow, binD, cmpD, onL, killG, ofOk, bindOk, atNext, atRet, atExc, truB, truI, intK, lenL, lenS, lenT, andK, orK, notK, addK, subK, modK, mulK, fdivK, powK, ltK, leK, eqK, run, runI, runN, outN_rown, outN_exc, gamN, gamM, outR_next, outR_ret, outR_exc, outI_next, outI_exc, doneI, isiR, D.isi, tyD, isiD, D.isN, Mng.wf, evH, Out.mapG, bindX, noExn, endX, i0, i1, iX, q], fun _ => by
      generalize eMv m = md at *
      generalize mv.map eMv = mvd at *
      generalize X.map D.int = xd at *
      simp (config := { implicitDefEqProofs := false }) [evS, evE, evL, borrow, binD, cmpD, onL, killG, ofOk, bindOk, atNext, atRet, atExc, truB, truI, intK, lenL, lenS, lenT, andK, orK, notK, addK, subK, modK, mulK, fdivK, powK, ltK, leK, eqK, run, runI, runN, outN_rown, outN_exc, gamN, gamM, outR_next, outR_ret, outR_exc, outI_next, outI_exc, doneI, isiR, D.isi, tyD, isiD, D.isN, Mng.wf, evH, Out.mapG, bindX, noExn, endX]⟩) (by simp; omega)
  unfold ePtC
  have ei : evE M (.var 0) [.val (.lst (mv.map eMv)), .val v1, .ownL w, .val (.lst (X.map D.int)), .val d, .dead, .dead] = .ok (.lst (mv.map eMv)) := by
    generalize mv.map eMv = mvd at *
    generalize X.map D.int = xd at *
    simp (config := { implicitDefEqProofs := false }) [evS, evE, evL, borrow, binD, cmpD, onL, killG, ofOk, bindOk, atNext, atRet, atExc, truB, truI, intK, lenL, lenS, lenT, andK, orK, notK, addK, subK, modK, mulK, fdivK, powK, ltK, leK, eqK, run, runI, runN, outN_rown, outN_exc, gamN, gamM, outR_next, outR_ret, outR_exc, outI_next, outI_exc, doneI, isiR, D.isi, tyD, isiD, D.isN, Mng.wf, evH, Out.mapG, bindX, noExn, endX]
  rw [evE, if_neg Bool.false_ne_true, ei, bindOk, show walkD false (.lst (mv.map eMv)) = .ok (mv.map eMv) from rfl, bindOk]
  show (compD [6] [.val (.lst (mv.map eMv)), .val v1, .ownL w, .val (.lst (X.map D.int)), .val d, .dead, .dead] (some _) _ _ _).noexc.bind _ = _
  rw [cc, noexcOk, bindOk, List.nil_append]
theorem r_path (h45 : M.fn 45 = run M 5 bFree) (h46 : M.fn 46 = run M 6 bAf) (hf : M.fn n0 = run M 7 bPth) (hb : MvB mv) (hm : mv.length ≤ 9000) {sg : List Sg} (hs : ∀ m ∈ mv, m.a = [] ∨ m.a ∈ sg) (hsg : ∀ a ∈ sg, sgB a = true) {l : List Int} (hl : l.length ≤ 1000) :
    ∃ w : List Sg, M.fn n0 [.lst (mv.map eMv), .lst (l.map D.int)] = .ok (.lst (w.map D.str)) ∧ (∀ a ∈ w, a ∈ sg) ∧ w.length ≤ l.length := by
  rw [hf]
  obtain ⟨F0, f1, f2, f3⟩ := r_free h45 hb (by omega) (S := [0]) (by decide)
  have f1 : M.fn 45 [.lst (mv.map eMv), .lst [.int 0]] = .ok (.lst (F0.map D.int)) := f1
  obtain ⟨⟨w, X⟩, q, hI, hI2⟩ := forD_thru (tg := [4]) (kl := [4, 5]) (body := evS M bPthB) (fun t : List Sg × List Int => [.val (.lst (mv.map eMv)), .val (.lst (l.map D.int)), .ownL (t.1.map D.str), .val (.lst (t.2.map D.int)), .dead, .dead, .dead]) (l.map D.int)
    (fun i t => t.1.length ≤ i ∧ ∀ a ∈ t.1, a ∈ sg) (Γ := [.val (.lst (mv.map eMv)), .val (.lst (l.map D.int)), .ownL [], .val (.lst (F0.map D.int)), .dead, .dead, .dead]) (s0 := ([], F0)) rfl ⟨Nat.le_refl 0, fun a h => nomatch h⟩ (fun i t d hd ⟨h1, h2⟩ => by
      obtain ⟨w, X⟩ := t
      dsimp only at h1 h2 ⊢
      have hi : i < l.length := by
        have := (List.getElem?_eq_some_iff.mp hd).1
        simpa using this
      obtain ⟨x, rfl⟩ : ∃ x : Int, d = .int x := by
        rw [List.getElem?_map] at hd
        cases e : l[i]? with
        | none => rw [e] at hd; cases hd
        | some x => rw [e] at hd; cases hd; exact ⟨x, rfl⟩
      have we := ways_ev (M := M) hb (by omega) X (w := w.map D.str) (v1 := .lst (l.map D.int)) (d := .int x)
      have wl : (mv.filter fun m => decide (m.s ∈ X) && !decide (m.a = [])).length ≤ mv.length := List.length_filter_le _ _
      have wm : ∀ m ∈ mv.filter fun m => decide (m.s ∈ X) && !decide (m.a = []), m ∈ mv ∧ m.a ≠ [] := fun m hm' => by
        rw [List.mem_filter] at hm'
        refine ⟨hm'.1, ?_⟩
        have := hm'.2
        simp only [Bool.and_eq_true, Bool.not_eq_true', decide_eq_false_iff_not] at this
        exact this.2
      generalize (mv.filter fun m => decide (m.s ∈ X) && !decide (m.a = [])) = Wy at *
      have ln : f1D .len (.lst (Wy.map eMv)) = .ok (.int Wy.length) := by show R.ok (D.int _) = _; rw [List.length_map]
      refine ⟨[.val (.lst (mv.map eMv)), .val (.lst (l.map D.int)), .ownL (w.map D.str), .val (.lst (X.map D.int)), .val (.int x), .dead, .dead], ?_⟩
      by_cases hz : Wy.length = 0
      · refine ⟨(w, X), [.val (.lst (mv.map eMv)), .val (.lst (l.map D.int)), .ownL (w.map D.str), .val (.lst (X.map D.int)), .val (.int x), .val (.lst (Wy.map eMv)), .dead], rfl, .inl ?_, rfl, by omega, h2⟩
        have ln : f1D .len (.lst (Wy.map eMv)) = .ok (.int 0) := by rw [ln, hz]; rfl
        generalize Wy.map eMv = wd at *
        generalize mv.map eMv = mvd at *
        generalize X.map D.int = xd at *
        generalize l.map D.int = ld at *
        generalize w.map D.str = sd at *
        simp (config := { implicitDefEqProofs := false }) [evS, evE, evL, borrow, binD, cmpD, onL, killG, ofOk, bindOk, atNext, atRet, atExc, truB, truI, intK, lenL, lenS, lenT, andK, orK, notK, addK, subK, modK, mulK, fdivK, powK, ltK, leK, eqK, run, runI, runN, outN_rown, outN_exc, gamN, gamM, outR_next, outR_ret, outR_exc, outI_next, outI_exc, doneI, isiR, D.isi, tyD, isiD, D.isN, Mng.wf, evH, Out.mapG, bindX, noExn, endX, bPthB, we, ln]
      · have hp : (0 : Int) < (Wy.length : Int) := by omega
        have md : modD (.int x) (.int (Wy.length : Int)) = .ok (.int (x % (Wy.length : Int))) := modK _ _ hp
        obtain ⟨b1, b2⟩ := emod_bd x hp
        obtain ⟨m, hm', _, im⟩ := item_map eMv Wy b1 b2
        obtain ⟨hmm, hne⟩ := wm m hm'
        have hin : m.a ∈ sg := (hs m hmm).resolve_left hne
        have ia : itemD (eMv m) (.int 1) = .ok (.str m.a) := rfl
        obtain ⟨A, a1, a2, a3⟩ := r_af h45 h46 hb hm (w := w ++ [m.a]) (fun a ha => by
          rcases List.mem_append.mp ha with h | h
          · exact hsg a (h2 a h)
          · rw [List.mem_singleton.mp h]; exact hsg _ hin)
        rw [List.map_append, List.map_cons, List.map_nil] at a1
        have lr : lendR (w.map D.str ++ [.str m.a]) (.lst (A.map D.int)) = .ok (.lst (A.map D.int)) := by
          have hall : (A.map D.int).all D.isInt = true := by
            rw [List.all_map]
            exact List.all_eq_true.mpr fun _ _ => rfl
          cases w with
          | nil => show (if _ then _ else _) = _; rw [if_pos hall]
          | cons c w => show (if _ then _ else _) = _; rw [if_pos hall]
        refine ⟨(w ++ [m.a], A), [.val (.lst (mv.map eMv)), .val (.lst (l.map D.int)), .ownL (w.map D.str ++ [.str m.a]), .val (.lst (A.map D.int)), .val (.int x), .val (.lst (Wy.map eMv)), .dead], rfl, .inl ?_, ?_, ?_, ?_⟩
        · have lw : (w.map D.str).length < 16777216 := by rw [List.length_map]; omega
          generalize Wy.map eMv = wd at *
          generalize mv.map eMv = mvd at *
          generalize X.map D.int = xd at *
          generalize A.map D.int = ad at *
          generalize l.map D.int = ld at *
          generalize hsd : w.map D.str = sd at *
          generalize eMv m = md0 at *
          generalize (Wy.length : Int) = k at *
          have kp : ¬ (k ≤ 0) := by omega
          simp (config := { implicitDefEqProofs := false }) [evS, evE, evL, borrow, binD, cmpD, onL, killG, ofOk, bindOk, atNext, atRet, atExc, truB, truI, intK, lenL, lenS, lenT, andK, orK, notK, addK, subK, modK, mulK, fdivK, powK, ltK, leK, eqK, run, runI, runN, outN_rown, outN_exc, gamN, gamM, outR_next, outR_ret, outR_exc, outI_next, outI_exc, doneI, isiR, D.isi, tyD, isiD, D.isN, Mng.wf, evH, Out.mapG, bindX, noExn, endX, bPthB, we, ln, md, im, ia, a1, lr, LINE, lw, hp]
        · dsimp only
          rw [List.map_append]
          rfl
        · dsimp only
          rw [List.length_append]; simp; omega
        · intro a ha
          rcases List.mem_append.mp ha with h | h
          · exact h2 a h
          · rw [List.mem_singleton.mp h]; exact hin)
  dsimp only at q hI hI2
  rw [List.length_map] at hI
  refine ⟨w, ?_, hI2, hI⟩
  have wk : walkD false (.lst (l.map D.int)) = .ok (l.map D.int) := rfl
  have ew : evE M (.var 1) [.val (.lst (mv.map eMv)), .val (.lst (l.map D.int)), .ownL [], .val (.lst (F0.map D.int)), .dead, .dead, .dead] = .ok (.lst (l.map D.int)) := by
    generalize mv.map eMv = mvd at *
    generalize l.map D.int = ld at *
    generalize F0.map D.int = fd at *
    simp (config := { implicitDefEqProofs := false }) [evS, evE, evL, borrow, binD, cmpD, onL, killG, ofOk, bindOk, atNext, atRet, atExc, truB, truI, intK, lenL, lenS, lenT, andK, orK, notK, addK, subK, modK, mulK, fdivK, powK, ltK, leK, eqK, run, runI, runN, outN_rown, outN_exc, gamN, gamM, outR_next, outR_ret, outR_exc, outI_next, outI_exc, doneI, isiR, D.isi, tyD, isiD, D.isN, Mng.wf, evH, Out.mapG, bindX, noExn, endX]
  have lp : evS M bPthL [.val (.lst (mv.map eMv)), .val (.lst (l.map D.int)), .ownL [], .val (.lst (F0.map D.int)), .dead, .dead, .dead] = .ret (.lst (w.map D.str)) := by
    unfold bPthL
    rw [loop_seq ew wk, q, atNext]
    generalize mv.map eMv = mvd at *
    generalize l.map D.int = ld at *
    generalize w.map D.str = sd at *
    generalize X.map D.int = xd at *
    simp (config := { implicitDefEqProofs := false }) [evS, evE, evL, borrow, binD, cmpD, onL, killG, ofOk, bindOk, atNext, atRet, atExc, truB, truI, intK, lenL, lenS, lenT, andK, orK, notK, addK, subK, modK, mulK, fdivK, powK, ltK, leK, eqK, run, runI, runN, outN_rown, outN_exc, gamN, gamM, outR_next, outR_ret, outR_exc, outI_next, outI_exc, doneI, isiR, D.isi, tyD, isiD, D.isN, Mng.wf, evH, Out.mapG, bindX, noExn, endX, frzG]
  generalize mv.map eMv = mvd at *
  generalize l.map D.int = ld at *
  generalize w.map D.str = sd at *
  generalize F0.map D.int = fd at *
  simp (config := { implicitDefEqProofs := false }) [evS, evE, evL, borrow, binD, cmpD, onL, killG, ofOk, bindOk, atNext, atRet, atExc, truB, truI, intK, lenL, lenS, lenT, andK, orK, notK, addK, subK, modK, mulK, fdivK, powK, ltK, leK, eqK, run, runI, runN, outN_rown, outN_exc, gamN, gamM, outR_next, outR_ret, outR_exc, outI_next, outI_exc, doneI, isiR, D.isi, tyD, isiD, D.isN, Mng.wf, evH, Out.mapG, bindX, noExn, endX, bPth, f1, lp, LINE]
theorem aft_bd {k : Int} (hk0 : 0 < k) (h : ∀ m ∈ mv, 0 ≤ m.t ∧ m.t < k) {w : List Sg} : ∀ x ∈ aft mv w, 0 ≤ x ∧ x < k := fun x hx => by
  have hu := aft_univ hx
  unfold univ at hu
  rw [mem_norm, List.mem_cons] at hu
  rcases hu with rfl | hu
  · omega
  · obtain ⟨m, hm, rfl⟩ := List.mem_map.mp hu
    exact h m hm
theorem aft_congr {mv2 : List Mv} (h : ∀ m, m ∈ mv ↔ m ∈ mv2) (w : List Sg) : aft mv w = aft mv2 w :=
  asc_uniq (asc_aft _) (asc_aft _) fun x => by
    rw [mem_aft, mem_aft]
    exact ⟨fun r => r.congr fun m => (h m).mp, fun r => r.congr fun m => (h m).mpr⟩
theorem pick_ev {Γ : Gam} {i j : Nat} {it : E} {l : List Int} {sg : List Sg} (hij : i ≠ j) (hi : Γ[i]? = some (.val (.lst (sg.map D.str)))) (hj : j < Γ.length) (he : evE M it Γ = .ok (.lst (l.map D.int))) (h0 : 0 < sg.length) (hl : l.length ≤ 10000) :
    ∃ w : List Sg, evE M (.comp [j] false it .nil (.item (.var i) (.bin .mod (.f1 .int (.var j)) (.f1 .len (.var i))))) Γ = .ok (.lst (w.map D.str)) ∧ (∀ a ∈ w, a ∈ sg) ∧ w.length = l.length := by
  have hp : (0 : Int) < (sg.length : Int) := by omega
  have pk : ∀ x : Int, ∃ a, a ∈ sg ∧ itemD (.lst (sg.map D.str)) (.int (x % (sg.length : Int))) = .ok (.str a) := fun x => by
    obtain ⟨b1, b2⟩ := emod_bd x hp
    obtain ⟨a, ha, _, ia⟩ := item_map D.str sg b1 b2
    exact ⟨a, ha, ia⟩
  let f : Int → Sg := fun x => Classical.choose (pk x)
  have hf : ∀ x, f x ∈ sg ∧ itemD (.lst (sg.map D.str)) (.int (x % (sg.length : Int))) = .ok (.str (f x)) := fun x => Classical.choose_spec (pk x)
  clear_value f
  refine ⟨l.map f, ?_, fun a ha => ?_, by simp⟩
  · have cc := compD_all (M := M) (tg := [j]) (Γ := Γ.set j .dead) (c := none) (f := fun Γ' => evE M (.item (.var i) (.bin .mod (.f1 .int (.var j)) (.f1 .len (.var i)))) Γ') D.int (fun _ => true) (fun x => .str (f x)) l [] (fun x hx => ⟨(Γ.set j .dead).set j (.val (.int x)), rfl, rfl, fun _ => by
      have hvj : ((Γ.set j .dead).set j (.val (.int x)))[j]? = some (.val (.int x)) := by
        rw [List.getElem?_set_self (by simpa using hj)]
      have hvi : ((Γ.set j .dead).set j (.val (.int x)))[i]? = some (.val (.lst (sg.map D.str))) := by
        rw [List.getElem?_set_ne (Ne.symm hij), List.getElem?_set_ne (Ne.symm hij), hi]
      have ln : f1D .len (.lst (sg.map D.str)) = .ok (.int sg.length) := by show R.ok (D.int _) = _; rw [List.length_map]
      have md : modD (.int x) (.int (sg.length : Int)) = .ok (.int (x % (sg.length : Int))) := modK _ _ hp
      have ia := (hf x).2
      generalize (Γ.set j .dead).set j (.val (.int x)) = Γ' at *
      generalize sg.map D.str = sd at *
      generalize (sg.length : Int) = k at *
      simp (config := { implicitDefEqProofs := false }) [evS, evE, evL, borrow, binD, cmpD, onL, killG, ofOk, bindOk, atNext, atRet, atExc, truB, truI, intK, lenL, lenS, lenT, andK, orK, notK, addK, subK, modK, mulK, fdivK, powK, ltK, leK, eqK, run, runI, runN, outN_rown, outN_exc, gamN, gamM, outR_next, outR_ret, outR_exc, outI_next, outI_exc, doneI, isiR, D.isi, tyD, isiD, D.isN, Mng.wf, evH, Out.mapG, bindX, noExn, endX, hvj, hvi, ln, md, hp, ia]⟩) (by simpa using Nat.le_trans hl (by decide))
    have kj : killG Γ [j] = Γ.set j .dead := rfl
    rw [evE, if_neg Bool.false_ne_true, he, bindOk, show walkD false (.lst (l.map D.int)) = .ok (l.map D.int) from rfl, bindOk, kj]
    show (compD [j] (Γ.set j .dead) none _ _ _).noexc.bind _ = _
    rw [cc, noexcOk, bindOk, List.nil_append, List.filter_eq_self.mpr (fun _ _ => rfl), List.map_map]
    rfl
  · obtain ⟨x, _, rfl⟩ := List.mem_map.mp ha
    exact (hf x).1
theorem r_dueA (h45 : M.fn 45 = run M 5 bFree) (h46 : M.fn 46 = run M 6 bAf) (hf : M.fn n0 = run M 4 bDuA) (hb : MvB mv) (hm : mv.length ≤ 9000) (hk : ∀ m ∈ mv, 0 ≤ m.t ∧ m.t < 4) {w : List Sg} (hw : ∀ a ∈ w, sgB a = true) :
    M.fn n0 [.lst (mv.map eMv), .lst (w.map D.str)] = .ok (.lst ((aft mv w).map D.int)) := by
  rw [hf]
  obtain ⟨A, a1, a2, a3⟩ := r_af h45 h46 hb hm hw
  have wk := walk_nat 4 (by omega)
  have wk : walkD true (.tup [.int 4]) = .ok ((List.range 4).map fun k => D.int (k : Nat)) := wk
  have cc := compD_all (M := M) (tg := [3]) (Γ := [.val (.lst (mv.map eMv)), .val (.lst (w.map D.str)), .val (.lst (A.map D.int)), .dead]) (c := some fun Γ' => evE M (.cmp .isin (.var 3) (.var 2)) Γ') (f := fun Γ' => evE M (.var 3) Γ') (fun k : Nat => D.int (k : Nat))
    (fun k : Nat => decide ((k : Int) ∈ A)) (fun k : Nat => D.int (k : Nat)) (List.range 4) [] (fun k hk' => ⟨[.val (.lst (mv.map eMv)), .val (.lst (w.map D.str)), .val (.lst (A.map D.int)), .val (.int (k : Nat))], rfl, by
      show (evE M _ _).bind truD = _
      have iX := inInts (k : Int) A
      generalize mv.map eMv = mvd at *
      generalize w.map D.str = sd at *
      generalize A.map D.int = ad at *
      simp (config := { implicitDefEqProofs := false }) [evS, evE, evL, borrow, binD, cmpD, onL, killG, ofOk, bindOk, atNext, atRet, atExc, truB, truI, intK, lenL, lenS, lenT, andK, orK, notK, addK, subK, modK, mulK, fdivK, powK, ltK, leK, eqK, run, runI, runN, outN_rown, outN_exc, gamN, gamM, outR_next, outR_ret, outR_exc, outI_next, outI_exc, doneI, isiR, D.isi, tyD, isiD, D.isN, Mng.wf, evH, Out.mapG, bindX, noExn, endX, iX], fun _ => by
      generalize mv.map eMv = mvd at *
      generalize w.map D.str = sd at *
      generalize A.map D.int = ad at *
      simp (config := { implicitDefEqProofs := false }) [evS, evE, evL, borrow, binD, cmpD, onL, killG, ofOk, bindOk, atNext, atRet, atExc, truB, truI, intK, lenL, lenS, lenT, andK, orK, notK, addK, subK, modK, mulK, fdivK, powK, ltK, leK, eqK, run, runI, runN, outN_rown, outN_exc, gamN, gamM, outR_next, outR_ret, outR_exc, outI_next, outI_exc, doneI, isiR, D.isi, tyD, isiD, D.isN, Mng.wf, evH, Out.mapG, bindX, noExn, endX]⟩) (by simp)
  have eA : ((List.range 4).filter fun k : Nat => decide ((k : Int) ∈ A)).map (fun k : Nat => D.int (k : Nat)) = (aft mv w).map D.int := by
    have e : (((List.range 4).filter fun k : Nat => decide ((k : Int) ∈ A)).map fun k : Nat => (k : Int)) = aft mv w := by
      refine asc_uniq ?_ (asc_aft w) fun x => ?_
      · show List.Pairwise _ _
        rw [List.pairwise_map]
        exact (List.pairwise_lt_range.filter _).imp fun h => by omega
      · rw [List.mem_map, mem_aft]
        constructor
        · rintro ⟨k, hk', rfl⟩
          rw [List.mem_filter, decide_eq_true_eq] at hk'
          exact (a2 _).mp hk'.2
        · intro h
          have hx : 0 ≤ x ∧ x < 4 := by
            have hA := aft_bd (mv := mv) (w := w) (k := 4) (by decide) hk
            exact hA x (mem_aft.mpr h)
          refine ⟨x.toNat, ?_, by omega⟩
          rw [List.mem_filter, List.mem_range, decide_eq_true_eq]
          refine ⟨by omega, (a2 _).mpr ?_⟩
          rw [show ((x.toNat : Nat) : Int) = x by omega]
          exact h
    rw [← e, List.map_map]
    rfl
  have ed : evE M eDuC [.val (.lst (mv.map eMv)), .val (.lst (w.map D.str)), .val (.lst (A.map D.int)), .dead] = .ok (.lst ((aft mv w).map D.int)) := by
    unfold eDuC
    rw [evE, if_pos rfl]
    have el : evL M (.cons (.int 4) .nil) [.val (.lst (mv.map eMv)), .val (.lst (w.map D.str)), .val (.lst (A.map D.int)), .dead] = .ok [.int 4] := by
      generalize mv.map eMv = mvd at *
      generalize w.map D.str = sd at *
      generalize A.map D.int = ad at *
      simp (config := { implicitDefEqProofs := false }) [evS, evE, evL, borrow, binD, cmpD, onL, killG, ofOk, bindOk, atNext, atRet, atExc, truB, truI, intK, lenL, lenS, lenT, andK, orK, notK, addK, subK, modK, mulK, fdivK, powK, ltK, leK, eqK, run, runI, runN, outN_rown, outN_exc, gamN, gamM, outR_next, outR_ret, outR_exc, outI_next, outI_exc, doneI, isiR, D.isi, tyD, isiD, D.isN, Mng.wf, evH, Out.mapG, bindX, noExn, endX]
    rw [el, bindOk, wk, bindOk]
    show (compD [3] [.val (.lst (mv.map eMv)), .val (.lst (w.map D.str)), .val (.lst (A.map D.int)), .dead] (some _) _ _ _).noexc.bind _ = _
    rw [cc, noexcOk, bindOk, List.nil_append, eA]
  generalize mv.map eMv = mvd at *
  generalize w.map D.str = sd at *
  generalize A.map D.int = ad at *
  generalize (aft mv w).map D.int = rd at *
  simp (config := { implicitDefEqProofs := false }) [evS, evE, evL, borrow, binD, cmpD, onL, killG, ofOk, bindOk, atNext, atRet, atExc, truB, truI, intK, lenL, lenS, lenT, andK, orK, notK, addK, subK, modK, mulK, fdivK, powK, ltK, leK, eqK, run, runI, runN, outN_rown, outN_exc, gamN, gamM, outR_next, outR_ret, outR_exc, outI_next, outI_exc, doneI, isiR, D.isi, tyD, isiD, D.isN, Mng.wf, evH, Out.mapG, bindX, noExn, endX, bDuA, a1, ed]
theorem td_loop (S : Std M) (v0 v1 v2 v3 : D) : ∀ (l : List Int) (c : Cell), forD [4] [4] (evS M bTdB) (l.map D.int) [.val v0, .val v1, .val v2, .val v3, c] = .next [.val v0, .val v1, .val v2, .val v3, .dead]
  | [], c => by simp [forD, killG]
  | x :: l, c => by
    have i1 : isiR M [.b "int"] (.int x) = .ok (.bl true) := by
      show (match isiD M.sub [.b "int"] (.b "int") with | some b => R.ok (D.bl b) | none => .bad) = _
      rw [isiD, S.sb]; rfl
    have i2 : isiR M [.b "bool"] (.int x) = .ok (.bl false) := by
      show (match isiD M.sub [.b "bool"] (.b "int") with | some b => R.ok (D.bl b) | none => .bad) = _
      rw [isiD, S.sb]; rfl
    have e : evS M bTdB [.val v0, .val v1, .val v2, .val v3, .val (.int x)] = .next [.val v0, .val v1, .val v2, .val v3, .val (.int x)] := by
      simp (config := { implicitDefEqProofs := false }) [evS, evE, evL, borrow, binD, cmpD, onL, killG, ofOk, bindOk, atNext, atRet, atExc, truB, truI, intK, lenL, lenS, lenT, andK, orK, notK, addK, subK, modK, mulK, fdivK, powK, ltK, leK, eqK, run, runI, runN, outN_rown, outN_exc, gamN, gamM, outR_next, outR_ret, outR_exc, outI_next, outI_exc, doneI, D.isN, Mng.wf, evH, Out.mapG, bindX, noExn, endX, bTdB, i1, i2]
    rw [List.map_cons, forD]
    show Out.of _ (R.ok ([.val v0, .val v1, .val v2, .val v3, .val (.int x)] : Gam)) _ = _
    rw [ofOk, e]
    exact td_loop S v0 v1 v2 v3 l _
theorem r_tdA (S : Std M) (hf : M.fn n0 = run M 5 bTdA) {o v : D} {X : List Int} (h : M.fn 53 [o, v] = .ok (eI X)) : M.fn n0 [o, v, .lst (X.map D.int)] = .ok (.bl true) := by
  rw [hf]
  have i1 : isiR M [.b "tuple"] (eI X) = .ok (.bl true) := by
    show (match isiD M.sub [.b "tuple"] (.b "tuple") with | some b => R.ok (D.bl b) | none => .bad) = _
    rw [isiD, S.sb]; rfl
  have ls : f1D .list (eI X) = .ok (.lst (X.map D.int)) := rfl
  have q : eqD (.lst (X.map D.int)) (.lst (X.map D.int)) = .ok true := eqD_refl (flat_intsL X 59)
  have lp := td_loop S o v (.lst (X.map D.int)) (eI X) X .dead
  have ew : evE M (.var 3) [.val o, .val v, .val (.lst (X.map D.int)), .val (eI X), .dead] = .ok (eI X) := by
    generalize eI X = t at *
    generalize X.map D.int = xd at *
    simp (config := { implicitDefEqProofs := false }) [evS, evE, evL, borrow, binD, cmpD, onL, killG, ofOk, bindOk, atNext, atRet, atExc, truB, truI, intK, lenL, lenS, lenT, andK, orK, notK, addK, subK, modK, mulK, fdivK, powK, ltK, leK, eqK, run, runI, runN, outN_rown, outN_exc, gamN, gamM, outR_next, outR_ret, outR_exc, outI_next, outI_exc, doneI, isiR, D.isi, tyD, isiD, D.isN, Mng.wf, evH, Out.mapG, bindX, noExn, endX]
  have lq : evS M bTdL [.val o, .val v, .val (.lst (X.map D.int)), .val (eI X), .dead] = .ret (.bl true) := by
    unfold bTdL
    rw [loop_seq ew (show walkD false (eI X) = .ok (X.map D.int) from rfl), lp, atNext]
    generalize eI X = t at *
    generalize X.map D.int = xd at *
    simp (config := { implicitDefEqProofs := false }) [evS, evE, evL, borrow, binD, cmpD, onL, killG, ofOk, bindOk, atNext, atRet, atExc, truB, truI, intK, lenL, lenS, lenT, andK, orK, notK, addK, subK, modK, mulK, fdivK, powK, ltK, leK, eqK, run, runI, runN, outN_rown, outN_exc, gamN, gamM, outR_next, outR_ret, outR_exc, outI_next, outI_exc, doneI, isiR, D.isi, tyD, isiD, D.isN, Mng.wf, evH, Out.mapG, bindX, noExn, endX]
  generalize eI X = t at *
  generalize X.map D.int = xd at *
  simp (config := { implicitDefEqProofs := false }) [evS, evE, evL, borrow, binD, cmpD, onL, killG, ofOk, bindOk, atNext, atRet, atExc, truB, truI, intK, lenL, lenS, lenT, andK, orK, notK, addK, subK, modK, mulK, fdivK, powK, ltK, leK, eqK, run, runI, runN, outN_rown, outN_exc, gamN, gamM, outR_next, outR_ret, outR_exc, outI_next, outI_exc, doneI, D.isN, Mng.wf, evH, Out.mapG, bindX, noExn, endX, bTdA, h, i1, ls, q, lq, noexcOk]
end
end G
namespace G
open PySem L2
def N_law_draws_1 : List Str := ["_law_script", "_law_place", "_law_count", "_law_cell", "_law_left", "_law_draws_here", "_law_k", "_law_mixed"]
def N_law_letters_18 : List Str := ["_law_draws_here", "_law_at", "_law_signs", "_law_one", "_law_two", "_law_three", "_law_letters_here", "_law_choice"]
def N_law_word_19 : List Str := ["_law_draws_here", "_law_at", "_law_signs", "_law_word_here", "_law_k", "_law_draw"]
def N_law_names_20 : List Str := ["_law_draws_here", "_law_at", "_law_names_here", "_law_other"]
def N_law_marks_21 : List Str := ["_law_names_here", "_law_marks_here", "_law_name"]
def N_law_moves_22 : List Str := ["_law_draws_here", "_law_many", "_law_signs", "_law_moves_here", "_law_draw", "_law_sign"]
def N_law_machine_44 : List Str := ["_law_draws_here", "_law_letters_here", "_law_names_here", "_law_most", "_law_many", "_law_marks_here", "_law_count", "_law_moves_here", "_law_ends", "_law_state", "_law_k", "_law_letter", "_law_target"]
def N_is_word_23 : List Str := ["value", "least", "most", "letter"]
def N_is_alphabet_24 : List Str := ["value", "k"]
def N_are_names_25 : List Str := ["value", "name"]
def N_is_number_3 : List Str := ["value"]
def N_is_state_26 : List Str := ["value"]
def N_checked_moves_27 : List Str := ["moves", "signs", "found", "move"]
def N_Rule_marks_28 : List Str := ["self", "found", "name"]
def N_checked_ends_30 : List Str := ["ends", "found", "state"]
def N_targets_of_31 : List Str := ["moves", "table", "state", "sign", "target"]
def N_Rule_DinitD_32 : List Str := ["self", "letters", "names", "moves", "ends"]
def N_law_free_45 : List Str := ["_law_moves_here", "_law_states", "_law_found", "_law_k", "_law_move"]
def N_law_after_46 : List Str := ["_law_moves_here", "_law_signs", "_law_states", "_law_sign", "_law_found", "_law_move"]
def N_law_path_207 : List Str := ["_law_moves_here", "_law_draws_here", "_law_signs", "_law_states", "_law_draw", "_law_ways", "_law_move"]
def N_Rule_closure_48 : List Str := ["self", "states", "found", "waiting", "state"]
def N_Rule_step_50 : List Str := ["self", "states", "sign", "targets", "state"]
def N_Rule_after_52 : List Str := ["self", "signs", "states", "sign"]
def N_law_told_54 : List Str := ["_law_rule", "_law_signs", "_law_due_here", "_law_states", "_law_state"]
def N_law_due_55 : List Str := ["_law_moves_here", "_law_signs", "_law_states", "_law_state"]
def N_law_208 : List Str := ["_law_script", "_law_draws_here", "_law_letters_here", "_law_names_here", "_law_machine_here", "_law_rule", "_law_signs", "_law_one", "_law_draw", "_law_two", "_law_passed"]
def b_law_208 : Sm :=
  (.asg 1 (.call 1 (.cons (.var 0) (.cons (.int 0) (.cons (.int 12) .nil))))
  (.asg 2 (.call 18 (.cons (.var 1) (.cons (.int 0) .nil)))
  (.asg 3 (.call 20 (.cons (.var 1) (.cons (.int 2) .nil)))
  (.asg 1 (.call 1 (.cons (.var 0) (.cons (.int 1) (.cons (.int 15) .nil))))
  (.asg 4 (.call 44 (.cons (.var 1) (.cons (.var 2) (.cons (.var 3) (.cons (.int 4) .nil)))))
  (.asg 5 (.call 32 (.cons (.var 2) (.cons (.var 3) (.cons (.f1 .list (.item (.var 4) (.int 0))) (.cons (.f1 .list (.item (.var 4) (.int 1))) .nil)))))
  (.asg 6 (.bin .add (.f1 .list (.var 2)) (.call 21 (.cons (.var 3) .nil)))
  (.asg 1 (.call 1 (.cons (.var 0) (.cons (.int 2) (.cons (.int 16) .nil))))
  (.asg 7 (.comp [8] false (.slice (.var 1) .nil (.bin .mod (.f1 .int (.item (.var 1) (.int 7))) (.int 8))) .nil (.item (.var 6) (.bin .mod (.f1 .int (.var 8)) (.f1 .len (.var 6)))))
  (.ifs (.cmp .eq (.bin .mod (.f1 .int (.item (.var 1) (.int 15))) (.int 2)) (.int 0))
  (.asg 7 (.call 207 (.cons (.item (.var 4) (.int 0)) (.cons (.slice (.var 1) .nil (.bin .mod (.f1 .int (.item (.var 1) (.int 7))) (.int 8))) .nil)))
  .nil)
  .nil
  (.asg 9 (.comp [8] false (.slice (.var 1) (.int 8) (.bin .add (.int 8) (.bin .mod (.f1 .int (.bin .fdiv (.item (.var 1) (.int 15)) (.int 2))) (.int 7)))) .nil (.item (.var 6) (.bin .mod (.f1 .int (.var 8)) (.f1 .len (.var 6)))))
  (.asg 10 (.f1 .list (.var 7))
  (.ifs (.or (.not (.call 54 (.cons (.var 5) (.cons (.var 10) (.cons (.call 55 (.cons (.item (.var 4) (.int 0)) (.cons (.var 7) .nil))) .nil))))) (.last (.cmp .ne (.var 10) (.var 7))))
  (.ret (.bl false))
  .nil
  (.ifs (.not (.call 54 (.cons (.var 5) (.cons (.f1 .list (.var 9)) (.cons (.call 55 (.cons (.item (.var 4) (.int 0)) (.cons (.var 9) .nil))) .nil)))))
  (.ret (.bl false))
  .nil
  (.ifs (.not (.call 54 (.cons (.var 5) (.cons (.lst .nil) (.cons (.call 55 (.cons (.item (.var 4) (.int 0)) (.cons (.lst .nil) .nil))) .nil)))))
  (.ret (.bl false))
  .nil
  (.ret (.call 54 (.cons (.var 5) (.cons (.var 10) (.cons (.call 55 (.cons (.item (.var 4) (.int 0)) (.cons (.var 7) .nil))) .nil))))))))))))))))))))
def tab : List (Nat × Ent) := [(208, .df 11 b_law_208),
  (55, .df 4 bDuA),
  (54, .df 5 bTdA),
  (53, .der 52 (methS [2])),
  (52, .df 4 bAfter),
  (51, .der 50 (methS [2])),
  (50, .df 5 bStep),
  (49, .der 48 (methS [2])),
  (48, .df 5 bClosure),
  (207, .df 7 bPth),
  (46, .df 6 bAf),
  (45, .df 5 bFree),
  (32, .ini 5 2 bRule),
  (31, .df 5 bTab),
  (30, .df 3 bEnds),
  (29, .der 28 (methS [2])),
  (28, .df 3 bMarks),
  (27, .df 4 bMoves),
  (26, .df 1 bIsState),
  (3, .df 1 bIsNum),
  (25, .df 2 bAreNames),
  (24, .df 2 bIsAlph),
  (23, .df 4 bIsWord),
  (44, .df 13 bMach),
  (22, .dn 6 bMv),
  (21, .df 3 bMarksL),
  (20, .df 4 bNames),
  (19, .df 6 bWord),
  (18, .df 8 bLetters),
  (1, .df 8 bDraws)]
def subs : List (Ty × Ty × Bool) := [((.c 2), (.c 2), true), ((.b "int"), (.b "int"), true), ((.b "int"), (.b "bool"), false), ((.b "tuple"), (.b "tuple"), true)]
noncomputable def M : Mng := mkM (M0 subs glG (memoR)) tab
theorem tabok : tabOk tab = true := by decide +kernel
theorem Mf {n : Nat} {e : Ent} (h : tab.lookup n = some e) : M.fn n = e.val M := mkM_fn tabok h
theorem M_1 : M.fn 1 = run M 8 bDraws := Mf (e := .df 8 bDraws) rfl  -- h:_law_draws:c2e8f09a98:c2e8f09a98
theorem M_18 : M.fn 18 = run M 8 bLetters := Mf (e := .df 8 bLetters) rfl  -- h:_law_letters:85abdd4ff1:85abdd4ff1
theorem M_19 : M.fn 19 = run M 6 bWord := Mf (e := .df 6 bWord) rfl  -- h:_law_word:fbb5faec9a:fbb5faec9a
theorem M_20 : M.fn 20 = run M 4 bNames := Mf (e := .df 4 bNames) rfl  -- h:_law_names:b3b6b10655:b3b6b10655
theorem M_21 : M.fn 21 = run M 3 bMarksL := Mf (e := .df 3 bMarksL) rfl  -- h:_law_marks:a1bf1dfa90:a1bf1dfa90
theorem M_22 : M.fn 22 = runN M 6 bMv := Mf (e := .dn 6 bMv) rfl  -- h:_law_moves:5cf7b981be:5cf7b981be
theorem M_44 : M.fn 44 = run M 13 bMach := Mf (e := .df 13 bMach) rfl  -- h:_law_machine:e4c826f066:e4c826f066
theorem M_23 : M.fn 23 = run M 4 bIsWord := Mf (e := .df 4 bIsWord) rfl  -- fn:is_word:0f3f5e7664
theorem M_24 : M.fn 24 = run M 2 bIsAlph := Mf (e := .df 2 bIsAlph) rfl  -- fn:is_alphabet:048d1a495e
theorem M_25 : M.fn 25 = run M 2 bAreNames := Mf (e := .df 2 bAreNames) rfl  -- fn:are_names:ddc342c88f
theorem M_3 : M.fn 3 = run M 1 bIsNum := Mf (e := .df 1 bIsNum) rfl  -- fn:is_number:d348a797bb
theorem M_26 : M.fn 26 = run M 1 bIsState := Mf (e := .df 1 bIsState) rfl  -- fn:is_state:342b44b064
theorem M_27 : M.fn 27 = run M 4 bMoves := Mf (e := .df 4 bMoves) rfl  -- fn:checked_moves:7fdb8ec422
theorem M_28 : M.fn 28 = run M 3 bMarks := Mf (e := .df 3 bMarks) rfl  -- fn:Rule.marks:f3d0a69bd1
theorem M_29 : M.fn 29 = (methS [2]) (M.fn 28) := Mf (e := .der 28 (methS [2])) rfl  -- owprop:Rule.marks
theorem M_30 : M.fn 30 = run M 3 bEnds := Mf (e := .df 3 bEnds) rfl  -- fn:checked_ends:3d13b38db3
theorem M_31 : M.fn 31 = run M 5 bTab := Mf (e := .df 5 bTab) rfl  -- fn:targets_of:f0a9561bf7
theorem M_32 : M.fn 32 = runI M 5 2 bRule := Mf (e := .ini 5 2 bRule) rfl  -- fn:Rule.__init__:ce7b0004fe
theorem M_45 : M.fn 45 = run M 5 bFree := Mf (e := .df 5 bFree) rfl  -- h:_law_free:bfb0cc850a:bfb0cc850a
theorem M_46 : M.fn 46 = run M 6 bAf := Mf (e := .df 6 bAf) rfl  -- h:_law_after:b069555916:b069555916
theorem M_207 : M.fn 207 = run M 7 bPth := Mf (e := .df 7 bPth) rfl  -- h:_law_path:899ad9edaf:899ad9edaf
theorem M_48 : M.fn 48 = run M 5 bClosure := Mf (e := .df 5 bClosure) rfl  -- fn:Rule.closure:292f5e0b99
theorem M_49 : M.fn 49 = (methS [2]) (M.fn 48) := Mf (e := .der 48 (methS [2])) rfl  -- meth:Rule.closure
theorem M_50 : M.fn 50 = run M 5 bStep := Mf (e := .df 5 bStep) rfl  -- fn:Rule.step:429f009a5a
theorem M_51 : M.fn 51 = (methS [2]) (M.fn 50) := Mf (e := .der 50 (methS [2])) rfl  -- meth:Rule.step
theorem M_52 : M.fn 52 = run M 4 bAfter := Mf (e := .df 4 bAfter) rfl  -- fn:Rule.after:be94a3fa71
theorem M_53 : M.fn 53 = (methS [2]) (M.fn 52) := Mf (e := .der 52 (methS [2])) rfl  -- meth:Rule.after
theorem M_54 : M.fn 54 = run M 5 bTdA := Mf (e := .df 5 bTdA) rfl  -- h:_law_told:5814f3cf68:5814f3cf68
theorem M_55 : M.fn 55 = run M 4 bDuA := Mf (e := .df 4 bDuA) rfl  -- h:_law_due:8d094ac5a0:8d094ac5a0
theorem M_208 : M.fn 208 = run M 11 b_law_208 := Mf (e := .df 11 b_law_208) rfl  -- h:law:e96fb25f47:e96fb25f47
theorem Mstd : Std M := std_mk
end G
namespace G
open PySem L2
theorem PR : PRule M := ⟨Mstd, M_3, M_23, M_24, M_25, M_26, M_27, M_28, fun fs => by rw [M_29]; rfl, M_30, M_31, M_32⟩
theorem PM : PMach M [2] := ⟨Mstd, rfl, fun c hc => by rw [List.mem_singleton] at hc; subst hc; rfl, M_48, M_49, M_50, M_51⟩
def ePk : E := (.item (.var 6) (.bin .mod (.f1 .int (.var 8)) (.f1 .len (.var 6))))
def eSl1 : E := (.slice (.var 1) .nil (.bin .mod (.f1 .int (.item (.var 1) (.int 7))) (.int 8)))
def eSl2 : E := (.slice (.var 1) (.int 8) (.bin .add (.int 8) (.bin .mod (.f1 .int (.bin .fdiv (.item (.var 1) (.int 15)) (.int 2))) (.int 7))))
def eC1 : E := (.comp [8] false eSl1 .nil ePk)
def eC2 : E := (.comp [8] false eSl2 .nil ePk)
def bEnd10 : Sm :=
  (.asg 10 (.f1 .list (.var 7))
  (.ifs (.or (.not (.call 54 (.cons (.var 5) (.cons (.var 10) (.cons (.call 55 (.cons (.item (.var 4) (.int 0)) (.cons (.var 7) .nil))) .nil))))) (.last (.cmp .ne (.var 10) (.var 7))))
  (.ret (.bl false))
  .nil
  (.ifs (.not (.call 54 (.cons (.var 5) (.cons (.f1 .list (.var 9)) (.cons (.call 55 (.cons (.item (.var 4) (.int 0)) (.cons (.var 9) .nil))) .nil)))))
  (.ret (.bl false))
  .nil
  (.ifs (.not (.call 54 (.cons (.var 5) (.cons (.lst .nil) (.cons (.call 55 (.cons (.item (.var 4) (.int 0)) (.cons (.lst .nil) .nil))) .nil)))))
  (.ret (.bl false))
  .nil
  (.ret (.call 54 (.cons (.var 5) (.cons (.var 10) (.cons (.call 55 (.cons (.item (.var 4) (.int 0)) (.cons (.var 7) .nil))) .nil)))))))))
def bMid10 : Sm :=
  (.asg 7 eC1
  (.ifs (.cmp .eq (.bin .mod (.f1 .int (.item (.var 1) (.int 15))) (.int 2)) (.int 0))
  (.asg 7 (.call 207 (.cons (.item (.var 4) (.int 0)) (.cons eSl1 .nil)))
  .nil)
  .nil
  (.asg 9 eC2
  bEnd10)))
def bPre10 (R : Sm) : Sm :=
  (.asg 1 (.call 1 (.cons (.var 0) (.cons (.int 0) (.cons (.int 12) .nil))))
  (.asg 2 (.call 18 (.cons (.var 1) (.cons (.int 0) .nil)))
  (.asg 3 (.call 20 (.cons (.var 1) (.cons (.int 2) .nil)))
  (.asg 1 (.call 1 (.cons (.var 0) (.cons (.int 1) (.cons (.int 15) .nil))))
  (.asg 4 (.call 44 (.cons (.var 1) (.cons (.var 2) (.cons (.var 3) (.cons (.int 4) .nil)))))
  (.asg 5 (.call 32 (.cons (.var 2) (.cons (.var 3) (.cons (.f1 .list (.item (.var 4) (.int 0))) (.cons (.f1 .list (.item (.var 4) (.int 1))) .nil)))))
  (.asg 6 (.bin .add (.f1 .list (.var 2)) (.call 21 (.cons (.var 3) .nil)))
  (.asg 1 (.call 1 (.cons (.var 0) (.cons (.int 2) (.cons (.int 16) .nil))))
  R))))))))
theorem law_eq : b_law_208 = bPre10 bMid10 := rfl
section
variable (M : Mng)
theorem pre_ev {z : List Int} {d0 d1 d2 s ns m mvd end_ Ru ls mk sg : D} {R : Sm} (e0 : M.fn 1 [.scr z, .int 0, .int 12] = .ok d0) (e1 : M.fn 1 [.scr z, .int 1, .int 15] = .ok d1) (e2 : M.fn 1 [.scr z, .int 2, .int 16] = .ok d2)
    (es : M.fn 18 [d0, .int 0] = .ok s) (en : M.fn 20 [d0, .int 2] = .ok ns) (em : M.fn 44 [d1, s, ns, .int 4] = .ok m) (i0 : itemD m (.int 0) = .ok mvd) (i1 : itemD m (.int 1) = .ok end_) (l0 : f1D .list mvd = .ok mvd) (l1 : f1D .list end_ = .ok end_)
    (er : M.fn 32 [s, ns, mvd, end_] = .ok Ru) (ls_ : f1D .list s = .ok ls) (mk_ : M.fn 21 [ns] = .ok mk) (ad : addD ls mk = .ok sg) :
    evS M (bPre10 R) (gamN 11 [.scr z]) = evS M R [.val (.scr z), .val d2, .val s, .val ns, .val m, .val Ru, .val sg, .dead, .dead, .dead, .dead] := by
  simp (config := { implicitDefEqProofs := false }) [evS, evE, evL, borrow, binD, cmpD, onL, killG, ofOk, bindOk, atNext, atRet, atExc, truB, truI, intK, lenL, lenS, lenT, andK, orK, notK, addK, subK, modK, mulK, fdivK, powK, ltK, leK, eqK, run, runI, runN, outN_rown, outN_exc, gamN, gamM, outR_next, outR_ret, outR_exc, outI_next, outI_exc, doneI, D.isN, Mng.wf, evH, Out.mapG, bindX, noExn, endX, bPre10, e0, e1, e2, es, en, em, i0, i1, l0, l1, er, ls_, mk_, ad, noexcOk]
theorem end_ev {z d2 s ns m mvd Ru sg D1 D2 D3 : D} {W1 W2 : List D} (i0 : itemD m (.int 0) = .ok mvd) (u1 : M.fn 55 [mvd, .lst W1] = .ok D1) (u2 : M.fn 55 [mvd, .lst W2] = .ok D2) (u3 : M.fn 55 [mvd, .lst []] = .ok D3)
    (t1 : M.fn 54 [Ru, .lst W1, D1] = .ok (.bl true)) (t2 : M.fn 54 [Ru, .lst W2, D2] = .ok (.bl true)) (t3 : M.fn 54 [Ru, .lst [], D3] = .ok (.bl true)) (q : eqD (.lst W1) (.lst W1) = .ok true) (c : Cell) :
    evS M bEnd10 [.val z, .val d2, .val s, .val ns, .val m, .val Ru, .val sg, .val (.lst W1), c, .val (.lst W2), .dead] = .ret (.bl true) := by
  have l1 : f1D .list (.lst W1) = .ok (.lst W1) := rfl
  have l2 : f1D .list (.lst W2) = .ok (.lst W2) := rfl
  simp (config := { implicitDefEqProofs := false }) [evS, evE, evL, borrow, binD, cmpD, onL, killG, ofOk, bindOk, atNext, atRet, atExc, truB, truI, intK, lenL, lenS, lenT, andK, orK, notK, addK, subK, modK, mulK, fdivK, powK, ltK, leK, eqK, run, runI, runN, outN_rown, outN_exc, gamN, gamM, outR_next, outR_ret, outR_exc, outI_next, outI_exc, doneI, D.isN, Mng.wf, evH, Out.mapG, bindX, noExn, endX, bEnd10, i0, u1, u2, u3, t1, t2, t3, q, l1, l2, noexcOk, LINE]
theorem mid_ev {z s ns m mvd Ru sg L : D} {W0 Wp W1 W2 sl : D} {x : Int} (i0 : itemD m (.int 0) = .ok mvd) (i15 : itemD L (.int 15) = .ok (.int x)) (hW : W1 = if x % 2 = 0 then Wp else W0)
    (c1 : evE M eC1 [.val z, .val L, .val s, .val ns, .val m, .val Ru, .val sg, .dead, .dead, .dead, .dead] = .ok W0) (s1 : ∀ c7, evE M eSl1 [.val z, .val L, .val s, .val ns, .val m, .val Ru, .val sg, c7, .dead, .dead, .dead] = .ok sl) (p : M.fn 207 [mvd, sl] = .ok Wp)
    (c2 : evE M eC2 [.val z, .val L, .val s, .val ns, .val m, .val Ru, .val sg, .val W1, .dead, .dead, .dead] = .ok W2) (he : evS M bEnd10 [.val z, .val L, .val s, .val ns, .val m, .val Ru, .val sg, .val W1, .dead, .val W2, .dead] = .ret (.bl true)) :
    evS M bMid10 [.val z, .val L, .val s, .val ns, .val m, .val Ru, .val sg, .dead, .dead, .dead, .dead] = .ret (.bl true) := by
  have mo : modD (.int x) (.int 2) = .ok (.int (x % 2)) := modK _ _ (by omega)
  by_cases h : x % 2 = 0
  · rw [if_pos h] at hW
    subst hW
    simp (config := { implicitDefEqProofs := false }) [evS, evE, evL, borrow, binD, cmpD, onL, killG, ofOk, bindOk, atNext, atRet, atExc, truB, truI, intK, lenL, lenS, lenT, andK, orK, notK, addK, subK, modK, mulK, fdivK, powK, ltK, leK, eqK, run, runI, runN, outN_rown, outN_exc, gamN, gamM, outR_next, outR_ret, outR_exc, outI_next, outI_exc, doneI, D.isN, Mng.wf, evH, Out.mapG, bindX, noExn, endX, bMid10, i0, i15, c1, s1, p, c2, he, mo, h]
  · rw [if_neg h] at hW
    subst hW
    simp (config := { implicitDefEqProofs := false }) [evS, evE, evL, borrow, binD, cmpD, onL, killG, ofOk, bindOk, atNext, atRet, atExc, truB, truI, intK, lenL, lenS, lenT, andK, orK, notK, addK, subK, modK, mulK, fdivK, powK, ltK, leK, eqK, run, runI, runN, outN_rown, outN_exc, gamN, gamM, outR_next, outR_ret, outR_exc, outI_next, outI_exc, doneI, D.isN, Mng.wf, evH, Out.mapG, bindX, noExn, endX, bMid10, i0, i15, c1, s1, p, c2, he, mo, h]
end
theorem law_true (z : List Int) (_ : z.length ≤ 63) : M.fn 208 [.scr z] = .ok (.bl true) := by
  rw [M_208]
  have d0 : M.fn 1 [.scr z, .int 0, .int 12] = _ := r_draws M_1 z 0 12 (by omega)
  have d1 : M.fn 1 [.scr z, .int 1, .int 15] = _ := r_draws M_1 z 1 15 (by omega)
  have d2 : M.fn 1 [.scr z, .int 2, .int 16] = _ := r_draws M_1 z 2 16 (by omega)
  have b0 : Drw (drawsL z 0 12) := drawsL_bd _ _ _
  have b1 : Drw (drawsL z 1 15) := drawsL_bd _ _ _
  have l0 : (drawsL z 0 12).length = 12 := drawsL_len _ _ _
  have l1 : (drawsL z 1 15).length = 15 := drawsL_len _ _ _
  have l2 : (drawsL z 2 16).length = 16 := drawsL_len _ _ _
  generalize drawsL z 0 12 = L0 at *
  generalize drawsL z 1 15 = L1 at *
  generalize drawsL z 2 16 = L2 at *
  obtain ⟨s, es, al⟩ : ∃ s, M.fn 18 [.lst (L0.map D.int), .int 0] = .ok (.str s) ∧ isAlph s = true := r_letters M_18 b0 (p := 0) (by omega)
  obtain ⟨ns, en_, nm⟩ : ∃ ns : List (List Nat), M.fn 20 [.lst (L0.map D.int), .int 2] = .ok (.lst (ns.map D.str)) ∧ areNames2 (ns.map D.str) = true := r_names M_19 M_20 b0 (p := 2) (by omega)
  obtain ⟨mv, en, em, mok, lm, le⟩ := r_machine M_21 M_22 M_44 (.inl l1) b1 al nm (k := 4) (by omega) (by omega)
  have km : KM s ns mv en := ⟨al, nm, mok, by omega, by omega⟩
  have er : M.fn 32 [.str s, .lst (ns.map D.str), .lst (mv.map eMv), .lst (en.map D.int)] = .ok (ruleO 2 s ns (mvsOf mv) (norm en)) := r_rule PR km.parts (.inl rfl) (.inl rfl) (.inl rfl)
  obtain ⟨al2, al3⟩ := alph_len al
  obtain ⟨n1, n2, n3⟩ := names_low nm
  have hsg : ∀ a ∈ sgsOf s ns, sgB a = true := fun a ha => sgs_sgB al nm ha
  have hmv : ∀ m ∈ mv, m.a = [] ∨ m.a ∈ sgsOf s ns := fun m hm => (mok.mv m hm).2.2.2.2
  have hbd : ∀ m ∈ mv, 0 ≤ m.t ∧ m.t < 4 := fun m hm => ⟨(mok.mv m hm).2.2.1, (mok.mv m hm).2.2.2.1⟩
  -- the signs
  have fl : f1D .list (.str s) = .ok (.lst (s.map fun c => D.str [c])) := if_pos (show s.length ≤ 16777216 by omega)
  have emk := r_marksL (M := M) M_21 (ns := ns) (fun n hn => by have := (n3 n hn).1; omega) (by omega)
  have ad : addD (.lst (s.map fun c => D.str [c])) (.lst (markS ns)) = .ok (.lst ((sgsOf s ns).map D.str)) := by
    rw [markS_W, addLK _ _ (by simp [markW_len]; omega)]
    unfold sgsOf
    rw [List.map_append, List.map_map]
    rfl
  have sg0 : 0 < (sgsOf s ns).length := by unfold sgsOf; simp; omega
  -- slices
  have i7 : itemD (.lst (L2.map D.int)) (.int 7) = .ok (.int L2[7]!) := r_at (l := L2) (p := 7) (by omega)
  have i15 : itemD (.lst (L2.map D.int)) (.int 15) = .ok (.int L2[15]!) := r_at (l := L2) (p := 15) (by omega)
  generalize L2[7]! = x7 at i7
  generalize L2[15]! = x15 at i15
  have m8 := modK x7 8 (by omega)
  have m7 := modK (x15 / 2) 7 (by omega)
  have sl1 : sliceD (.lst (L2.map D.int)) none (some (x7 % 8)) = .ok (.lst ((cutL L2 none (some (x7 % 8))).map D.int)) := by rw [← cutL_map]; rfl
  have sl2 : sliceD (.lst (L2.map D.int)) (some 8) (some (8 + x15 / 2 % 7)) = .ok (.lst ((cutL L2 (some 8) (some (8 + x15 / 2 % 7))).map D.int)) := by rw [← cutL_map]; rfl
  have cl1 := cutL_len L2 none (some (x7 % 8))
  have cl2 := cutL_len L2 (some 8) (some (8 + x15 / 2 % 7))
  generalize cutL L2 none (some (x7 % 8)) = A1 at *
  generalize cutL L2 (some 8) (some (8 + x15 / 2 % 7)) = A2 at *
  generalize hsgd : sgsOf s ns = sg at *
  have sE1 : ∀ c7, evE M eSl1 [.val (.scr z), .val (.lst (L2.map D.int)), .val (.str s), .val (.lst (ns.map D.str)), .val (.tup [.lst (mv.map eMv), .lst (en.map D.int)]), .val (ruleO 2 s ns (mvsOf mv) (norm en)), .val (.lst (sg.map D.str)), c7, .dead, .dead, .dead] = .ok (.lst (A1.map D.int)) := fun c7 => by
    generalize ruleO 2 s ns (mvsOf mv) (norm en) = Ru at *
    generalize L2.map D.int = ld at *
    generalize D.tup [.lst (mv.map eMv), .lst (en.map D.int)] = md at *
    generalize sg.map D.str = sd at *
    generalize ns.map D.str = nd at *
    generalize A1.map D.int = ad1 at *
    simp (config := { implicitDefEqProofs := false }) [evS, evE, evL, borrow, binD, cmpD, onL, killG, ofOk, bindOk, atNext, atRet, atExc, truB, truI, intK, lenL, lenS, lenT, andK, orK, notK, addK, subK, modK, mulK, fdivK, powK, ltK, leK, eqK, run, runI, runN, outN_rown, outN_exc, gamN, gamM, outR_next, outR_ret, outR_exc, outI_next, outI_exc, doneI, isiR, D.isi, tyD, isiD, D.isN, Mng.wf, evH, Out.mapG, bindX, noExn, endX, eSl1, i7, m8, sl1, part, partD, noexcOk]
  have sE2 : ∀ c7, evE M eSl2 [.val (.scr z), .val (.lst (L2.map D.int)), .val (.str s), .val (.lst (ns.map D.str)), .val (.tup [.lst (mv.map eMv), .lst (en.map D.int)]), .val (ruleO 2 s ns (mvsOf mv) (norm en)), .val (.lst (sg.map D.str)), c7, .dead, .dead, .dead] = .ok (.lst (A2.map D.int)) := fun c7 => by
    have fd := fdivK x15 2 (by omega)
    generalize ruleO 2 s ns (mvsOf mv) (norm en) = Ru at *
    generalize L2.map D.int = ld at *
    generalize D.tup [.lst (mv.map eMv), .lst (en.map D.int)] = md at *
    generalize sg.map D.str = sd at *
    generalize ns.map D.str = nd at *
    generalize A2.map D.int = ad1 at *
    simp (config := { implicitDefEqProofs := false }) [evS, evE, evL, borrow, binD, cmpD, onL, killG, ofOk, bindOk, atNext, atRet, atExc, truB, truI, intK, lenL, lenS, lenT, andK, orK, notK, addK, subK, modK, mulK, fdivK, powK, ltK, leK, eqK, run, runI, runN, outN_rown, outN_exc, gamN, gamM, outR_next, outR_ret, outR_exc, outI_next, outI_exc, doneI, isiR, D.isi, tyD, isiD, D.isN, Mng.wf, evH, Out.mapG, bindX, noExn, endX, eSl2, i15, m7, sl2, part, partD, noexcOk, fd]
  obtain ⟨w0, c1, w0m, w0l⟩ := pick_ev (M := M) (Γ := [.val (.scr z), .val (.lst (L2.map D.int)), .val (.str s), .val (.lst (ns.map D.str)), .val (.tup [.lst (mv.map eMv), .lst (en.map D.int)]), .val (ruleO 2 s ns (mvsOf mv) (norm en)), .val (.lst (sg.map D.str)), .dead, .dead, .dead, .dead]) (i := 6) (j := 8) (it := eSl1) (by decide) rfl (by simp) (sE1 .dead) sg0 (by omega)
  obtain ⟨wp, ep, wpm, wpl⟩ := r_path M_45 M_46 M_207 km.mvB (by omega) hmv hsg (l := A1) (by omega)
  -- one of the two
  obtain ⟨w1, hw1, w1m⟩ : ∃ w1 : List Sg, D.lst (w1.map D.str) = (if x15 % 2 = 0 then D.lst (wp.map D.str) else .lst (w0.map D.str)) ∧ ∀ a ∈ w1, a ∈ sg := by
    by_cases h : x15 % 2 = 0
    · exact ⟨wp, by rw [if_pos h], wpm⟩
    · exact ⟨w0, by rw [if_neg h], w0m⟩
  -- a cell's own slot does not count for the second
  obtain ⟨w2, c2, w2m, w2l⟩ := pick_ev (M := M) (Γ := [.val (.scr z), .val (.lst (L2.map D.int)), .val (.str s), .val (.lst (ns.map D.str)), .val (.tup [.lst (mv.map eMv), .lst (en.map D.int)]), .val (ruleO 2 s ns (mvsOf mv) (norm en)), .val (.lst (sg.map D.str)), .val (.lst (w1.map D.str)), .dead, .dead, .dead]) (i := 6) (j := 8) (it := eSl2) (by decide) rfl (by simp) (sE2 _) sg0 (by omega)
  have key : ∀ w : List Sg, (∀ a ∈ w, a ∈ sg) → M.fn 55 [.lst (mv.map eMv), .lst (w.map D.str)] = .ok (.lst ((aft mv w).map D.int)) ∧ M.fn 54 [ruleO 2 s ns (mvsOf mv) (norm en), .lst (w.map D.str), .lst ((aft mv w).map D.int)] = .ok (.bl true) := fun w hw => by
    have a := r_after PM M_52 (c := 2) (by simp) km.parts.ok (v := .lst (w.map D.str)) (w := w) (.inl rfl) (by rw [hsgd]; exact hw) (fun q a r e => by
      have dw := domW_small (sg := sgsOf s ns) (Nat.le_trans km.univ (show 4 ≤ 20 by omega)) (w.length + 1)
      refine dw q (by rw [e, List.length_append]; omega) fun x hx => ?_
      rw [hsgd]
      exact hw x (by rw [e]; exact List.mem_append_left _ hx))
    rw [aft_congr (fun m => mem_mvsOf)] at a
    have a53 : M.fn 53 [ruleO 2 s ns (mvsOf mv) (norm en), .lst (w.map D.str)] = .ok (eI (aft mv w)) := by
      rw [M_53, show ruleO 2 s ns (mvsOf mv) (norm en) = .obj 2 _ from rfl, methS_in (by simp)]
      exact a
    exact ⟨r_dueA M_45 M_46 M_55 km.mvB (by omega) hbd (fun a ha => hsg a (hw a ha)), r_tdA Mstd M_54 a53⟩
  obtain ⟨u1, t1⟩ := key w1 w1m
  obtain ⟨u2, t2⟩ := key w2 w2m
  obtain ⟨u3, t3⟩ := key [] (fun a h => nomatch h)
  have q1 : eqD (.lst (w1.map D.str)) (.lst (w1.map D.str)) = .ok true := eqD_refl (flatL_str (fun a ha => hsg a (w1m a ha)) 59)
  show outR (evS M b_law_208 (gamN 11 [.scr z])) = _
  rw [law_eq, pre_ev M (R := bMid10) d0 d1 d2 es en_ em rfl rfl rfl rfl er fl emk ad]
  rw [mid_ev M (mvd := .lst (mv.map eMv)) rfl i15 hw1 c1 sE1 ep c2 (end_ev M (mvd := .lst (mv.map eMv)) rfl u1 u2 u3 t1 t2 t3 q1 .dead)]
  rfl
end G
namespace G
open PySem L2
theorem walk_endE {l : PySem.W.OpenLaw} {q : Program} {loose : List Str} {XP : (Str → Option Value) → Heap → Prop} {YP : World → Heap → Prop} {d : DefRec} {k : Nat} {x : Str} (hn : l.most = some 63) (hdf : d.params.defaults = []) (hr : Room k callerA)
    (F : ∀ (w : World) (mg : Str → Option Value) (fa : Addr) (h : Heap), YP w h → h.Ns mainGlobals mg → mg d.name = some (.ref fa) →
      ∃ (K : PySem.W.Frag) (fd : FuncData), K.In h ∧ (∀ (s : Shared) (u : Value), BindsTo s fd ⟨[u], []⟩ [(x, u)]) ∧ ∀ base : Heap, K.In base → base.Ns mainGlobals mg → FnOk l.prog w K mg base (L2.CX l.prog w) k fa fd [x] (spLaw K)) :
    PySem.W.WalkO q loose XP YP l.row.toRowW d [] (fun f vs => PySem.call f vs) := by
  refine Att.attach_call hn hdf fun w s₀ s₁ mg mb fa o pm cd doc a vs ns G Y ho hd hcd hmg hobj hints hlen hg => ?_
  obtain ⟨K, fd, KX, hb, hF⟩ := F w mg fa _ Y G.T.g hmg
  exact law_call KX G.T.g G.T.b G.T.builtins G.T.nolimit hg hobj hints (Nat.le_trans hlen (by decide)) hr hF hb (fun H hO hS => ⟨a, ns, rfl, hS, hlen, fun _ => rfl⟩) fun H e s' z => noCX z
end G
namespace G
open PySem L2
def tb : Tb where
  fname := fnameG
  gname := fun n => if n = 0 then some "FREE" else if n = 1 then some "GREATEST_STATE" else none
  cname := fun n => if n = 2 then some "Rule" else none
  ename := fun n => if n = 4 then some "BadRule" else none
  rname := fun n => if n = 4 then some "BadRule" else none
  calm := true
  memo := true
  cb := fun n => match n with
    | 1 => some (cbArgs (.fn "_law_draws") 3)
    | 18 => some (cbArgs (.fn "_law_letters") 2)
    | 19 => some (cbArgs (.fn "_law_word") 2)
    | 20 => some (cbArgs (.fn "_law_names") 2)
    | 21 => some (cbArgs (.fn "_law_marks") 1)
    | 22 => some (cbArgs (.fn "_law_moves") 3)
    | 44 => some (cbArgs (.fn "_law_machine") 4)
    | 23 => some (cbArgs (.fn "is_word") 3)
    | 24 => some (cbArgs (.fn "is_alphabet") 1)
    | 25 => some (cbArgs (.fn "are_names") 1)
    | 3 => some (cbArgs (.fn "is_number") 1)
    | 26 => some (cbArgs (.fn "is_state") 1)
    | 27 => some (cbArgs (.fn "checked_moves") 2)
    | 30 => some (cbArgs (.fn "checked_ends") 1)
    | 31 => some (cbArgs (.fn "targets_of") 1)
    | 32 => some (cbArgs (.fn "Rule") 4)
    | 45 => some (cbArgs (.fn "_law_free") 2)
    | 46 => some (cbArgs (.fn "_law_after") 2)
    | 207 => some (cbArgs (.fn "_law_path") 2)
    | 54 => some (cbArgs (.fn "_law_told") 3)
    | 55 => some (cbArgs (.fn "_law_due") 2)
    | _ => none
  cm := fun n => if n = 49 then some (mArgs "closure" 2) else if n = 51 then some (mArgs "step" 3) else if n = 53 then some (mArgs "after" 2) else none
  ow := fun n => if n = 29 then some (opArgs "marks") else none
  hs := fun _ => none
  nw := fun n => if n = 22 then some (cbArgs (.fn "_law_moves") 3) else none
theorem sc_1 : FnScope N_law_draws_1 ["_law_script", "_law_place", "_law_count"] (defScope s_law_draws_1) := ⟨rfl, rfl, rfl, by decide +kernel, rfl, by decide +kernel, by decide +kernel⟩
theorem ck_1 : chkS (tb.only []) N_law_draws_1 (defScope s_law_draws_1) bDraws (defBody s_law_draws_1) = true := by decide +kernel
theorem sc_18 : FnScope N_law_letters_18 ["_law_draws_here", "_law_at"] (defScope s_law_letters_18) := ⟨rfl, rfl, rfl, by decide +kernel, rfl, by decide +kernel, by decide +kernel⟩
theorem ck_18 : chkS (tb.only []) N_law_letters_18 (defScope s_law_letters_18) bLetters (defBody s_law_letters_18) = true := by decide +kernel
theorem sc_19 : FnScope N_law_word_19 ["_law_draws_here", "_law_at"] (defScope s_law_word_19) := ⟨rfl, rfl, rfl, by decide +kernel, rfl, by decide +kernel, by decide +kernel⟩
theorem ck_19 : chkS (tb.only []) N_law_word_19 (defScope s_law_word_19) bWord (defBody s_law_word_19) = true := by decide +kernel
theorem sc_20 : FnScope N_law_names_20 ["_law_draws_here", "_law_at"] (defScope s_law_names_20) := ⟨rfl, rfl, rfl, by decide +kernel, rfl, by decide +kernel, by decide +kernel⟩
theorem ck_20 : chkS (tb.only [19]) N_law_names_20 (defScope s_law_names_20) bNames (defBody s_law_names_20) = true := by decide +kernel
theorem sc_21 : FnScope N_law_marks_21 ["_law_names_here"] (defScope s_law_marks_21) := ⟨rfl, rfl, rfl, by decide +kernel, rfl, by decide +kernel, by decide +kernel⟩
theorem ck_21 : chkS (tb.only []) N_law_marks_21 (defScope s_law_marks_21) bMarksL (defBody s_law_marks_21) = true := by decide +kernel
theorem sc_22 : FnScope N_law_moves_22 ["_law_draws_here", "_law_many", "_law_signs"] (defScope s_law_moves_22) := ⟨rfl, rfl, rfl, by decide +kernel, rfl, by decide +kernel, by decide +kernel⟩
theorem ck_22 : chkS (tb.only []) N_law_moves_22 (defScope s_law_moves_22) bMv (defBody s_law_moves_22) = true := by decide +kernel
theorem sc_44 : FnScope N_law_machine_44 ["_law_draws_here", "_law_letters_here", "_law_names_here", "_law_most"] (defScope s_law_machine_44) := ⟨rfl, rfl, rfl, by decide +kernel, rfl, by decide +kernel, by decide +kernel⟩
theorem ck_44 : chkS (tb.only [21, 22]) N_law_machine_44 (defScope s_law_machine_44) bMach (defBody s_law_machine_44) = true := by decide +kernel
theorem sc_23 : FnScope N_is_word_23 ["value", "least", "most"] (defScope s_is_word_23) := ⟨rfl, rfl, rfl, by decide +kernel, rfl, by decide +kernel, by decide +kernel⟩
theorem ck_23 : chkS (tb.only []) N_is_word_23 (defScope s_is_word_23) bIsWord (defBody s_is_word_23) = true := by decide +kernel
theorem sc_24 : FnScope N_is_alphabet_24 ["value"] (defScope s_is_alphabet_24) := ⟨rfl, rfl, rfl, by decide +kernel, rfl, by decide +kernel, by decide +kernel⟩
theorem ck_24 : chkS (tb.only [23]) N_is_alphabet_24 (defScope s_is_alphabet_24) bIsAlph (defBody s_is_alphabet_24) = true := by decide +kernel
theorem sc_25 : FnScope N_are_names_25 ["value"] (defScope s_are_names_25) := ⟨rfl, rfl, rfl, by decide +kernel, rfl, by decide +kernel, by decide +kernel⟩
theorem ck_25 : chkS (tb.only [23]) N_are_names_25 (defScope s_are_names_25) bAreNames (defBody s_are_names_25) = true := by decide +kernel
theorem sc_3 : FnScope N_is_number_3 ["value"] (defScope s_is_number_3) := ⟨rfl, rfl, rfl, by decide +kernel, rfl, by decide +kernel, by decide +kernel⟩
theorem ck_3 : chkS (tb.only []) N_is_number_3 (defScope s_is_number_3) bIsNum (defBody s_is_number_3) = true := by decide +kernel
theorem sc_26 : FnScope N_is_state_26 ["value"] (defScope s_is_state_26) := ⟨rfl, rfl, rfl, by decide +kernel, rfl, by decide +kernel, by decide +kernel⟩
theorem ck_26 : chkS (tb.only [3]) N_is_state_26 (defScope s_is_state_26) bIsState (defBody s_is_state_26) = true := by decide +kernel
theorem sc_27 : FnScope N_checked_moves_27 ["moves", "signs"] (defScope s_checked_moves_27) := ⟨rfl, rfl, rfl, by decide +kernel, rfl, by decide +kernel, by decide +kernel⟩
theorem ck_27 : chkS (tb.only [26]) N_checked_moves_27 (defScope s_checked_moves_27) bMoves (defBody s_checked_moves_27) = true := by decide +kernel
theorem sc_28 : FnScope N_Rule_marks_28 ["self"] (defScope s_Rule_marks_28) := ⟨rfl, rfl, rfl, by decide +kernel, rfl, by decide +kernel, by decide +kernel⟩
theorem ck_28 : chkS (tb.only []) N_Rule_marks_28 (defScope s_Rule_marks_28) bMarks (defBody s_Rule_marks_28) = true := by decide +kernel
theorem sc_30 : FnScope N_checked_ends_30 ["ends"] (defScope s_checked_ends_30) := ⟨rfl, rfl, rfl, by decide +kernel, rfl, by decide +kernel, by decide +kernel⟩
theorem ck_30 : chkS (tb.only [26]) N_checked_ends_30 (defScope s_checked_ends_30) bEnds (defBody s_checked_ends_30) = true := by decide +kernel
theorem sc_31 : FnScope N_targets_of_31 ["moves"] (defScope s_targets_of_31) := ⟨rfl, rfl, rfl, by decide +kernel, rfl, by decide +kernel, by decide +kernel⟩
theorem ck_31 : chkS (tb.only []) N_targets_of_31 (defScope s_targets_of_31) bTab (defBody s_targets_of_31) = true := by decide +kernel
theorem sc_32 : FnScope N_Rule_DinitD_32 ["self", "letters", "names", "moves", "ends"] (defScope s_Rule_DinitD_32) := ⟨rfl, rfl, rfl, by decide +kernel, rfl, by decide +kernel, by decide +kernel⟩
theorem ck_32 : chkS (tb.only [24, 25, 27, 29, 30, 31]) N_Rule_DinitD_32 (defScope s_Rule_DinitD_32) bRule (defBody s_Rule_DinitD_32) = true := by decide +kernel
theorem sc_45 : FnScope N_law_free_45 ["_law_moves_here", "_law_states"] (defScope s_law_free_45) := ⟨rfl, rfl, rfl, by decide +kernel, rfl, by decide +kernel, by decide +kernel⟩
theorem ck_45 : chkS (tb.only []) N_law_free_45 (defScope s_law_free_45) bFree (defBody s_law_free_45) = true := by decide +kernel
theorem sc_46 : FnScope N_law_after_46 ["_law_moves_here", "_law_signs"] (defScope s_law_after_46) := ⟨rfl, rfl, rfl, by decide +kernel, rfl, by decide +kernel, by decide +kernel⟩
theorem ck_46 : chkS (tb.only [45]) N_law_after_46 (defScope s_law_after_46) bAf (defBody s_law_after_46) = true := by decide +kernel
theorem sc_207 : FnScope N_law_path_207 ["_law_moves_here", "_law_draws_here"] (defScope s_law_path_207) := ⟨rfl, rfl, rfl, by decide +kernel, rfl, by decide +kernel, by decide +kernel⟩
theorem ck_207 : chkS (tb.only [45, 46]) N_law_path_207 (defScope s_law_path_207) bPth (defBody s_law_path_207) = true := by decide +kernel
theorem sc_48 : FnScope N_Rule_closure_48 ["self", "states"] (defScope s_Rule_closure_48) := ⟨rfl, rfl, rfl, by decide +kernel, rfl, by decide +kernel, by decide +kernel⟩
theorem ck_48 : chkS (tb.only []) N_Rule_closure_48 (defScope s_Rule_closure_48) bClosure (defBody s_Rule_closure_48) = true := by decide +kernel
theorem sc_50 : FnScope N_Rule_step_50 ["self", "states", "sign"] (defScope s_Rule_step_50) := ⟨rfl, rfl, rfl, by decide +kernel, rfl, by decide +kernel, by decide +kernel⟩
theorem ck_50 : chkS (tb.only [49]) N_Rule_step_50 (defScope s_Rule_step_50) bStep (defBody s_Rule_step_50) = true := by decide +kernel
theorem sc_52 : FnScope N_Rule_after_52 ["self", "signs"] (defScope s_Rule_after_52) := ⟨rfl, rfl, rfl, by decide +kernel, rfl, by decide +kernel, by decide +kernel⟩
theorem ck_52 : chkS (tb.only [49, 51]) N_Rule_after_52 (defScope s_Rule_after_52) bAfter (defBody s_Rule_after_52) = true := by decide +kernel
theorem sc_54 : FnScope N_law_told_54 ["_law_rule", "_law_signs", "_law_due_here"] (defScope s_law_told_54) := ⟨rfl, rfl, rfl, by decide +kernel, rfl, by decide +kernel, by decide +kernel⟩
theorem ck_54 : chkS (tb.only [53]) N_law_told_54 (defScope s_law_told_54) bTdA (defBody s_law_told_54) = true := by decide +kernel
theorem sc_55 : FnScope N_law_due_55 ["_law_moves_here", "_law_signs"] (defScope s_law_due_55) := ⟨rfl, rfl, rfl, by decide +kernel, rfl, by decide +kernel, by decide +kernel⟩
theorem ck_55 : chkS (tb.only [46]) N_law_due_55 (defScope s_law_due_55) bDuA (defBody s_law_due_55) = true := by decide +kernel
theorem sc_208 : FnScope N_law_208 ["_law_script"] (defScope s_law_208) := ⟨rfl, rfl, rfl, by decide +kernel, rfl, by decide +kernel, by decide +kernel⟩
theorem ck_208 : chkS (tb.only [1, 18, 20, 44, 32, 21, 207, 54, 55]) N_law_208 (defScope s_law_208) b_law_208 (defBody s_law_208) = true := by decide +kernel
def pickP {α : Type} (l : List (List α)) (d : α) (i j : Nat) : α := (l.getD i []).getD j d
structure Ps where
  l : PySem.W.OpenLaw
  w : World
  K : PySem.W.Frag
  hp : Heap
  mg : Str → Option Value
  base : Heap
  ad : Nat → Nat → Addr
  od : Nat → Nat → Option Addr
  sl : Nat → Nat → Array (Option Value)
  vl : Nat → Nat → Value
  tk : Nat → Nat → Tok
  ov : Nat → Nat → Option Value
  rs : Nat → Nat → List Value
  av : Nat → Nat → Array Value
  sv : Nat → Nat → Str
abbrev Ps.A2 (p : Ps) : Addr := p.ad 0 0
abbrev Ps.X4 (p : Ps) : Addr := p.ad 0 1
abbrev Ps.f1 (p : Ps) : Addr := p.ad 0 2
abbrev Ps.f18 (p : Ps) : Addr := p.ad 0 3
abbrev Ps.f19 (p : Ps) : Addr := p.ad 0 4
abbrev Ps.f20 (p : Ps) : Addr := p.ad 0 5
abbrev Ps.f21 (p : Ps) : Addr := p.ad 0 6
abbrev Ps.f22 (p : Ps) : Addr := p.ad 0 7
abbrev Ps.f44 (p : Ps) : Addr := p.ad 0 8
abbrev Ps.f23 (p : Ps) : Addr := p.ad 0 9
abbrev Ps.f24 (p : Ps) : Addr := p.ad 0 10
abbrev Ps.f25 (p : Ps) : Addr := p.ad 0 11
abbrev Ps.f3 (p : Ps) : Addr := p.ad 1 0
abbrev Ps.f26 (p : Ps) : Addr := p.ad 1 1
abbrev Ps.f27 (p : Ps) : Addr := p.ad 1 2
abbrev Ps.f28 (p : Ps) : Addr := p.ad 1 3
abbrev Ps.pp28 (p : Ps) : Addr := p.ad 1 4
abbrev Ps.f30 (p : Ps) : Addr := p.ad 1 5
abbrev Ps.f31 (p : Ps) : Addr := p.ad 1 6
abbrev Ps.f32 (p : Ps) : Addr := p.ad 1 7
abbrev Ps.f45 (p : Ps) : Addr := p.ad 1 8
abbrev Ps.f46 (p : Ps) : Addr := p.ad 1 9
abbrev Ps.f207 (p : Ps) : Addr := p.ad 1 10
abbrev Ps.f48 (p : Ps) : Addr := p.ad 1 11
abbrev Ps.f50 (p : Ps) : Addr := p.ad 2 0
abbrev Ps.f52 (p : Ps) : Addr := p.ad 2 1
abbrev Ps.f54 (p : Ps) : Addr := p.ad 2 2
abbrev Ps.f55 (p : Ps) : Addr := p.ad 2 3
abbrev Ps.f208 (p : Ps) : Addr := p.ad 2 4
abbrev Ps.od1 (p : Ps) : Option Addr := p.od 0 0
abbrev Ps.an1 (p : Ps) : Option Addr := p.od 0 1
abbrev Ps.od18 (p : Ps) : Option Addr := p.od 0 2
abbrev Ps.an18 (p : Ps) : Option Addr := p.od 0 3
abbrev Ps.od19 (p : Ps) : Option Addr := p.od 0 4
abbrev Ps.an19 (p : Ps) : Option Addr := p.od 0 5
abbrev Ps.od20 (p : Ps) : Option Addr := p.od 0 6
abbrev Ps.an20 (p : Ps) : Option Addr := p.od 0 7
abbrev Ps.od21 (p : Ps) : Option Addr := p.od 0 8
abbrev Ps.an21 (p : Ps) : Option Addr := p.od 0 9
abbrev Ps.od22 (p : Ps) : Option Addr := p.od 0 10
abbrev Ps.an22 (p : Ps) : Option Addr := p.od 0 11
abbrev Ps.od44 (p : Ps) : Option Addr := p.od 1 0
abbrev Ps.an44 (p : Ps) : Option Addr := p.od 1 1
abbrev Ps.od23 (p : Ps) : Option Addr := p.od 1 2
abbrev Ps.an23 (p : Ps) : Option Addr := p.od 1 3
abbrev Ps.od24 (p : Ps) : Option Addr := p.od 1 4
abbrev Ps.an24 (p : Ps) : Option Addr := p.od 1 5
abbrev Ps.od25 (p : Ps) : Option Addr := p.od 1 6
abbrev Ps.an25 (p : Ps) : Option Addr := p.od 1 7
abbrev Ps.od3 (p : Ps) : Option Addr := p.od 1 8
abbrev Ps.an3 (p : Ps) : Option Addr := p.od 1 9
abbrev Ps.od26 (p : Ps) : Option Addr := p.od 1 10
abbrev Ps.an26 (p : Ps) : Option Addr := p.od 1 11
abbrev Ps.od27 (p : Ps) : Option Addr := p.od 2 0
abbrev Ps.an27 (p : Ps) : Option Addr := p.od 2 1
abbrev Ps.od28 (p : Ps) : Option Addr := p.od 2 2
abbrev Ps.an28 (p : Ps) : Option Addr := p.od 2 3
abbrev Ps.od30 (p : Ps) : Option Addr := p.od 2 4
abbrev Ps.an30 (p : Ps) : Option Addr := p.od 2 5
abbrev Ps.od31 (p : Ps) : Option Addr := p.od 2 6
abbrev Ps.an31 (p : Ps) : Option Addr := p.od 2 7
abbrev Ps.od32 (p : Ps) : Option Addr := p.od 2 8
abbrev Ps.an32 (p : Ps) : Option Addr := p.od 2 9
abbrev Ps.od45 (p : Ps) : Option Addr := p.od 2 10
abbrev Ps.an45 (p : Ps) : Option Addr := p.od 2 11
abbrev Ps.od46 (p : Ps) : Option Addr := p.od 3 0
abbrev Ps.an46 (p : Ps) : Option Addr := p.od 3 1
abbrev Ps.od207 (p : Ps) : Option Addr := p.od 3 2
abbrev Ps.an207 (p : Ps) : Option Addr := p.od 3 3
abbrev Ps.od48 (p : Ps) : Option Addr := p.od 3 4
abbrev Ps.an48 (p : Ps) : Option Addr := p.od 3 5
abbrev Ps.od50 (p : Ps) : Option Addr := p.od 3 6
abbrev Ps.an50 (p : Ps) : Option Addr := p.od 3 7
abbrev Ps.od52 (p : Ps) : Option Addr := p.od 3 8
abbrev Ps.an52 (p : Ps) : Option Addr := p.od 3 9
abbrev Ps.od54 (p : Ps) : Option Addr := p.od 3 10
abbrev Ps.an54 (p : Ps) : Option Addr := p.od 3 11
abbrev Ps.od55 (p : Ps) : Option Addr := p.od 4 0
abbrev Ps.an55 (p : Ps) : Option Addr := p.od 4 1
abbrev Ps.od208 (p : Ps) : Option Addr := p.od 4 2
abbrev Ps.an208 (p : Ps) : Option Addr := p.od 4 3
abbrev Ps.sl1 (p : Ps) : Array (Option Value) := p.sl 0 0
abbrev Ps.sl18 (p : Ps) : Array (Option Value) := p.sl 0 1
abbrev Ps.sl19 (p : Ps) : Array (Option Value) := p.sl 0 2
abbrev Ps.sl20 (p : Ps) : Array (Option Value) := p.sl 0 3
abbrev Ps.sl21 (p : Ps) : Array (Option Value) := p.sl 0 4
abbrev Ps.sl22 (p : Ps) : Array (Option Value) := p.sl 0 5
abbrev Ps.sl44 (p : Ps) : Array (Option Value) := p.sl 0 6
abbrev Ps.sl23 (p : Ps) : Array (Option Value) := p.sl 0 7
abbrev Ps.sl24 (p : Ps) : Array (Option Value) := p.sl 0 8
abbrev Ps.sl25 (p : Ps) : Array (Option Value) := p.sl 0 9
abbrev Ps.sl3 (p : Ps) : Array (Option Value) := p.sl 0 10
abbrev Ps.sl26 (p : Ps) : Array (Option Value) := p.sl 0 11
abbrev Ps.sl27 (p : Ps) : Array (Option Value) := p.sl 1 0
abbrev Ps.sl28 (p : Ps) : Array (Option Value) := p.sl 1 1
abbrev Ps.sl30 (p : Ps) : Array (Option Value) := p.sl 1 2
abbrev Ps.sl31 (p : Ps) : Array (Option Value) := p.sl 1 3
abbrev Ps.sl32 (p : Ps) : Array (Option Value) := p.sl 1 4
abbrev Ps.sl45 (p : Ps) : Array (Option Value) := p.sl 1 5
abbrev Ps.sl46 (p : Ps) : Array (Option Value) := p.sl 1 6
abbrev Ps.sl207 (p : Ps) : Array (Option Value) := p.sl 1 7
abbrev Ps.sl48 (p : Ps) : Array (Option Value) := p.sl 1 8
abbrev Ps.sl50 (p : Ps) : Array (Option Value) := p.sl 1 9
abbrev Ps.sl52 (p : Ps) : Array (Option Value) := p.sl 1 10
abbrev Ps.sl54 (p : Ps) : Array (Option Value) := p.sl 1 11
abbrev Ps.sl55 (p : Ps) : Array (Option Value) := p.sl 2 0
abbrev Ps.sl208 (p : Ps) : Array (Option Value) := p.sl 2 1
abbrev Ps.oc1 (p : Ps) : Value := p.vl 0 0
abbrev Ps.kV1 (p : Ps) : Value := p.vl 0 1
abbrev Ps.dc1 (p : Ps) : Value := p.vl 0 2
abbrev Ps.pm1 (p : Ps) : Value := p.vl 0 3
abbrev Ps.cd1 (p : Ps) : Value := p.vl 0 4
abbrev Ps.ct1 (p : Ps) : Value := p.vl 0 5
abbrev Ps.oc18 (p : Ps) : Value := p.vl 0 6
abbrev Ps.kV18 (p : Ps) : Value := p.vl 0 7
abbrev Ps.dc18 (p : Ps) : Value := p.vl 0 8
abbrev Ps.pm18 (p : Ps) : Value := p.vl 0 9
abbrev Ps.cd18 (p : Ps) : Value := p.vl 0 10
abbrev Ps.ct18 (p : Ps) : Value := p.vl 0 11
abbrev Ps.oc19 (p : Ps) : Value := p.vl 1 0
abbrev Ps.kV19 (p : Ps) : Value := p.vl 1 1
abbrev Ps.dc19 (p : Ps) : Value := p.vl 1 2
abbrev Ps.pm19 (p : Ps) : Value := p.vl 1 3
abbrev Ps.cd19 (p : Ps) : Value := p.vl 1 4
abbrev Ps.ct19 (p : Ps) : Value := p.vl 1 5
abbrev Ps.oc20 (p : Ps) : Value := p.vl 1 6
abbrev Ps.kV20 (p : Ps) : Value := p.vl 1 7
abbrev Ps.dc20 (p : Ps) : Value := p.vl 1 8
abbrev Ps.pm20 (p : Ps) : Value := p.vl 1 9
abbrev Ps.cd20 (p : Ps) : Value := p.vl 1 10
abbrev Ps.ct20 (p : Ps) : Value := p.vl 1 11
abbrev Ps.oc21 (p : Ps) : Value := p.vl 2 0
abbrev Ps.kV21 (p : Ps) : Value := p.vl 2 1
abbrev Ps.dc21 (p : Ps) : Value := p.vl 2 2
abbrev Ps.pm21 (p : Ps) : Value := p.vl 2 3
abbrev Ps.cd21 (p : Ps) : Value := p.vl 2 4
abbrev Ps.ct21 (p : Ps) : Value := p.vl 2 5
abbrev Ps.oc22 (p : Ps) : Value := p.vl 2 6
abbrev Ps.kV22 (p : Ps) : Value := p.vl 2 7
abbrev Ps.dc22 (p : Ps) : Value := p.vl 2 8
abbrev Ps.pm22 (p : Ps) : Value := p.vl 2 9
abbrev Ps.cd22 (p : Ps) : Value := p.vl 2 10
abbrev Ps.ct22 (p : Ps) : Value := p.vl 2 11
abbrev Ps.oc44 (p : Ps) : Value := p.vl 3 0
abbrev Ps.kV44 (p : Ps) : Value := p.vl 3 1
abbrev Ps.dc44 (p : Ps) : Value := p.vl 3 2
abbrev Ps.pm44 (p : Ps) : Value := p.vl 3 3
abbrev Ps.cd44 (p : Ps) : Value := p.vl 3 4
abbrev Ps.ct44 (p : Ps) : Value := p.vl 3 5
abbrev Ps.oc23 (p : Ps) : Value := p.vl 3 6
abbrev Ps.kV23 (p : Ps) : Value := p.vl 3 7
abbrev Ps.dc23 (p : Ps) : Value := p.vl 3 8
abbrev Ps.pm23 (p : Ps) : Value := p.vl 3 9
abbrev Ps.cd23 (p : Ps) : Value := p.vl 3 10
abbrev Ps.ct23 (p : Ps) : Value := p.vl 3 11
abbrev Ps.oc24 (p : Ps) : Value := p.vl 4 0
abbrev Ps.kV24 (p : Ps) : Value := p.vl 4 1
abbrev Ps.dc24 (p : Ps) : Value := p.vl 4 2
abbrev Ps.pm24 (p : Ps) : Value := p.vl 4 3
abbrev Ps.cd24 (p : Ps) : Value := p.vl 4 4
abbrev Ps.ct24 (p : Ps) : Value := p.vl 4 5
abbrev Ps.oc25 (p : Ps) : Value := p.vl 4 6
abbrev Ps.kV25 (p : Ps) : Value := p.vl 4 7
abbrev Ps.dc25 (p : Ps) : Value := p.vl 4 8
abbrev Ps.pm25 (p : Ps) : Value := p.vl 4 9
abbrev Ps.cd25 (p : Ps) : Value := p.vl 4 10
abbrev Ps.ct25 (p : Ps) : Value := p.vl 4 11
abbrev Ps.oc3 (p : Ps) : Value := p.vl 5 0
abbrev Ps.kV3 (p : Ps) : Value := p.vl 5 1
abbrev Ps.dc3 (p : Ps) : Value := p.vl 5 2
abbrev Ps.pm3 (p : Ps) : Value := p.vl 5 3
abbrev Ps.cd3 (p : Ps) : Value := p.vl 5 4
abbrev Ps.ct3 (p : Ps) : Value := p.vl 5 5
abbrev Ps.oc26 (p : Ps) : Value := p.vl 5 6
abbrev Ps.kV26 (p : Ps) : Value := p.vl 5 7
abbrev Ps.dc26 (p : Ps) : Value := p.vl 5 8
abbrev Ps.pm26 (p : Ps) : Value := p.vl 5 9
abbrev Ps.cd26 (p : Ps) : Value := p.vl 5 10
abbrev Ps.ct26 (p : Ps) : Value := p.vl 5 11
abbrev Ps.oc27 (p : Ps) : Value := p.vl 6 0
abbrev Ps.kV27 (p : Ps) : Value := p.vl 6 1
abbrev Ps.dc27 (p : Ps) : Value := p.vl 6 2
abbrev Ps.pm27 (p : Ps) : Value := p.vl 6 3
abbrev Ps.cd27 (p : Ps) : Value := p.vl 6 4
abbrev Ps.ct27 (p : Ps) : Value := p.vl 6 5
abbrev Ps.oc28 (p : Ps) : Value := p.vl 6 6
abbrev Ps.kV28 (p : Ps) : Value := p.vl 6 7
abbrev Ps.dc28 (p : Ps) : Value := p.vl 6 8
abbrev Ps.pm28 (p : Ps) : Value := p.vl 6 9
abbrev Ps.cd28 (p : Ps) : Value := p.vl 6 10
abbrev Ps.ct28 (p : Ps) : Value := p.vl 6 11
abbrev Ps.oc30 (p : Ps) : Value := p.vl 7 0
abbrev Ps.kV30 (p : Ps) : Value := p.vl 7 1
abbrev Ps.dc30 (p : Ps) : Value := p.vl 7 2
abbrev Ps.pm30 (p : Ps) : Value := p.vl 7 3
abbrev Ps.cd30 (p : Ps) : Value := p.vl 7 4
abbrev Ps.ct30 (p : Ps) : Value := p.vl 7 5
abbrev Ps.oc31 (p : Ps) : Value := p.vl 7 6
abbrev Ps.kV31 (p : Ps) : Value := p.vl 7 7
abbrev Ps.dc31 (p : Ps) : Value := p.vl 7 8
abbrev Ps.pm31 (p : Ps) : Value := p.vl 7 9
abbrev Ps.cd31 (p : Ps) : Value := p.vl 7 10
abbrev Ps.ct31 (p : Ps) : Value := p.vl 7 11
abbrev Ps.oc32 (p : Ps) : Value := p.vl 8 0
abbrev Ps.kV32 (p : Ps) : Value := p.vl 8 1
abbrev Ps.dc32 (p : Ps) : Value := p.vl 8 2
abbrev Ps.pm32 (p : Ps) : Value := p.vl 8 3
abbrev Ps.cd32 (p : Ps) : Value := p.vl 8 4
abbrev Ps.ct32 (p : Ps) : Value := p.vl 8 5
abbrev Ps.oc45 (p : Ps) : Value := p.vl 8 6
abbrev Ps.kV45 (p : Ps) : Value := p.vl 8 7
abbrev Ps.dc45 (p : Ps) : Value := p.vl 8 8
abbrev Ps.pm45 (p : Ps) : Value := p.vl 8 9
abbrev Ps.cd45 (p : Ps) : Value := p.vl 8 10
abbrev Ps.ct45 (p : Ps) : Value := p.vl 8 11
abbrev Ps.oc46 (p : Ps) : Value := p.vl 9 0
abbrev Ps.kV46 (p : Ps) : Value := p.vl 9 1
abbrev Ps.dc46 (p : Ps) : Value := p.vl 9 2
abbrev Ps.pm46 (p : Ps) : Value := p.vl 9 3
abbrev Ps.cd46 (p : Ps) : Value := p.vl 9 4
abbrev Ps.ct46 (p : Ps) : Value := p.vl 9 5
abbrev Ps.oc207 (p : Ps) : Value := p.vl 9 6
abbrev Ps.kV207 (p : Ps) : Value := p.vl 9 7
abbrev Ps.dc207 (p : Ps) : Value := p.vl 9 8
abbrev Ps.pm207 (p : Ps) : Value := p.vl 9 9
abbrev Ps.cd207 (p : Ps) : Value := p.vl 9 10
abbrev Ps.ct207 (p : Ps) : Value := p.vl 9 11
abbrev Ps.oc48 (p : Ps) : Value := p.vl 10 0
abbrev Ps.kV48 (p : Ps) : Value := p.vl 10 1
abbrev Ps.dc48 (p : Ps) : Value := p.vl 10 2
abbrev Ps.pm48 (p : Ps) : Value := p.vl 10 3
abbrev Ps.cd48 (p : Ps) : Value := p.vl 10 4
abbrev Ps.ct48 (p : Ps) : Value := p.vl 10 5
abbrev Ps.oc50 (p : Ps) : Value := p.vl 10 6
abbrev Ps.kV50 (p : Ps) : Value := p.vl 10 7
abbrev Ps.dc50 (p : Ps) : Value := p.vl 10 8
abbrev Ps.pm50 (p : Ps) : Value := p.vl 10 9
abbrev Ps.cd50 (p : Ps) : Value := p.vl 10 10
abbrev Ps.ct50 (p : Ps) : Value := p.vl 10 11
abbrev Ps.oc52 (p : Ps) : Value := p.vl 11 0
abbrev Ps.kV52 (p : Ps) : Value := p.vl 11 1
abbrev Ps.dc52 (p : Ps) : Value := p.vl 11 2
abbrev Ps.pm52 (p : Ps) : Value := p.vl 11 3
abbrev Ps.cd52 (p : Ps) : Value := p.vl 11 4
abbrev Ps.ct52 (p : Ps) : Value := p.vl 11 5
abbrev Ps.oc54 (p : Ps) : Value := p.vl 11 6
abbrev Ps.kV54 (p : Ps) : Value := p.vl 11 7
abbrev Ps.dc54 (p : Ps) : Value := p.vl 11 8
abbrev Ps.pm54 (p : Ps) : Value := p.vl 11 9
abbrev Ps.cd54 (p : Ps) : Value := p.vl 11 10
abbrev Ps.ct54 (p : Ps) : Value := p.vl 11 11
abbrev Ps.oc55 (p : Ps) : Value := p.vl 12 0
abbrev Ps.kV55 (p : Ps) : Value := p.vl 12 1
abbrev Ps.dc55 (p : Ps) : Value := p.vl 12 2
abbrev Ps.pm55 (p : Ps) : Value := p.vl 12 3
abbrev Ps.cd55 (p : Ps) : Value := p.vl 12 4
abbrev Ps.ct55 (p : Ps) : Value := p.vl 12 5
abbrev Ps.oc208 (p : Ps) : Value := p.vl 12 6
abbrev Ps.kV208 (p : Ps) : Value := p.vl 12 7
abbrev Ps.dc208 (p : Ps) : Value := p.vl 12 8
abbrev Ps.pm208 (p : Ps) : Value := p.vl 12 9
abbrev Ps.cd208 (p : Ps) : Value := p.vl 12 10
abbrev Ps.ct208 (p : Ps) : Value := p.vl 12 11
abbrev Ps.gt0 (p : Ps) : Tok := p.tk 0 0
abbrev Ps.gt1 (p : Ps) : Tok := p.tk 0 1
abbrev Ps.prs28 (p : Ps) : List Value := p.rs 0 0
structure Hy0 (p : Ps) : Prop where
  aC2 : PySem.W.nsIn p.K mainGlobals "Rule" = some (some (.ref p.A2))
  pg2 : PySem.W.plainGet p.K p.A2 Str.empty = true
  hd2 : PySem.W.hasDictIn p.K p.A2 = true
  po2 : PySem.W.plainOver p.K p.A2 = true
  sa2 : PySem.W.findIn p.K (.ref p.A2) "__setattr__" = some (some (.builtin "object.__setattr__"))
  mk2 : PySem.W.makesIn p.K p.A2 = true
  kc2 : PySem.W.keepIn p.K (.ref p.A2) = true
  ha2 : PySem.W.findIn p.K (.ref p.A2) "__class__" = some (some (.builtin "object.__class__"))
  hm2 : PySem.W.mroIn p.K p.A2 (.type "object") = some true
  nf2_3 : PySem.W.findIn p.K (.ref p.A2) "letters" = some none
  nf2_4 : PySem.W.findIn p.K (.ref p.A2) "names" = some none
  nf2_5 : PySem.W.findIn p.K (.ref p.A2) "moves" = some none
structure Hy1 (p : Ps) : Prop where
  nf2_6 : PySem.W.findIn p.K (.ref p.A2) "ends" = some none
  nf2_7 : PySem.W.findIn p.K (.ref p.A2) "table" = some none
  nf2_8 : PySem.W.findIn p.K (.ref p.A2) "known" = some none
  hnC : PySem.W.specialIn p.K (.builtin "object.__class__") "__get__" = some (some (.builtin "getset_descriptor.__get__"))
  htkC : PySem.W.takesIn p.K (.builtin "object.__class__") = some true
  aX4 : PySem.W.nsIn p.K mainGlobals "BadRule" = some (some (.ref p.X4))
  exX4 : PySem.W.excIn p.K p.X4 [.type "ValueError", .type "Exception", .type "BaseException", .type "object"] "ValueError.__new__" = true
  kpX4 : PySem.W.keepIn p.K (.ref p.X4) = true
  sbX4 : PySem.W.subIn p.K (.ref p.X4) (.type "BaseException") = some true
  tyX4 : PySem.W.typeIn p.K (.ref p.X4) = some (.type "type")
  hgX4 : PySem.W.findIn p.K (.ref p.X4) "__getattribute__" = some (some (.builtin "BaseException.__getattribute__"))
  hkX4 : PySem.W.findIn p.K (.ref p.X4) "__getattr__" = some none
structure Hy2 (p : Ps) : Prop where
  hdX4 : PySem.W.hasDictIn p.K p.X4 = true
  haX4 : PySem.W.findIn p.K (.ref p.X4) "__class__" = some (some (.builtin "object.__class__"))
  hmX4 : PySem.W.mroIn p.K p.X4 (.type "object") = some true
  su0 : PySem.W.kitOne p.K (.ref p.A2) (.ref p.A2) = some true
  su1 : PySem.W.kitOne p.K (.type "int") (.type "int") = some true
  su2 : PySem.W.kitOne p.K (.type "int") (.type "bool") = some false
  su3 : PySem.W.kitOne p.K (.type "tuple") (.type "tuple") = some true
  z0 : PySem.W.nsIn p.K mainGlobals "len" = some none
  z1 : PySem.W.nsIn p.K mainGlobals "int" = some none
  z2 : PySem.W.nsIn p.K mainGlobals "str" = some none
  z3 : PySem.W.nsIn p.K mainGlobals "tuple" = some none
  z4 : PySem.W.nsIn p.K mainGlobals "list" = some none
structure Hy3 (p : Ps) : Prop where
  z5 : PySem.W.nsIn p.K mainGlobals "sum" = some none
  z6 : PySem.W.nsIn p.K mainGlobals "sorted" = some none
  z7 : PySem.W.nsIn p.K mainGlobals "min" = some none
  z8 : PySem.W.nsIn p.K mainGlobals "max" = some none
  z9 : PySem.W.nsIn p.K mainGlobals "all" = some none
  z10 : PySem.W.nsIn p.K mainGlobals "repr" = some none
  z11 : PySem.W.nsIn p.K mainGlobals "isinstance" = some none
  z12 : PySem.W.nsIn p.K mainGlobals "range" = some none
  z13 : PySem.W.nsIn p.K mainGlobals "zip" = some none
  z14 : PySem.W.nsIn p.K mainGlobals "bool" = some none
  z15 : PySem.W.nsIn p.K mainGlobals "bytes" = some none
  z16 : PySem.W.nsIn p.K mainGlobals "ValueError" = some none
structure Hy4 (p : Ps) : Prop where
  gl0 : PySem.W.nsIn p.K mainGlobals "FREE" = some (some (.str (Sx []) p.gt0))
  gl1 : PySem.W.nsIn p.K mainGlobals "GREATEST_STATE" = some (some (.int 999999 p.gt1))
  a1 : PySem.W.nsIn p.K mainGlobals "_law_draws" = some (some (.ref p.f1))
  l1 : p.K.lookup p.f1 = some ⟨p.oc1, p.od1, .func (PySem.W.fnOf "_law_draws" "_law_draws" (defArgs s_law_draws_1) (defBody s_law_draws_1) (defScope s_law_draws_1) .none p.kV1 p.dc1 p.pm1 p.an1 p.cd1 p.ct1), p.sl1⟩
  c1 : PySem.W.codeIn p.K p.cd1 "_law_draws" = true
  k1 : PySem.W.keepIn p.K (.ref p.f1) = true
  a18 : PySem.W.nsIn p.K mainGlobals "_law_letters" = some (some (.ref p.f18))
  l18 : p.K.lookup p.f18 = some ⟨p.oc18, p.od18, .func (PySem.W.fnOf "_law_letters" "_law_letters" (defArgs s_law_letters_18) (defBody s_law_letters_18) (defScope s_law_letters_18) .none p.kV18 p.dc18 p.pm18 p.an18 p.cd18 p.ct18), p.sl18⟩
  c18 : PySem.W.codeIn p.K p.cd18 "_law_letters" = true
  k18 : PySem.W.keepIn p.K (.ref p.f18) = true
  a19 : PySem.W.nsIn p.K mainGlobals "_law_word" = some (some (.ref p.f19))
  l19 : p.K.lookup p.f19 = some ⟨p.oc19, p.od19, .func (PySem.W.fnOf "_law_word" "_law_word" (defArgs s_law_word_19) (defBody s_law_word_19) (defScope s_law_word_19) .none p.kV19 p.dc19 p.pm19 p.an19 p.cd19 p.ct19), p.sl19⟩
structure Hy5 (p : Ps) : Prop where
  c19 : PySem.W.codeIn p.K p.cd19 "_law_word" = true
  k19 : PySem.W.keepIn p.K (.ref p.f19) = true
  a20 : PySem.W.nsIn p.K mainGlobals "_law_names" = some (some (.ref p.f20))
  l20 : p.K.lookup p.f20 = some ⟨p.oc20, p.od20, .func (PySem.W.fnOf "_law_names" "_law_names" (defArgs s_law_names_20) (defBody s_law_names_20) (defScope s_law_names_20) .none p.kV20 p.dc20 p.pm20 p.an20 p.cd20 p.ct20), p.sl20⟩
  c20 : PySem.W.codeIn p.K p.cd20 "_law_names" = true
  k20 : PySem.W.keepIn p.K (.ref p.f20) = true
  a21 : PySem.W.nsIn p.K mainGlobals "_law_marks" = some (some (.ref p.f21))
  l21 : p.K.lookup p.f21 = some ⟨p.oc21, p.od21, .func (PySem.W.fnOf "_law_marks" "_law_marks" (defArgs s_law_marks_21) (defBody s_law_marks_21) (defScope s_law_marks_21) .none p.kV21 p.dc21 p.pm21 p.an21 p.cd21 p.ct21), p.sl21⟩
  c21 : PySem.W.codeIn p.K p.cd21 "_law_marks" = true
  k21 : PySem.W.keepIn p.K (.ref p.f21) = true
  a22 : PySem.W.nsIn p.K mainGlobals "_law_moves" = some (some (.ref p.f22))
  l22 : p.K.lookup p.f22 = some ⟨p.oc22, p.od22, .func (PySem.W.fnOf "_law_moves" "_law_moves" (defArgs s_law_moves_22) (defBody s_law_moves_22) (defScope s_law_moves_22) .none p.kV22 p.dc22 p.pm22 p.an22 p.cd22 p.ct22), p.sl22⟩
structure Hy6 (p : Ps) : Prop where
  c22 : PySem.W.codeIn p.K p.cd22 "_law_moves" = true
  k22 : PySem.W.keepIn p.K (.ref p.f22) = true
  a44 : PySem.W.nsIn p.K mainGlobals "_law_machine" = some (some (.ref p.f44))
  l44 : p.K.lookup p.f44 = some ⟨p.oc44, p.od44, .func (PySem.W.fnOf "_law_machine" "_law_machine" (defArgs s_law_machine_44) (defBody s_law_machine_44) (defScope s_law_machine_44) .none p.kV44 p.dc44 p.pm44 p.an44 p.cd44 p.ct44), p.sl44⟩
  c44 : PySem.W.codeIn p.K p.cd44 "_law_machine" = true
  k44 : PySem.W.keepIn p.K (.ref p.f44) = true
  a23 : PySem.W.nsIn p.K mainGlobals "is_word" = some (some (.ref p.f23))
  l23 : p.K.lookup p.f23 = some ⟨p.oc23, p.od23, .func (PySem.W.fnOf "is_word" "is_word" (defArgs s_is_word_23) (defBody s_is_word_23) (defScope s_is_word_23) .none p.kV23 p.dc23 p.pm23 p.an23 p.cd23 p.ct23), p.sl23⟩
  c23 : PySem.W.codeIn p.K p.cd23 "is_word" = true
  k23 : PySem.W.keepIn p.K (.ref p.f23) = true
  a24 : PySem.W.nsIn p.K mainGlobals "is_alphabet" = some (some (.ref p.f24))
  l24 : p.K.lookup p.f24 = some ⟨p.oc24, p.od24, .func (PySem.W.fnOf "is_alphabet" "is_alphabet" (defArgs s_is_alphabet_24) (defBody s_is_alphabet_24) (defScope s_is_alphabet_24) .none p.kV24 p.dc24 p.pm24 p.an24 p.cd24 p.ct24), p.sl24⟩
structure Hy7 (p : Ps) : Prop where
  c24 : PySem.W.codeIn p.K p.cd24 "is_alphabet" = true
  k24 : PySem.W.keepIn p.K (.ref p.f24) = true
  a25 : PySem.W.nsIn p.K mainGlobals "are_names" = some (some (.ref p.f25))
  l25 : p.K.lookup p.f25 = some ⟨p.oc25, p.od25, .func (PySem.W.fnOf "are_names" "are_names" (defArgs s_are_names_25) (defBody s_are_names_25) (defScope s_are_names_25) .none p.kV25 p.dc25 p.pm25 p.an25 p.cd25 p.ct25), p.sl25⟩
  c25 : PySem.W.codeIn p.K p.cd25 "are_names" = true
  k25 : PySem.W.keepIn p.K (.ref p.f25) = true
  a3 : PySem.W.nsIn p.K mainGlobals "is_number" = some (some (.ref p.f3))
  l3 : p.K.lookup p.f3 = some ⟨p.oc3, p.od3, .func (PySem.W.fnOf "is_number" "is_number" (defArgs s_is_number_3) (defBody s_is_number_3) (defScope s_is_number_3) .none p.kV3 p.dc3 p.pm3 p.an3 p.cd3 p.ct3), p.sl3⟩
  c3 : PySem.W.codeIn p.K p.cd3 "is_number" = true
  k3 : PySem.W.keepIn p.K (.ref p.f3) = true
  a26 : PySem.W.nsIn p.K mainGlobals "is_state" = some (some (.ref p.f26))
  l26 : p.K.lookup p.f26 = some ⟨p.oc26, p.od26, .func (PySem.W.fnOf "is_state" "is_state" (defArgs s_is_state_26) (defBody s_is_state_26) (defScope s_is_state_26) .none p.kV26 p.dc26 p.pm26 p.an26 p.cd26 p.ct26), p.sl26⟩
structure Hy8 (p : Ps) : Prop where
  c26 : PySem.W.codeIn p.K p.cd26 "is_state" = true
  k26 : PySem.W.keepIn p.K (.ref p.f26) = true
  a27 : PySem.W.nsIn p.K mainGlobals "checked_moves" = some (some (.ref p.f27))
  l27 : p.K.lookup p.f27 = some ⟨p.oc27, p.od27, .func (PySem.W.fnOf "checked_moves" "checked_moves" (defArgs s_checked_moves_27) (defBody s_checked_moves_27) (defScope s_checked_moves_27) .none p.kV27 p.dc27 p.pm27 p.an27 p.cd27 p.ct27), p.sl27⟩
  c27 : PySem.W.codeIn p.K p.cd27 "checked_moves" = true
  k27 : PySem.W.keepIn p.K (.ref p.f27) = true
  pa28_2 : PySem.W.findIn p.K (.ref p.A2) "marks" = some (some (.ref p.pp28))
  pg28 : PySem.W.specialIn p.K (.ref p.pp28) "__get__" = some (some (.builtin "property.__get__"))
  pt28 : PySem.W.takesIn p.K (.ref p.pp28) = some true
  pr28 : PySem.W.recIn p.K p.pp28 "property" = some (.ref p.f28 :: p.prs28)
  l28 : p.K.lookup p.f28 = some ⟨p.oc28, p.od28, .func (PySem.W.fnOf "marks" "Rule.marks" (defArgs s_Rule_marks_28) (defBody s_Rule_marks_28) (defScope s_Rule_marks_28) .none p.kV28 p.dc28 p.pm28 p.an28 p.cd28 p.ct28), p.sl28⟩
  c28 : PySem.W.codeIn p.K p.cd28 "Rule.marks" = true
structure Hy9 (p : Ps) : Prop where
  k28 : PySem.W.keepIn p.K (.ref p.f28) = true
  a30 : PySem.W.nsIn p.K mainGlobals "checked_ends" = some (some (.ref p.f30))
  l30 : p.K.lookup p.f30 = some ⟨p.oc30, p.od30, .func (PySem.W.fnOf "checked_ends" "checked_ends" (defArgs s_checked_ends_30) (defBody s_checked_ends_30) (defScope s_checked_ends_30) .none p.kV30 p.dc30 p.pm30 p.an30 p.cd30 p.ct30), p.sl30⟩
  c30 : PySem.W.codeIn p.K p.cd30 "checked_ends" = true
  k30 : PySem.W.keepIn p.K (.ref p.f30) = true
  a31 : PySem.W.nsIn p.K mainGlobals "targets_of" = some (some (.ref p.f31))
  l31 : p.K.lookup p.f31 = some ⟨p.oc31, p.od31, .func (PySem.W.fnOf "targets_of" "targets_of" (defArgs s_targets_of_31) (defBody s_targets_of_31) (defScope s_targets_of_31) .none p.kV31 p.dc31 p.pm31 p.an31 p.cd31 p.ct31), p.sl31⟩
  c31 : PySem.W.codeIn p.K p.cd31 "targets_of" = true
  k31 : PySem.W.keepIn p.K (.ref p.f31) = true
  a32 : PySem.W.findIn p.K (.ref p.A2) "__init__" = some (some (.ref p.f32))
  i32 : PySem.W.isFn p.K (.ref p.f32) = true
  l32 : p.K.lookup p.f32 = some ⟨p.oc32, p.od32, .func (PySem.W.fnOf "__init__" "Rule.__init__" (defArgs s_Rule_DinitD_32) (defBody s_Rule_DinitD_32) (defScope s_Rule_DinitD_32) .none p.kV32 p.dc32 p.pm32 p.an32 p.cd32 p.ct32), p.sl32⟩
structure Hy10 (p : Ps) : Prop where
  c32 : PySem.W.codeIn p.K p.cd32 "Rule.__init__" = true
  k32 : PySem.W.keepIn p.K (.ref p.f32) = true
  a45 : PySem.W.nsIn p.K mainGlobals "_law_free" = some (some (.ref p.f45))
  l45 : p.K.lookup p.f45 = some ⟨p.oc45, p.od45, .func (PySem.W.fnOf "_law_free" "_law_free" (defArgs s_law_free_45) (defBody s_law_free_45) (defScope s_law_free_45) .none p.kV45 p.dc45 p.pm45 p.an45 p.cd45 p.ct45), p.sl45⟩
  c45 : PySem.W.codeIn p.K p.cd45 "_law_free" = true
  k45 : PySem.W.keepIn p.K (.ref p.f45) = true
  a46 : PySem.W.nsIn p.K mainGlobals "_law_after" = some (some (.ref p.f46))
  l46 : p.K.lookup p.f46 = some ⟨p.oc46, p.od46, .func (PySem.W.fnOf "_law_after" "_law_after" (defArgs s_law_after_46) (defBody s_law_after_46) (defScope s_law_after_46) .none p.kV46 p.dc46 p.pm46 p.an46 p.cd46 p.ct46), p.sl46⟩
  c46 : PySem.W.codeIn p.K p.cd46 "_law_after" = true
  k46 : PySem.W.keepIn p.K (.ref p.f46) = true
  a207 : PySem.W.nsIn p.K mainGlobals "_law_path" = some (some (.ref p.f207))
  l207 : p.K.lookup p.f207 = some ⟨p.oc207, p.od207, .func (PySem.W.fnOf "_law_path" "_law_path" (defArgs s_law_path_207) (defBody s_law_path_207) (defScope s_law_path_207) .none p.kV207 p.dc207 p.pm207 p.an207 p.cd207 p.ct207), p.sl207⟩
structure Hy11 (p : Ps) : Prop where
  c207 : PySem.W.codeIn p.K p.cd207 "_law_path" = true
  k207 : PySem.W.keepIn p.K (.ref p.f207) = true
  a48 : PySem.W.findIn p.K (.ref p.A2) "closure" = some (some (.ref p.f48))
  i48 : PySem.W.isFn p.K (.ref p.f48) = true
  ma48_2 : PySem.W.findIn p.K (.ref p.A2) "closure" = some (some (.ref p.f48))
  l48 : p.K.lookup p.f48 = some ⟨p.oc48, p.od48, .func (PySem.W.fnOf "closure" "Rule.closure" (defArgs s_Rule_closure_48) (defBody s_Rule_closure_48) (defScope s_Rule_closure_48) .none p.kV48 p.dc48 p.pm48 p.an48 p.cd48 p.ct48), p.sl48⟩
  c48 : PySem.W.codeIn p.K p.cd48 "Rule.closure" = true
  k48 : PySem.W.keepIn p.K (.ref p.f48) = true
  a50 : PySem.W.findIn p.K (.ref p.A2) "step" = some (some (.ref p.f50))
  i50 : PySem.W.isFn p.K (.ref p.f50) = true
  ma50_2 : PySem.W.findIn p.K (.ref p.A2) "step" = some (some (.ref p.f50))
  l50 : p.K.lookup p.f50 = some ⟨p.oc50, p.od50, .func (PySem.W.fnOf "step" "Rule.step" (defArgs s_Rule_step_50) (defBody s_Rule_step_50) (defScope s_Rule_step_50) .none p.kV50 p.dc50 p.pm50 p.an50 p.cd50 p.ct50), p.sl50⟩
structure Hy12 (p : Ps) : Prop where
  c50 : PySem.W.codeIn p.K p.cd50 "Rule.step" = true
  k50 : PySem.W.keepIn p.K (.ref p.f50) = true
  a52 : PySem.W.findIn p.K (.ref p.A2) "after" = some (some (.ref p.f52))
  i52 : PySem.W.isFn p.K (.ref p.f52) = true
  ma52_2 : PySem.W.findIn p.K (.ref p.A2) "after" = some (some (.ref p.f52))
  l52 : p.K.lookup p.f52 = some ⟨p.oc52, p.od52, .func (PySem.W.fnOf "after" "Rule.after" (defArgs s_Rule_after_52) (defBody s_Rule_after_52) (defScope s_Rule_after_52) .none p.kV52 p.dc52 p.pm52 p.an52 p.cd52 p.ct52), p.sl52⟩
  c52 : PySem.W.codeIn p.K p.cd52 "Rule.after" = true
  k52 : PySem.W.keepIn p.K (.ref p.f52) = true
  a54 : PySem.W.nsIn p.K mainGlobals "_law_told" = some (some (.ref p.f54))
  l54 : p.K.lookup p.f54 = some ⟨p.oc54, p.od54, .func (PySem.W.fnOf "_law_told" "_law_told" (defArgs s_law_told_54) (defBody s_law_told_54) (defScope s_law_told_54) .none p.kV54 p.dc54 p.pm54 p.an54 p.cd54 p.ct54), p.sl54⟩
  c54 : PySem.W.codeIn p.K p.cd54 "_law_told" = true
  k54 : PySem.W.keepIn p.K (.ref p.f54) = true
structure Hy13 (p : Ps) : Prop where
  a55 : PySem.W.nsIn p.K mainGlobals "_law_due" = some (some (.ref p.f55))
  l55 : p.K.lookup p.f55 = some ⟨p.oc55, p.od55, .func (PySem.W.fnOf "_law_due" "_law_due" (defArgs s_law_due_55) (defBody s_law_due_55) (defScope s_law_due_55) .none p.kV55 p.dc55 p.pm55 p.an55 p.cd55 p.ct55), p.sl55⟩
  c55 : PySem.W.codeIn p.K p.cd55 "_law_due" = true
  k55 : PySem.W.keepIn p.K (.ref p.f55) = true
  a208 : PySem.W.nsIn p.K mainGlobals "law" = some (some (.ref p.f208))
  l208 : p.K.lookup p.f208 = some ⟨p.oc208, p.od208, .func (PySem.W.fnOf "law" "law" (defArgs s_law_208) (defBody s_law_208) (defScope s_law_208) .none p.kV208 p.dc208 p.pm208 p.an208 p.cd208 p.ct208), p.sl208⟩
  c208 : PySem.W.codeIn p.K p.cd208 "law" = true
  k208 : PySem.W.keepIn p.K (.ref p.f208) = true
structure Hy (p : Ps) : Prop where
  X : p.K.In p.hp
  G : p.hp.Ns mainGlobals p.mg
  g0 : Hy0 p
  g1 : Hy1 p
  g2 : Hy2 p
  g3 : Hy3 p
  g4 : Hy4 p
  g5 : Hy5 p
  g6 : Hy6 p
  g7 : Hy7 p
  g8 : Hy8 p
  g9 : Hy9 p
  g10 : Hy10 p
  g11 : Hy11 p
  g12 : Hy12 p
  g13 : Hy13 p
abbrev fd1 (p : Ps) : FuncData := PySem.W.fnOf "_law_draws" "_law_draws" (defArgs s_law_draws_1) (defBody s_law_draws_1) (defScope s_law_draws_1) .none p.kV1 p.dc1 p.pm1 p.an1 p.cd1 p.ct1
abbrev fd18 (p : Ps) : FuncData := PySem.W.fnOf "_law_letters" "_law_letters" (defArgs s_law_letters_18) (defBody s_law_letters_18) (defScope s_law_letters_18) .none p.kV18 p.dc18 p.pm18 p.an18 p.cd18 p.ct18
abbrev fd19 (p : Ps) : FuncData := PySem.W.fnOf "_law_word" "_law_word" (defArgs s_law_word_19) (defBody s_law_word_19) (defScope s_law_word_19) .none p.kV19 p.dc19 p.pm19 p.an19 p.cd19 p.ct19
abbrev fd20 (p : Ps) : FuncData := PySem.W.fnOf "_law_names" "_law_names" (defArgs s_law_names_20) (defBody s_law_names_20) (defScope s_law_names_20) .none p.kV20 p.dc20 p.pm20 p.an20 p.cd20 p.ct20
abbrev fd21 (p : Ps) : FuncData := PySem.W.fnOf "_law_marks" "_law_marks" (defArgs s_law_marks_21) (defBody s_law_marks_21) (defScope s_law_marks_21) .none p.kV21 p.dc21 p.pm21 p.an21 p.cd21 p.ct21
abbrev fd22 (p : Ps) : FuncData := PySem.W.fnOf "_law_moves" "_law_moves" (defArgs s_law_moves_22) (defBody s_law_moves_22) (defScope s_law_moves_22) .none p.kV22 p.dc22 p.pm22 p.an22 p.cd22 p.ct22
abbrev fd44 (p : Ps) : FuncData := PySem.W.fnOf "_law_machine" "_law_machine" (defArgs s_law_machine_44) (defBody s_law_machine_44) (defScope s_law_machine_44) .none p.kV44 p.dc44 p.pm44 p.an44 p.cd44 p.ct44
abbrev fd23 (p : Ps) : FuncData := PySem.W.fnOf "is_word" "is_word" (defArgs s_is_word_23) (defBody s_is_word_23) (defScope s_is_word_23) .none p.kV23 p.dc23 p.pm23 p.an23 p.cd23 p.ct23
abbrev fd24 (p : Ps) : FuncData := PySem.W.fnOf "is_alphabet" "is_alphabet" (defArgs s_is_alphabet_24) (defBody s_is_alphabet_24) (defScope s_is_alphabet_24) .none p.kV24 p.dc24 p.pm24 p.an24 p.cd24 p.ct24
abbrev fd25 (p : Ps) : FuncData := PySem.W.fnOf "are_names" "are_names" (defArgs s_are_names_25) (defBody s_are_names_25) (defScope s_are_names_25) .none p.kV25 p.dc25 p.pm25 p.an25 p.cd25 p.ct25
abbrev fd3 (p : Ps) : FuncData := PySem.W.fnOf "is_number" "is_number" (defArgs s_is_number_3) (defBody s_is_number_3) (defScope s_is_number_3) .none p.kV3 p.dc3 p.pm3 p.an3 p.cd3 p.ct3
abbrev fd26 (p : Ps) : FuncData := PySem.W.fnOf "is_state" "is_state" (defArgs s_is_state_26) (defBody s_is_state_26) (defScope s_is_state_26) .none p.kV26 p.dc26 p.pm26 p.an26 p.cd26 p.ct26
abbrev fd27 (p : Ps) : FuncData := PySem.W.fnOf "checked_moves" "checked_moves" (defArgs s_checked_moves_27) (defBody s_checked_moves_27) (defScope s_checked_moves_27) .none p.kV27 p.dc27 p.pm27 p.an27 p.cd27 p.ct27
abbrev fd28 (p : Ps) : FuncData := PySem.W.fnOf "marks" "Rule.marks" (defArgs s_Rule_marks_28) (defBody s_Rule_marks_28) (defScope s_Rule_marks_28) .none p.kV28 p.dc28 p.pm28 p.an28 p.cd28 p.ct28
abbrev fd30 (p : Ps) : FuncData := PySem.W.fnOf "checked_ends" "checked_ends" (defArgs s_checked_ends_30) (defBody s_checked_ends_30) (defScope s_checked_ends_30) .none p.kV30 p.dc30 p.pm30 p.an30 p.cd30 p.ct30
abbrev fd31 (p : Ps) : FuncData := PySem.W.fnOf "targets_of" "targets_of" (defArgs s_targets_of_31) (defBody s_targets_of_31) (defScope s_targets_of_31) .none p.kV31 p.dc31 p.pm31 p.an31 p.cd31 p.ct31
abbrev fd32 (p : Ps) : FuncData := PySem.W.fnOf "__init__" "Rule.__init__" (defArgs s_Rule_DinitD_32) (defBody s_Rule_DinitD_32) (defScope s_Rule_DinitD_32) .none p.kV32 p.dc32 p.pm32 p.an32 p.cd32 p.ct32
abbrev fd45 (p : Ps) : FuncData := PySem.W.fnOf "_law_free" "_law_free" (defArgs s_law_free_45) (defBody s_law_free_45) (defScope s_law_free_45) .none p.kV45 p.dc45 p.pm45 p.an45 p.cd45 p.ct45
abbrev fd46 (p : Ps) : FuncData := PySem.W.fnOf "_law_after" "_law_after" (defArgs s_law_after_46) (defBody s_law_after_46) (defScope s_law_after_46) .none p.kV46 p.dc46 p.pm46 p.an46 p.cd46 p.ct46
abbrev fd207 (p : Ps) : FuncData := PySem.W.fnOf "_law_path" "_law_path" (defArgs s_law_path_207) (defBody s_law_path_207) (defScope s_law_path_207) .none p.kV207 p.dc207 p.pm207 p.an207 p.cd207 p.ct207
abbrev fd48 (p : Ps) : FuncData := PySem.W.fnOf "closure" "Rule.closure" (defArgs s_Rule_closure_48) (defBody s_Rule_closure_48) (defScope s_Rule_closure_48) .none p.kV48 p.dc48 p.pm48 p.an48 p.cd48 p.ct48
abbrev fd50 (p : Ps) : FuncData := PySem.W.fnOf "step" "Rule.step" (defArgs s_Rule_step_50) (defBody s_Rule_step_50) (defScope s_Rule_step_50) .none p.kV50 p.dc50 p.pm50 p.an50 p.cd50 p.ct50
abbrev fd52 (p : Ps) : FuncData := PySem.W.fnOf "after" "Rule.after" (defArgs s_Rule_after_52) (defBody s_Rule_after_52) (defScope s_Rule_after_52) .none p.kV52 p.dc52 p.pm52 p.an52 p.cd52 p.ct52
abbrev fd54 (p : Ps) : FuncData := PySem.W.fnOf "_law_told" "_law_told" (defArgs s_law_told_54) (defBody s_law_told_54) (defScope s_law_told_54) .none p.kV54 p.dc54 p.pm54 p.an54 p.cd54 p.ct54
abbrev fd55 (p : Ps) : FuncData := PySem.W.fnOf "_law_due" "_law_due" (defArgs s_law_due_55) (defBody s_law_due_55) (defScope s_law_due_55) .none p.kV55 p.dc55 p.pm55 p.an55 p.cd55 p.ct55
abbrev fd208 (p : Ps) : FuncData := PySem.W.fnOf "law" "law" (defArgs s_law_208) (defBody s_law_208) (defScope s_law_208) .none p.kV208 p.dc208 p.pm208 p.an208 p.cd208 p.ct208
noncomputable abbrev CbM (p : Ps) : Cfg := { toMng := M, P := p.l.prog, w := p.w, K := p.K, mg := p.mg, base := p.base, J := 0, cls := fun n => if n = 2 then p.A2 else 0, exa := fun n => if n = 4 then p.X4 else 0, fnm := fnameG, has := fun n => if n = 2 then true else false, hasX := fun n => if n = 4 then true else false, xf := fun _ => [], cok := fun _ _ _ _ => True, cok_mono := fun _ _ h => h, cok_drop := fun _ _ h => h }
noncomputable abbrev C0 (p : Ps) : Cfg := withCok (CbM p)
theorem q_F1 {p : Ps} (h : Hy p) : Fun p.K "_law_draws" "_law_draws" s_law_draws_1 p.f1 (fd1 p) := fun_mk (st := s_law_draws_1) h.g4.l1 h.g4.c1 h.g4.k1
theorem q_b1 {p : Ps} (h : Hy p) : Binds p.K (fd1 p) ["_law_script", "_law_place", "_law_count"] [] := (q_F1 h).binds (ps := ["_law_script", "_law_place", "_law_count"]) fun _ _ _ _ _ _ us hl => match us, hl with | [_, _, _], _ => rfl
theorem q_F18 {p : Ps} (h : Hy p) : Fun p.K "_law_letters" "_law_letters" s_law_letters_18 p.f18 (fd18 p) := fun_mk (st := s_law_letters_18) h.g4.l18 h.g4.c18 h.g4.k18
theorem q_b18 {p : Ps} (h : Hy p) : Binds p.K (fd18 p) ["_law_draws_here", "_law_at"] [] := (q_F18 h).binds (ps := ["_law_draws_here", "_law_at"]) fun _ _ _ _ _ _ us hl => match us, hl with | [_, _], _ => rfl
theorem q_F19 {p : Ps} (h : Hy p) : Fun p.K "_law_word" "_law_word" s_law_word_19 p.f19 (fd19 p) := fun_mk (st := s_law_word_19) h.g4.l19 h.g5.c19 h.g5.k19
theorem q_b19 {p : Ps} (h : Hy p) : Binds p.K (fd19 p) ["_law_draws_here", "_law_at"] [] := (q_F19 h).binds (ps := ["_law_draws_here", "_law_at"]) fun _ _ _ _ _ _ us hl => match us, hl with | [_, _], _ => rfl
theorem q_F20 {p : Ps} (h : Hy p) : Fun p.K "_law_names" "_law_names" s_law_names_20 p.f20 (fd20 p) := fun_mk (st := s_law_names_20) h.g5.l20 h.g5.c20 h.g5.k20
theorem q_b20 {p : Ps} (h : Hy p) : Binds p.K (fd20 p) ["_law_draws_here", "_law_at"] [] := (q_F20 h).binds (ps := ["_law_draws_here", "_law_at"]) fun _ _ _ _ _ _ us hl => match us, hl with | [_, _], _ => rfl
theorem q_F21 {p : Ps} (h : Hy p) : Fun p.K "_law_marks" "_law_marks" s_law_marks_21 p.f21 (fd21 p) := fun_mk (st := s_law_marks_21) h.g5.l21 h.g5.c21 h.g5.k21
theorem q_b21 {p : Ps} (h : Hy p) : Binds p.K (fd21 p) ["_law_names_here"] [] := (q_F21 h).binds (ps := ["_law_names_here"]) fun _ _ _ _ _ _ us hl => match us, hl with | [_], _ => rfl
theorem q_F22 {p : Ps} (h : Hy p) : Fun p.K "_law_moves" "_law_moves" s_law_moves_22 p.f22 (fd22 p) := fun_mk (st := s_law_moves_22) h.g5.l22 h.g6.c22 h.g6.k22
theorem q_b22 {p : Ps} (h : Hy p) : Binds p.K (fd22 p) ["_law_draws_here", "_law_many", "_law_signs"] [] := (q_F22 h).binds (ps := ["_law_draws_here", "_law_many", "_law_signs"]) fun _ _ _ _ _ _ us hl => match us, hl with | [_, _, _], _ => rfl
theorem q_F44 {p : Ps} (h : Hy p) : Fun p.K "_law_machine" "_law_machine" s_law_machine_44 p.f44 (fd44 p) := fun_mk (st := s_law_machine_44) h.g6.l44 h.g6.c44 h.g6.k44
theorem q_b44 {p : Ps} (h : Hy p) : Binds p.K (fd44 p) ["_law_draws_here", "_law_letters_here", "_law_names_here", "_law_most"] [] := (q_F44 h).binds (ps := ["_law_draws_here", "_law_letters_here", "_law_names_here", "_law_most"]) fun _ _ _ _ _ _ us hl => match us, hl with | [_, _, _, _], _ => rfl
theorem q_F23 {p : Ps} (h : Hy p) : Fun p.K "is_word" "is_word" s_is_word_23 p.f23 (fd23 p) := fun_mk (st := s_is_word_23) h.g6.l23 h.g6.c23 h.g6.k23
theorem q_b23 {p : Ps} (h : Hy p) : Binds p.K (fd23 p) ["value", "least", "most"] [] := (q_F23 h).binds (ps := ["value", "least", "most"]) fun _ _ _ _ _ _ us hl => match us, hl with | [_, _, _], _ => rfl
theorem q_F24 {p : Ps} (h : Hy p) : Fun p.K "is_alphabet" "is_alphabet" s_is_alphabet_24 p.f24 (fd24 p) := fun_mk (st := s_is_alphabet_24) h.g6.l24 h.g7.c24 h.g7.k24
theorem q_b24 {p : Ps} (h : Hy p) : Binds p.K (fd24 p) ["value"] [] := (q_F24 h).binds (ps := ["value"]) fun _ _ _ _ _ _ us hl => match us, hl with | [_], _ => rfl
theorem q_F25 {p : Ps} (h : Hy p) : Fun p.K "are_names" "are_names" s_are_names_25 p.f25 (fd25 p) := fun_mk (st := s_are_names_25) h.g7.l25 h.g7.c25 h.g7.k25
theorem q_b25 {p : Ps} (h : Hy p) : Binds p.K (fd25 p) ["value"] [] := (q_F25 h).binds (ps := ["value"]) fun _ _ _ _ _ _ us hl => match us, hl with | [_], _ => rfl
theorem q_F3 {p : Ps} (h : Hy p) : Fun p.K "is_number" "is_number" s_is_number_3 p.f3 (fd3 p) := fun_mk (st := s_is_number_3) h.g7.l3 h.g7.c3 h.g7.k3
theorem q_b3 {p : Ps} (h : Hy p) : Binds p.K (fd3 p) ["value"] [] := (q_F3 h).binds (ps := ["value"]) fun _ _ _ _ _ _ us hl => match us, hl with | [_], _ => rfl
theorem q_F26 {p : Ps} (h : Hy p) : Fun p.K "is_state" "is_state" s_is_state_26 p.f26 (fd26 p) := fun_mk (st := s_is_state_26) h.g7.l26 h.g8.c26 h.g8.k26
theorem q_b26 {p : Ps} (h : Hy p) : Binds p.K (fd26 p) ["value"] [] := (q_F26 h).binds (ps := ["value"]) fun _ _ _ _ _ _ us hl => match us, hl with | [_], _ => rfl
theorem q_F27 {p : Ps} (h : Hy p) : Fun p.K "checked_moves" "checked_moves" s_checked_moves_27 p.f27 (fd27 p) := fun_mk (st := s_checked_moves_27) h.g8.l27 h.g8.c27 h.g8.k27
theorem q_b27 {p : Ps} (h : Hy p) : Binds p.K (fd27 p) ["moves", "signs"] [] := (q_F27 h).binds (ps := ["moves", "signs"]) fun _ _ _ _ _ _ us hl => match us, hl with | [_, _], _ => rfl
theorem q_F28 {p : Ps} (h : Hy p) : Fun p.K "marks" "Rule.marks" s_Rule_marks_28 p.f28 (fd28 p) := fun_mk (st := s_Rule_marks_28) h.g8.l28 h.g8.c28 h.g9.k28
theorem q_b28 {p : Ps} (h : Hy p) : Binds p.K (fd28 p) ["self"] [] := (q_F28 h).binds (ps := ["self"]) fun _ _ _ _ _ _ us hl => match us, hl with | [_], _ => rfl
theorem q_F30 {p : Ps} (h : Hy p) : Fun p.K "checked_ends" "checked_ends" s_checked_ends_30 p.f30 (fd30 p) := fun_mk (st := s_checked_ends_30) h.g9.l30 h.g9.c30 h.g9.k30
theorem q_b30 {p : Ps} (h : Hy p) : Binds p.K (fd30 p) ["ends"] [] := (q_F30 h).binds (ps := ["ends"]) fun _ _ _ _ _ _ us hl => match us, hl with | [_], _ => rfl
theorem q_F31 {p : Ps} (h : Hy p) : Fun p.K "targets_of" "targets_of" s_targets_of_31 p.f31 (fd31 p) := fun_mk (st := s_targets_of_31) h.g9.l31 h.g9.c31 h.g9.k31
theorem q_b31 {p : Ps} (h : Hy p) : Binds p.K (fd31 p) ["moves"] [] := (q_F31 h).binds (ps := ["moves"]) fun _ _ _ _ _ _ us hl => match us, hl with | [_], _ => rfl
theorem q_F32 {p : Ps} (h : Hy p) : Fun p.K "__init__" "Rule.__init__" s_Rule_DinitD_32 p.f32 (fd32 p) := fun_mk (st := s_Rule_DinitD_32) h.g9.l32 h.g10.c32 h.g10.k32
theorem q_b32 {p : Ps} (h : Hy p) : Binds p.K (fd32 p) ["self", "letters", "names", "moves", "ends"] [] := (q_F32 h).binds (ps := ["self", "letters", "names", "moves", "ends"]) fun _ _ _ _ _ _ us hl => match us, hl with | [_, _, _, _, _], _ => rfl
theorem q_F45 {p : Ps} (h : Hy p) : Fun p.K "_law_free" "_law_free" s_law_free_45 p.f45 (fd45 p) := fun_mk (st := s_law_free_45) h.g10.l45 h.g10.c45 h.g10.k45
theorem q_b45 {p : Ps} (h : Hy p) : Binds p.K (fd45 p) ["_law_moves_here", "_law_states"] [] := (q_F45 h).binds (ps := ["_law_moves_here", "_law_states"]) fun _ _ _ _ _ _ us hl => match us, hl with | [_, _], _ => rfl
theorem q_F46 {p : Ps} (h : Hy p) : Fun p.K "_law_after" "_law_after" s_law_after_46 p.f46 (fd46 p) := fun_mk (st := s_law_after_46) h.g10.l46 h.g10.c46 h.g10.k46
theorem q_b46 {p : Ps} (h : Hy p) : Binds p.K (fd46 p) ["_law_moves_here", "_law_signs"] [] := (q_F46 h).binds (ps := ["_law_moves_here", "_law_signs"]) fun _ _ _ _ _ _ us hl => match us, hl with | [_, _], _ => rfl
theorem q_F207 {p : Ps} (h : Hy p) : Fun p.K "_law_path" "_law_path" s_law_path_207 p.f207 (fd207 p) := fun_mk (st := s_law_path_207) h.g10.l207 h.g11.c207 h.g11.k207
theorem q_b207 {p : Ps} (h : Hy p) : Binds p.K (fd207 p) ["_law_moves_here", "_law_draws_here"] [] := (q_F207 h).binds (ps := ["_law_moves_here", "_law_draws_here"]) fun _ _ _ _ _ _ us hl => match us, hl with | [_, _], _ => rfl
theorem q_F48 {p : Ps} (h : Hy p) : Fun p.K "closure" "Rule.closure" s_Rule_closure_48 p.f48 (fd48 p) := fun_mk (st := s_Rule_closure_48) h.g11.l48 h.g11.c48 h.g11.k48
theorem q_b48 {p : Ps} (h : Hy p) : Binds p.K (fd48 p) ["self", "states"] [] := (q_F48 h).binds (ps := ["self", "states"]) fun _ _ _ _ _ _ us hl => match us, hl with | [_, _], _ => rfl
theorem q_F50 {p : Ps} (h : Hy p) : Fun p.K "step" "Rule.step" s_Rule_step_50 p.f50 (fd50 p) := fun_mk (st := s_Rule_step_50) h.g11.l50 h.g12.c50 h.g12.k50
theorem q_b50 {p : Ps} (h : Hy p) : Binds p.K (fd50 p) ["self", "states", "sign"] [] := (q_F50 h).binds (ps := ["self", "states", "sign"]) fun _ _ _ _ _ _ us hl => match us, hl with | [_, _, _], _ => rfl
theorem q_F52 {p : Ps} (h : Hy p) : Fun p.K "after" "Rule.after" s_Rule_after_52 p.f52 (fd52 p) := fun_mk (st := s_Rule_after_52) h.g12.l52 h.g12.c52 h.g12.k52
theorem q_b52 {p : Ps} (h : Hy p) : Binds p.K (fd52 p) ["self", "signs"] [] := (q_F52 h).binds (ps := ["self", "signs"]) fun _ _ _ _ _ _ us hl => match us, hl with | [_, _], _ => rfl
theorem q_F54 {p : Ps} (h : Hy p) : Fun p.K "_law_told" "_law_told" s_law_told_54 p.f54 (fd54 p) := fun_mk (st := s_law_told_54) h.g12.l54 h.g12.c54 h.g12.k54
theorem q_b54 {p : Ps} (h : Hy p) : Binds p.K (fd54 p) ["_law_rule", "_law_signs", "_law_due_here"] [] := (q_F54 h).binds (ps := ["_law_rule", "_law_signs", "_law_due_here"]) fun _ _ _ _ _ _ us hl => match us, hl with | [_, _, _], _ => rfl
theorem q_F55 {p : Ps} (h : Hy p) : Fun p.K "_law_due" "_law_due" s_law_due_55 p.f55 (fd55 p) := fun_mk (st := s_law_due_55) h.g13.l55 h.g13.c55 h.g13.k55
theorem q_b55 {p : Ps} (h : Hy p) : Binds p.K (fd55 p) ["_law_moves_here", "_law_signs"] [] := (q_F55 h).binds (ps := ["_law_moves_here", "_law_signs"]) fun _ _ _ _ _ _ us hl => match us, hl with | [_, _], _ => rfl
theorem q_F208 {p : Ps} (h : Hy p) : Fun p.K "law" "law" s_law_208 p.f208 (fd208 p) := fun_mk (st := s_law_208) h.g13.l208 h.g13.c208 h.g13.k208
theorem q_B {p : Ps} (h : Hy p) : Base (C0 p) tb := {
  blt := fun x hx => by
    simp only [BLT, List.mem_cons, List.not_mem_nil, or_false] at hx
    rcases hx with rfl | rfl | rfl | rfl | rfl | rfl | rfl | rfl | rfl | rfl | rfl | rfl | rfl | rfl | rfl | rfl | rfl
    · exact PySem.W.mg_none_of h.X h.G h.g2.z0
    · exact PySem.W.mg_none_of h.X h.G h.g2.z1
    · exact PySem.W.mg_none_of h.X h.G h.g2.z2
    · exact PySem.W.mg_none_of h.X h.G h.g2.z3
    · exact PySem.W.mg_none_of h.X h.G h.g2.z4
    · exact PySem.W.mg_none_of h.X h.G h.g3.z5
    · exact PySem.W.mg_none_of h.X h.G h.g3.z6
    · exact PySem.W.mg_none_of h.X h.G h.g3.z7
    · exact PySem.W.mg_none_of h.X h.G h.g3.z8
    · exact PySem.W.mg_none_of h.X h.G h.g3.z9
    · exact PySem.W.mg_none_of h.X h.G h.g3.z10
    · exact PySem.W.mg_none_of h.X h.G h.g3.z11
    · exact PySem.W.mg_none_of h.X h.G h.g3.z12
    · exact PySem.W.mg_none_of h.X h.G h.g3.z13
    · exact PySem.W.mg_none_of h.X h.G h.g3.z14
    · exact PySem.W.mg_none_of h.X h.G h.g3.z15
    · exact PySem.W.mg_none_of h.X h.G h.g3.z16
  gl := fun n x e => by
    by_cases hn0 : n = 0
    · subst hn0
      cases e; exact ⟨_, .str (Sx []), PySem.W.mg_of h.X h.G h.g4.gl0, ⟨_, rfl⟩, fun _ => rfl⟩
    by_cases hn1 : n = 1
    · subst hn1
      cases e; exact ⟨_, .int 999999, PySem.W.mg_of h.X h.G h.g4.gl1, ⟨_, rfl⟩, fun _ => rfl⟩
    exfalso
    have e0 : ((if n = 0 then (some "FREE" : Option Str) else if n = 1 then (some "GREATEST_STATE" : Option Str) else (none : Option Str)) = some x) := e
    rw [if_neg hn0, if_neg hn1] at e0
    cases e0
  fnm := fun n => rfl
  cls := fun n e => by
    by_cases hn2 : n = 2
    · subst hn2
      exact ⟨⟨h.g0.pg2, h.g0.hd2, h.g0.po2, h.g0.sa2⟩, h.g0.ha2, h.g1.hnC, h.g1.htkC, h.g0.hm2, fun f hf => by
        have hf : f ∈ ([3, 4, 5, 6, 7, 8] : List Nat) := hf
        simp only [List.mem_cons, List.not_mem_nil, or_false] at hf
        rcases hf with rfl | rfl | rfl | rfl | rfl | rfl
        · exact h.g0.nf2_3
        · exact h.g0.nf2_4
        · exact h.g0.nf2_5
        · exact h.g1.nf2_6
        · exact h.g1.nf2_7
        · exact h.g1.nf2_8,
        (show (((([3, 4, 5, 6, 7, 8] : List Nat)).map fnameG).Nodup) by decide +kernel)⟩
    exfalso
    have e0 : ((if n = 2 then true else false) = true) := e
    rw [if_neg hn2] at e0
    cases e0
  few := fldsG_few
  cnm := fun n x e => by
    by_cases hn2 : n = 2
    · subst hn2
      cases e; exact ⟨PySem.W.mg_of h.X h.G h.g0.aC2, rfl⟩
    exfalso
    have e0 : ((if n = 2 then (some "Rule" : Option Str) else (none : Option Str)) = some x) := e
    rw [if_neg hn2] at e0
    cases e0
  xnm := fun n x e => by
    by_cases hn4 : n = 4
    · subst hn4
      cases e; exact ⟨PySem.W.mg_of h.X h.G h.g1.aX4, rfl⟩
    exfalso
    have e0 : ((if n = 4 then (some "BadRule" : Option Str) else (none : Option Str)) = some x) := e
    rw [if_neg hn4] at e0
    cases e0
  exc := fun n e => by
    by_cases hn4 : n = 4
    · subst hn4
      exact ⟨h.g1.hgX4, h.g1.hkX4, h.g1.sbX4, h.g2.hdX4, h.g2.haX4, h.g1.hnC, h.g1.htkC, h.g2.hmX4⟩
    exfalso
    have e0 : ((if n = 4 then true else false) = true) := e
    rw [if_neg hn4] at e0
    cases e0
  exm := fun n m b hn ht e => by
    refine mkSub_x (C := (C0 p)) (l := subs) (fun p hp hx => ?_) e
    simp only [subs, List.mem_cons, List.not_mem_nil, or_false] at hp
    rcases hp with rfl | rfl | rfl | rfl
    · cases hx
    · cases hx
    · cases hx
    · cases hx
  sub := fun t u b h1 h2 e => by
    refine mkSub_ok (C := (C0 p)) (l := subs) (fun p hp => ?_) e
    simp only [subs, List.mem_cons, List.not_mem_nil, or_false] at hp
    rcases hp with rfl | rfl | rfl | rfl
    · exact h.g2.su0
    · exact h.g2.su1
    · exact h.g2.su2
    · exact h.g2.su3
  calm := rfl
  exs := fun n x e => by
    by_cases hn4 : n = 4
    · subst hn4
      cases e; exact ⟨PySem.W.mg_of h.X h.G h.g1.aX4, h.g1.exX4, h.g1.kpX4, h.g1.sbX4, h.g1.tyX4⟩
    exfalso
    have e0 : ((if n = 4 then (some "BadRule" : Option Str) else (none : Option Str)) = some x) := e
    rw [if_neg hn4] at e0
    cases e0
  hs := fun n f e => by cases e
  cok0 := fun F H a d h => cok0_with (CbM p) F H a d h
  mm := fun _ j => memo_with (CbM p) rfl j }
theorem q_w1 {p : Ps} (h : Hy p) : Wl2 ((C0 p).at 0) (tb.only []) := by
  exact (q_B h).wl0 0
theorem q_G1 {p : Ps} (h : Hy p) : FnP (C0 p) 1 p.f1 (fd1 p) ["_law_script", "_law_place", "_law_count"] (spP (C0 p) 3 (M.fn 1)) := def_at (C := (C0 p)) (T := tb.only []) (q_w1 h) rfl (q_F1 h) sc_1 ck_1 (fun ds hl h => by rw [M_1]; rfl)
theorem q_K1 {p : Ps} (h : Hy p) : ∀ j, 1 ≤ j → CbOk ((C0 p).at j) (cbArgs (.fn "_law_draws") 3) (M.fn 1) := fun j hj => fn_at (C := (C0 p)) hj (q_G1 h) (PySem.W.mg_of h.X h.G h.g4.a1) h.g4.k1 (q_b1 h)
theorem q_w18 {p : Ps} (h : Hy p) : Wl2 ((C0 p).at 0) (tb.only []) := by
  exact (q_B h).wl0 0
theorem q_G18 {p : Ps} (h : Hy p) : FnP (C0 p) 1 p.f18 (fd18 p) ["_law_draws_here", "_law_at"] (spP (C0 p) 2 (M.fn 18)) := def_at (C := (C0 p)) (T := tb.only []) (q_w18 h) rfl (q_F18 h) sc_18 ck_18 (fun ds hl h => by rw [M_18]; rfl)
theorem q_K18 {p : Ps} (h : Hy p) : ∀ j, 1 ≤ j → CbOk ((C0 p).at j) (cbArgs (.fn "_law_letters") 2) (M.fn 18) := fun j hj => fn_at (C := (C0 p)) hj (q_G18 h) (PySem.W.mg_of h.X h.G h.g4.a18) h.g4.k18 (q_b18 h)
theorem q_w19 {p : Ps} (h : Hy p) : Wl2 ((C0 p).at 0) (tb.only []) := by
  exact (q_B h).wl0 0
theorem q_G19 {p : Ps} (h : Hy p) : FnP (C0 p) 1 p.f19 (fd19 p) ["_law_draws_here", "_law_at"] (spP (C0 p) 2 (M.fn 19)) := def_at (C := (C0 p)) (T := tb.only []) (q_w19 h) rfl (q_F19 h) sc_19 ck_19 (fun ds hl h => by rw [M_19]; rfl)
theorem q_K19 {p : Ps} (h : Hy p) : ∀ j, 1 ≤ j → CbOk ((C0 p).at j) (cbArgs (.fn "_law_word") 2) (M.fn 19) := fun j hj => fn_at (C := (C0 p)) hj (q_G19 h) (PySem.W.mg_of h.X h.G h.g4.a19) h.g5.k19 (q_b19 h)
theorem q_w20 {p : Ps} (h : Hy p) : Wl2 ((C0 p).at 1) (tb.only [19]) := by
  refine (q_B h).wl 1 [19] (fun n hn k e => ?_) (fun n hn k e => ?_) (fun n hn k e => ?_) (fun n hn k e => ?_) (fun n hn cs k e => ?_) <;> simp only [List.mem_cons, List.not_mem_nil, or_false] at hn
  · rcases hn with rfl
    · cases e; exact (q_K19 h) 1 (by decide)
  · rcases hn with rfl <;> cases e
  · rcases hn with rfl <;> cases e
  · rcases hn with rfl <;> cases e
  · rcases hn with rfl <;> cases e
theorem q_G20 {p : Ps} (h : Hy p) : FnP (C0 p) 2 p.f20 (fd20 p) ["_law_draws_here", "_law_at"] (spP (C0 p) 2 (M.fn 20)) := def_at (C := (C0 p)) (T := tb.only [19]) (q_w20 h) rfl (q_F20 h) sc_20 ck_20 (fun ds hl h => by rw [M_20]; rfl)
theorem q_K20 {p : Ps} (h : Hy p) : ∀ j, 2 ≤ j → CbOk ((C0 p).at j) (cbArgs (.fn "_law_names") 2) (M.fn 20) := fun j hj => fn_at (C := (C0 p)) hj (q_G20 h) (PySem.W.mg_of h.X h.G h.g5.a20) h.g5.k20 (q_b20 h)
theorem q_w21 {p : Ps} (h : Hy p) : Wl2 ((C0 p).at 0) (tb.only []) := by
  exact (q_B h).wl0 0
theorem q_G21 {p : Ps} (h : Hy p) : FnP (C0 p) 1 p.f21 (fd21 p) ["_law_names_here"] (spP (C0 p) 1 (M.fn 21)) := def_at (C := (C0 p)) (T := tb.only []) (q_w21 h) rfl (q_F21 h) sc_21 ck_21 (fun ds hl h => by rw [M_21]; rfl)
theorem q_K21 {p : Ps} (h : Hy p) : ∀ j, 1 ≤ j → CbOk ((C0 p).at j) (cbArgs (.fn "_law_marks") 1) (M.fn 21) := fun j hj => fn_at (C := (C0 p)) hj (q_G21 h) (PySem.W.mg_of h.X h.G h.g5.a21) h.g5.k21 (q_b21 h)
theorem q_w22 {p : Ps} (h : Hy p) : Wl2 ((C0 p).at 0) (tb.only []) := by
  exact (q_B h).wl0 0
theorem q_G22 {p : Ps} (h : Hy p) : FnP (C0 p) 1 p.f22 (fd22 p) ["_law_draws_here", "_law_many", "_law_signs"] (spN (C0 p) 3 (M.fn 22)) := defN_at (C := (C0 p)) (T := tb.only []) (q_w22 h) rfl (q_F22 h) sc_22 ck_22 (fun ds hl h => by rw [M_22]; rfl)
theorem q_K22 {p : Ps} (h : Hy p) : ∀ j, 1 ≤ j → CbOk ((C0 p).at j) (cbArgs (.fn "_law_moves") 3) (M.fn 22) := fun j hj => cbN_at (C := (C0 p)) hj (q_G22 h) (PySem.W.mg_of h.X h.G h.g5.a22) h.g6.k22 (q_b22 h)
theorem q_KN22 {p : Ps} (h : Hy p) : ∀ j, 1 ≤ j → CnOk ((C0 p).at j) (cbArgs (.fn "_law_moves") 3) (M.fn 22) := fun j hj => cnN_at (C := (C0 p)) hj (q_G22 h) (PySem.W.mg_of h.X h.G h.g5.a22) h.g6.k22 (q_b22 h)
theorem q_w44 {p : Ps} (h : Hy p) : Wl2 ((C0 p).at 1) (tb.only [21, 22]) := by
  refine (q_B h).wl 1 [21, 22] (fun n hn k e => ?_) (fun n hn k e => ?_) (fun n hn k e => ?_) (fun n hn k e => ?_) (fun n hn cs k e => ?_) <;> simp only [List.mem_cons, List.not_mem_nil, or_false] at hn
  · rcases hn with rfl | rfl
    · cases e; exact (q_K21 h) 1 (by decide)
    · cases e; exact (q_K22 h) 1 (by decide)
  · rcases hn with rfl | rfl <;> cases e
  · rcases hn with rfl | rfl <;> cases e
  · rcases hn with rfl | rfl
    · cases e
    · cases e; exact (q_KN22 h) 1 (by decide)
  · rcases hn with rfl | rfl <;> cases e
theorem q_G44 {p : Ps} (h : Hy p) : FnP (C0 p) 2 p.f44 (fd44 p) ["_law_draws_here", "_law_letters_here", "_law_names_here", "_law_most"] (spP (C0 p) 4 (M.fn 44)) := def_at (C := (C0 p)) (T := tb.only [21, 22]) (q_w44 h) rfl (q_F44 h) sc_44 ck_44 (fun ds hl h => by rw [M_44]; rfl)
theorem q_K44 {p : Ps} (h : Hy p) : ∀ j, 2 ≤ j → CbOk ((C0 p).at j) (cbArgs (.fn "_law_machine") 4) (M.fn 44) := fun j hj => fn_at (C := (C0 p)) hj (q_G44 h) (PySem.W.mg_of h.X h.G h.g6.a44) h.g6.k44 (q_b44 h)
theorem q_w23 {p : Ps} (h : Hy p) : Wl2 ((C0 p).at 0) (tb.only []) := by
  exact (q_B h).wl0 0
theorem q_G23 {p : Ps} (h : Hy p) : FnP (C0 p) 1 p.f23 (fd23 p) ["value", "least", "most"] (spP (C0 p) 3 (M.fn 23)) := def_at (C := (C0 p)) (T := tb.only []) (q_w23 h) rfl (q_F23 h) sc_23 ck_23 (fun ds hl h => by rw [M_23]; rfl)
theorem q_K23 {p : Ps} (h : Hy p) : ∀ j, 1 ≤ j → CbOk ((C0 p).at j) (cbArgs (.fn "is_word") 3) (M.fn 23) := fun j hj => fn_at (C := (C0 p)) hj (q_G23 h) (PySem.W.mg_of h.X h.G h.g6.a23) h.g6.k23 (q_b23 h)
theorem q_w24 {p : Ps} (h : Hy p) : Wl2 ((C0 p).at 1) (tb.only [23]) := by
  refine (q_B h).wl 1 [23] (fun n hn k e => ?_) (fun n hn k e => ?_) (fun n hn k e => ?_) (fun n hn k e => ?_) (fun n hn cs k e => ?_) <;> simp only [List.mem_cons, List.not_mem_nil, or_false] at hn
  · rcases hn with rfl
    · cases e; exact (q_K23 h) 1 (by decide)
  · rcases hn with rfl <;> cases e
  · rcases hn with rfl <;> cases e
  · rcases hn with rfl <;> cases e
  · rcases hn with rfl <;> cases e
theorem q_G24 {p : Ps} (h : Hy p) : FnP (C0 p) 2 p.f24 (fd24 p) ["value"] (spP (C0 p) 1 (M.fn 24)) := def_at (C := (C0 p)) (T := tb.only [23]) (q_w24 h) rfl (q_F24 h) sc_24 ck_24 (fun ds hl h => by rw [M_24]; rfl)
theorem q_K24 {p : Ps} (h : Hy p) : ∀ j, 2 ≤ j → CbOk ((C0 p).at j) (cbArgs (.fn "is_alphabet") 1) (M.fn 24) := fun j hj => fn_at (C := (C0 p)) hj (q_G24 h) (PySem.W.mg_of h.X h.G h.g6.a24) h.g7.k24 (q_b24 h)
theorem q_w25 {p : Ps} (h : Hy p) : Wl2 ((C0 p).at 1) (tb.only [23]) := by
  refine (q_B h).wl 1 [23] (fun n hn k e => ?_) (fun n hn k e => ?_) (fun n hn k e => ?_) (fun n hn k e => ?_) (fun n hn cs k e => ?_) <;> simp only [List.mem_cons, List.not_mem_nil, or_false] at hn
  · rcases hn with rfl
    · cases e; exact (q_K23 h) 1 (by decide)
  · rcases hn with rfl <;> cases e
  · rcases hn with rfl <;> cases e
  · rcases hn with rfl <;> cases e
  · rcases hn with rfl <;> cases e
theorem q_G25 {p : Ps} (h : Hy p) : FnP (C0 p) 2 p.f25 (fd25 p) ["value"] (spP (C0 p) 1 (M.fn 25)) := def_at (C := (C0 p)) (T := tb.only [23]) (q_w25 h) rfl (q_F25 h) sc_25 ck_25 (fun ds hl h => by rw [M_25]; rfl)
theorem q_K25 {p : Ps} (h : Hy p) : ∀ j, 2 ≤ j → CbOk ((C0 p).at j) (cbArgs (.fn "are_names") 1) (M.fn 25) := fun j hj => fn_at (C := (C0 p)) hj (q_G25 h) (PySem.W.mg_of h.X h.G h.g7.a25) h.g7.k25 (q_b25 h)
theorem q_w3 {p : Ps} (h : Hy p) : Wl2 ((C0 p).at 0) (tb.only []) := by
  exact (q_B h).wl0 0
theorem q_G3 {p : Ps} (h : Hy p) : FnP (C0 p) 1 p.f3 (fd3 p) ["value"] (spP (C0 p) 1 (M.fn 3)) := def_at (C := (C0 p)) (T := tb.only []) (q_w3 h) rfl (q_F3 h) sc_3 ck_3 (fun ds hl h => by rw [M_3]; rfl)
theorem q_K3 {p : Ps} (h : Hy p) : ∀ j, 1 ≤ j → CbOk ((C0 p).at j) (cbArgs (.fn "is_number") 1) (M.fn 3) := fun j hj => fn_at (C := (C0 p)) hj (q_G3 h) (PySem.W.mg_of h.X h.G h.g7.a3) h.g7.k3 (q_b3 h)
theorem q_w26 {p : Ps} (h : Hy p) : Wl2 ((C0 p).at 1) (tb.only [3]) := by
  refine (q_B h).wl 1 [3] (fun n hn k e => ?_) (fun n hn k e => ?_) (fun n hn k e => ?_) (fun n hn k e => ?_) (fun n hn cs k e => ?_) <;> simp only [List.mem_cons, List.not_mem_nil, or_false] at hn
  · rcases hn with rfl
    · cases e; exact (q_K3 h) 1 (by decide)
  · rcases hn with rfl <;> cases e
  · rcases hn with rfl <;> cases e
  · rcases hn with rfl <;> cases e
  · rcases hn with rfl <;> cases e
theorem q_G26 {p : Ps} (h : Hy p) : FnP (C0 p) 2 p.f26 (fd26 p) ["value"] (spP (C0 p) 1 (M.fn 26)) := def_at (C := (C0 p)) (T := tb.only [3]) (q_w26 h) rfl (q_F26 h) sc_26 ck_26 (fun ds hl h => by rw [M_26]; rfl)
theorem q_K26 {p : Ps} (h : Hy p) : ∀ j, 2 ≤ j → CbOk ((C0 p).at j) (cbArgs (.fn "is_state") 1) (M.fn 26) := fun j hj => fn_at (C := (C0 p)) hj (q_G26 h) (PySem.W.mg_of h.X h.G h.g7.a26) h.g8.k26 (q_b26 h)
theorem q_w27 {p : Ps} (h : Hy p) : Wl2 ((C0 p).at 2) (tb.only [26]) := by
  refine (q_B h).wl 2 [26] (fun n hn k e => ?_) (fun n hn k e => ?_) (fun n hn k e => ?_) (fun n hn k e => ?_) (fun n hn cs k e => ?_) <;> simp only [List.mem_cons, List.not_mem_nil, or_false] at hn
  · rcases hn with rfl
    · cases e; exact (q_K26 h) 2 (by decide)
  · rcases hn with rfl <;> cases e
  · rcases hn with rfl <;> cases e
  · rcases hn with rfl <;> cases e
  · rcases hn with rfl <;> cases e
theorem q_G27 {p : Ps} (h : Hy p) : FnP (C0 p) 3 p.f27 (fd27 p) ["moves", "signs"] (spP (C0 p) 2 (M.fn 27)) := def_at (C := (C0 p)) (T := tb.only [26]) (q_w27 h) rfl (q_F27 h) sc_27 ck_27 (fun ds hl h => by rw [M_27]; rfl)
theorem q_K27 {p : Ps} (h : Hy p) : ∀ j, 3 ≤ j → CbOk ((C0 p).at j) (cbArgs (.fn "checked_moves") 2) (M.fn 27) := fun j hj => fn_at (C := (C0 p)) hj (q_G27 h) (PySem.W.mg_of h.X h.G h.g8.a27) h.g8.k27 (q_b27 h)
theorem q_w28 {p : Ps} (h : Hy p) : Wl2 ((C0 p).at 0) (tb.only []) := by
  exact (q_B h).wl0 0
theorem q_G28 {p : Ps} (h : Hy p) : FnP (C0 p) 1 p.f28 (fd28 p) ["self"] (spP (C0 p) 1 (M.fn 28)) := def_at (C := (C0 p)) (T := tb.only []) (q_w28 h) rfl (q_F28 h) sc_28 ck_28 (fun ds hl h => by rw [M_28]; rfl)
theorem q_K29 {p : Ps} (h : Hy p) : ∀ j, 2 ≤ j → OwOk ((C0 p).at j) (opArgs "marks") (M.fn 29) := fun j hj => by rw [M_29]; exact ow_at (C := (C0 p)) ((q_B h).wl0 j).toWld hj (q_G28 h) (q_b28 h) ⟨fun c hc => by simp only [List.mem_cons, List.not_mem_nil, or_false] at hc; rcases hc with rfl <;> first | exact ⟨_, h.g8.pa28_2, h.g8.pg28, h.g8.pt28, ⟨_, h.g8.pr28⟩⟩, fun c hc => by simp only [List.mem_cons, List.not_mem_nil, or_false] at hc; rcases hc with rfl <;> rfl⟩
theorem q_w30 {p : Ps} (h : Hy p) : Wl2 ((C0 p).at 2) (tb.only [26]) := by
  refine (q_B h).wl 2 [26] (fun n hn k e => ?_) (fun n hn k e => ?_) (fun n hn k e => ?_) (fun n hn k e => ?_) (fun n hn cs k e => ?_) <;> simp only [List.mem_cons, List.not_mem_nil, or_false] at hn
  · rcases hn with rfl
    · cases e; exact (q_K26 h) 2 (by decide)
  · rcases hn with rfl <;> cases e
  · rcases hn with rfl <;> cases e
  · rcases hn with rfl <;> cases e
  · rcases hn with rfl <;> cases e
theorem q_G30 {p : Ps} (h : Hy p) : FnP (C0 p) 3 p.f30 (fd30 p) ["ends"] (spP (C0 p) 1 (M.fn 30)) := def_at (C := (C0 p)) (T := tb.only [26]) (q_w30 h) rfl (q_F30 h) sc_30 ck_30 (fun ds hl h => by rw [M_30]; rfl)
theorem q_K30 {p : Ps} (h : Hy p) : ∀ j, 3 ≤ j → CbOk ((C0 p).at j) (cbArgs (.fn "checked_ends") 1) (M.fn 30) := fun j hj => fn_at (C := (C0 p)) hj (q_G30 h) (PySem.W.mg_of h.X h.G h.g9.a30) h.g9.k30 (q_b30 h)
theorem q_w31 {p : Ps} (h : Hy p) : Wl2 ((C0 p).at 0) (tb.only []) := by
  exact (q_B h).wl0 0
theorem q_G31 {p : Ps} (h : Hy p) : FnP (C0 p) 1 p.f31 (fd31 p) ["moves"] (spP (C0 p) 1 (M.fn 31)) := def_at (C := (C0 p)) (T := tb.only []) (q_w31 h) rfl (q_F31 h) sc_31 ck_31 (fun ds hl h => by rw [M_31]; rfl)
theorem q_K31 {p : Ps} (h : Hy p) : ∀ j, 1 ≤ j → CbOk ((C0 p).at j) (cbArgs (.fn "targets_of") 1) (M.fn 31) := fun j hj => fn_at (C := (C0 p)) hj (q_G31 h) (PySem.W.mg_of h.X h.G h.g9.a31) h.g9.k31 (q_b31 h)
theorem q_w32 {p : Ps} (h : Hy p) : Wl2 ((C0 p).at 3) (tb.only [24, 25, 27, 29, 30, 31]) := by
  refine (q_B h).wl 3 [24, 25, 27, 29, 30, 31] (fun n hn k e => ?_) (fun n hn k e => ?_) (fun n hn k e => ?_) (fun n hn k e => ?_) (fun n hn cs k e => ?_) <;> simp only [List.mem_cons, List.not_mem_nil, or_false] at hn
  · rcases hn with rfl | rfl | rfl | rfl | rfl | rfl
    · cases e; exact (q_K24 h) 3 (by decide)
    · cases e; exact (q_K25 h) 3 (by decide)
    · cases e; exact (q_K27 h) 3 (by decide)
    · cases e
    · cases e; exact (q_K30 h) 3 (by decide)
    · cases e; exact (q_K31 h) 3 (by decide)
  · rcases hn with rfl | rfl | rfl | rfl | rfl | rfl <;> cases e
  · rcases hn with rfl | rfl | rfl | rfl | rfl | rfl
    · cases e
    · cases e
    · cases e
    · cases e; exact (q_K29 h) 3 (by decide)
    · cases e
    · cases e
  · rcases hn with rfl | rfl | rfl | rfl | rfl | rfl <;> cases e
  · rcases hn with rfl | rfl | rfl | rfl | rfl | rfl <;> cases e
theorem q_G32 {p : Ps} (h : Hy p) : FnP (C0 p) 4 p.f32 (fd32 p) ["self", "letters", "names", "moves", "ends"] (spI (C0 p) 2 5 (M.fn 32)) := init_at (C := (C0 p)) (T := tb.only [24, 25, 27, 29, 30, 31]) (q_w32 h) rfl rfl (q_F32 h) sc_32 ck_32 (fun ds hl h => by rw [M_32]; rfl)
theorem q_K32 {p : Ps} (h : Hy p) : ∀ j, 5 ≤ j → CbOk ((C0 p).at j) (cbArgs (.fn "Rule") 4) (M.fn 32) := fun j hj => make_at (C := (C0 p)) hj (q_G32 h) ⟨h.g0.mk2, h.g9.a32, h.g9.i32, h.g0.kc2⟩ (PySem.W.mg_of h.X h.G h.g0.aC2) (q_b32 h)
theorem q_w45 {p : Ps} (h : Hy p) : Wl2 ((C0 p).at 0) (tb.only []) := by
  exact (q_B h).wl0 0
theorem q_G45 {p : Ps} (h : Hy p) : FnP (C0 p) 1 p.f45 (fd45 p) ["_law_moves_here", "_law_states"] (spP (C0 p) 2 (M.fn 45)) := def_at (C := (C0 p)) (T := tb.only []) (q_w45 h) rfl (q_F45 h) sc_45 ck_45 (fun ds hl h => by rw [M_45]; rfl)
theorem q_K45 {p : Ps} (h : Hy p) : ∀ j, 1 ≤ j → CbOk ((C0 p).at j) (cbArgs (.fn "_law_free") 2) (M.fn 45) := fun j hj => fn_at (C := (C0 p)) hj (q_G45 h) (PySem.W.mg_of h.X h.G h.g10.a45) h.g10.k45 (q_b45 h)
theorem q_w46 {p : Ps} (h : Hy p) : Wl2 ((C0 p).at 1) (tb.only [45]) := by
  refine (q_B h).wl 1 [45] (fun n hn k e => ?_) (fun n hn k e => ?_) (fun n hn k e => ?_) (fun n hn k e => ?_) (fun n hn cs k e => ?_) <;> simp only [List.mem_cons, List.not_mem_nil, or_false] at hn
  · rcases hn with rfl
    · cases e; exact (q_K45 h) 1 (by decide)
  · rcases hn with rfl <;> cases e
  · rcases hn with rfl <;> cases e
  · rcases hn with rfl <;> cases e
  · rcases hn with rfl <;> cases e
theorem q_G46 {p : Ps} (h : Hy p) : FnP (C0 p) 2 p.f46 (fd46 p) ["_law_moves_here", "_law_signs"] (spP (C0 p) 2 (M.fn 46)) := def_at (C := (C0 p)) (T := tb.only [45]) (q_w46 h) rfl (q_F46 h) sc_46 ck_46 (fun ds hl h => by rw [M_46]; rfl)
theorem q_K46 {p : Ps} (h : Hy p) : ∀ j, 2 ≤ j → CbOk ((C0 p).at j) (cbArgs (.fn "_law_after") 2) (M.fn 46) := fun j hj => fn_at (C := (C0 p)) hj (q_G46 h) (PySem.W.mg_of h.X h.G h.g10.a46) h.g10.k46 (q_b46 h)
theorem q_w207 {p : Ps} (h : Hy p) : Wl2 ((C0 p).at 2) (tb.only [45, 46]) := by
  refine (q_B h).wl 2 [45, 46] (fun n hn k e => ?_) (fun n hn k e => ?_) (fun n hn k e => ?_) (fun n hn k e => ?_) (fun n hn cs k e => ?_) <;> simp only [List.mem_cons, List.not_mem_nil, or_false] at hn
  · rcases hn with rfl | rfl
    · cases e; exact (q_K45 h) 2 (by decide)
    · cases e; exact (q_K46 h) 2 (by decide)
  · rcases hn with rfl | rfl <;> cases e
  · rcases hn with rfl | rfl <;> cases e
  · rcases hn with rfl | rfl <;> cases e
  · rcases hn with rfl | rfl <;> cases e
theorem q_G207 {p : Ps} (h : Hy p) : FnP (C0 p) 3 p.f207 (fd207 p) ["_law_moves_here", "_law_draws_here"] (spP (C0 p) 2 (M.fn 207)) := def_at (C := (C0 p)) (T := tb.only [45, 46]) (q_w207 h) rfl (q_F207 h) sc_207 ck_207 (fun ds hl h => by rw [M_207]; rfl)
theorem q_K207 {p : Ps} (h : Hy p) : ∀ j, 3 ≤ j → CbOk ((C0 p).at j) (cbArgs (.fn "_law_path") 2) (M.fn 207) := fun j hj => fn_at (C := (C0 p)) hj (q_G207 h) (PySem.W.mg_of h.X h.G h.g10.a207) h.g11.k207 (q_b207 h)
theorem q_w48 {p : Ps} (h : Hy p) : Wl2 ((C0 p).at 0) (tb.only []) := by
  exact (q_B h).wl0 0
theorem q_G48 {p : Ps} (h : Hy p) : FnP (C0 p) 1 p.f48 (fd48 p) ["self", "states"] (spP (C0 p) 2 (M.fn 48)) := def_at (C := (C0 p)) (T := tb.only []) (q_w48 h) rfl (q_F48 h) sc_48 ck_48 (fun ds hl h => by rw [M_48]; rfl)
theorem q_K49 {p : Ps} (h : Hy p) : ∀ j, 1 ≤ j → CmOk ((C0 p).at j) (mArgs "closure" 2) (M.fn 49) := fun j hj => by rw [M_49]; exact meth_at (C := (C0 p)) ((q_B h).wl0 j).toWld hj (q_G48 h) (q_b48 h) ⟨fun c hc => by simp only [List.mem_cons, List.not_mem_nil, or_false] at hc; rcases hc with rfl <;> first | exact ⟨h.g11.ma48_2, h.g11.i48, h.g11.k48⟩, fun c hc => by simp only [List.mem_cons, List.not_mem_nil, or_false] at hc; rcases hc with rfl <;> rfl, fun c hc => by simp only [List.mem_cons, List.not_mem_nil, or_false] at hc; rcases hc with rfl <;> exact (by first | exact (show ∀ n ∈ fldsG 2, fnameG n ≠ Str.ofString "closure" by decide +kernel))⟩
theorem q_w50 {p : Ps} (h : Hy p) : Wl2 ((C0 p).at 1) (tb.only [49]) := by
  refine (q_B h).wl 1 [49] (fun n hn k e => ?_) (fun n hn k e => ?_) (fun n hn k e => ?_) (fun n hn k e => ?_) (fun n hn cs k e => ?_) <;> simp only [List.mem_cons, List.not_mem_nil, or_false] at hn
  · rcases hn with rfl <;> cases e
  · rcases hn with rfl
    · cases e; exact (q_K49 h) 1 (by decide)
  · rcases hn with rfl <;> cases e
  · rcases hn with rfl <;> cases e
  · rcases hn with rfl <;> cases e
theorem q_G50 {p : Ps} (h : Hy p) : FnP (C0 p) 2 p.f50 (fd50 p) ["self", "states", "sign"] (spP (C0 p) 3 (M.fn 50)) := def_at (C := (C0 p)) (T := tb.only [49]) (q_w50 h) rfl (q_F50 h) sc_50 ck_50 (fun ds hl h => by rw [M_50]; rfl)
theorem q_K51 {p : Ps} (h : Hy p) : ∀ j, 2 ≤ j → CmOk ((C0 p).at j) (mArgs "step" 3) (M.fn 51) := fun j hj => by rw [M_51]; exact meth_at (C := (C0 p)) ((q_B h).wl0 j).toWld hj (q_G50 h) (q_b50 h) ⟨fun c hc => by simp only [List.mem_cons, List.not_mem_nil, or_false] at hc; rcases hc with rfl <;> first | exact ⟨h.g11.ma50_2, h.g11.i50, h.g12.k50⟩, fun c hc => by simp only [List.mem_cons, List.not_mem_nil, or_false] at hc; rcases hc with rfl <;> rfl, fun c hc => by simp only [List.mem_cons, List.not_mem_nil, or_false] at hc; rcases hc with rfl <;> exact (by first | exact (show ∀ n ∈ fldsG 2, fnameG n ≠ Str.ofString "step" by decide +kernel))⟩
theorem q_w52 {p : Ps} (h : Hy p) : Wl2 ((C0 p).at 2) (tb.only [49, 51]) := by
  refine (q_B h).wl 2 [49, 51] (fun n hn k e => ?_) (fun n hn k e => ?_) (fun n hn k e => ?_) (fun n hn k e => ?_) (fun n hn cs k e => ?_) <;> simp only [List.mem_cons, List.not_mem_nil, or_false] at hn
  · rcases hn with rfl | rfl <;> cases e
  · rcases hn with rfl | rfl
    · cases e; exact (q_K49 h) 2 (by decide)
    · cases e; exact (q_K51 h) 2 (by decide)
  · rcases hn with rfl | rfl <;> cases e
  · rcases hn with rfl | rfl <;> cases e
  · rcases hn with rfl | rfl <;> cases e
theorem q_G52 {p : Ps} (h : Hy p) : FnP (C0 p) 3 p.f52 (fd52 p) ["self", "signs"] (spP (C0 p) 2 (M.fn 52)) := def_at (C := (C0 p)) (T := tb.only [49, 51]) (q_w52 h) rfl (q_F52 h) sc_52 ck_52 (fun ds hl h => by rw [M_52]; rfl)
theorem q_K53 {p : Ps} (h : Hy p) : ∀ j, 3 ≤ j → CmOk ((C0 p).at j) (mArgs "after" 2) (M.fn 53) := fun j hj => by rw [M_53]; exact meth_at (C := (C0 p)) ((q_B h).wl0 j).toWld hj (q_G52 h) (q_b52 h) ⟨fun c hc => by simp only [List.mem_cons, List.not_mem_nil, or_false] at hc; rcases hc with rfl <;> first | exact ⟨h.g12.ma52_2, h.g12.i52, h.g12.k52⟩, fun c hc => by simp only [List.mem_cons, List.not_mem_nil, or_false] at hc; rcases hc with rfl <;> rfl, fun c hc => by simp only [List.mem_cons, List.not_mem_nil, or_false] at hc; rcases hc with rfl <;> exact (by first | exact (show ∀ n ∈ fldsG 2, fnameG n ≠ Str.ofString "after" by decide +kernel))⟩
theorem q_w54 {p : Ps} (h : Hy p) : Wl2 ((C0 p).at 3) (tb.only [53]) := by
  refine (q_B h).wl 3 [53] (fun n hn k e => ?_) (fun n hn k e => ?_) (fun n hn k e => ?_) (fun n hn k e => ?_) (fun n hn cs k e => ?_) <;> simp only [List.mem_cons, List.not_mem_nil, or_false] at hn
  · rcases hn with rfl <;> cases e
  · rcases hn with rfl
    · cases e; exact (q_K53 h) 3 (by decide)
  · rcases hn with rfl <;> cases e
  · rcases hn with rfl <;> cases e
  · rcases hn with rfl <;> cases e
theorem q_G54 {p : Ps} (h : Hy p) : FnP (C0 p) 4 p.f54 (fd54 p) ["_law_rule", "_law_signs", "_law_due_here"] (spP (C0 p) 3 (M.fn 54)) := def_at (C := (C0 p)) (T := tb.only [53]) (q_w54 h) rfl (q_F54 h) sc_54 ck_54 (fun ds hl h => by rw [M_54]; rfl)
theorem q_K54 {p : Ps} (h : Hy p) : ∀ j, 4 ≤ j → CbOk ((C0 p).at j) (cbArgs (.fn "_law_told") 3) (M.fn 54) := fun j hj => fn_at (C := (C0 p)) hj (q_G54 h) (PySem.W.mg_of h.X h.G h.g12.a54) h.g12.k54 (q_b54 h)
theorem q_w55 {p : Ps} (h : Hy p) : Wl2 ((C0 p).at 2) (tb.only [46]) := by
  refine (q_B h).wl 2 [46] (fun n hn k e => ?_) (fun n hn k e => ?_) (fun n hn k e => ?_) (fun n hn k e => ?_) (fun n hn cs k e => ?_) <;> simp only [List.mem_cons, List.not_mem_nil, or_false] at hn
  · rcases hn with rfl
    · cases e; exact (q_K46 h) 2 (by decide)
  · rcases hn with rfl <;> cases e
  · rcases hn with rfl <;> cases e
  · rcases hn with rfl <;> cases e
  · rcases hn with rfl <;> cases e
theorem q_G55 {p : Ps} (h : Hy p) : FnP (C0 p) 3 p.f55 (fd55 p) ["_law_moves_here", "_law_signs"] (spP (C0 p) 2 (M.fn 55)) := def_at (C := (C0 p)) (T := tb.only [46]) (q_w55 h) rfl (q_F55 h) sc_55 ck_55 (fun ds hl h => by rw [M_55]; rfl)
theorem q_K55 {p : Ps} (h : Hy p) : ∀ j, 3 ≤ j → CbOk ((C0 p).at j) (cbArgs (.fn "_law_due") 2) (M.fn 55) := fun j hj => fn_at (C := (C0 p)) hj (q_G55 h) (PySem.W.mg_of h.X h.G h.g13.a55) h.g13.k55 (q_b55 h)
theorem q_w208 {p : Ps} (h : Hy p) : Wl2 ((C0 p).at 5) (tb.only [1, 18, 20, 44, 32, 21, 207, 54, 55]) := by
  refine (q_B h).wl 5 [1, 18, 20, 44, 32, 21, 207, 54, 55] (fun n hn k e => ?_) (fun n hn k e => ?_) (fun n hn k e => ?_) (fun n hn k e => ?_) (fun n hn cs k e => ?_) <;> simp only [List.mem_cons, List.not_mem_nil, or_false] at hn
  · rcases hn with rfl | rfl | rfl | rfl | rfl | rfl | rfl | rfl | rfl
    · cases e; exact (q_K1 h) 5 (by decide)
    · cases e; exact (q_K18 h) 5 (by decide)
    · cases e; exact (q_K20 h) 5 (by decide)
    · cases e; exact (q_K44 h) 5 (by decide)
    · cases e; exact (q_K32 h) 5 (by decide)
    · cases e; exact (q_K21 h) 5 (by decide)
    · cases e; exact (q_K207 h) 5 (by decide)
    · cases e; exact (q_K54 h) 5 (by decide)
    · cases e; exact (q_K55 h) 5 (by decide)
  · rcases hn with rfl | rfl | rfl | rfl | rfl | rfl | rfl | rfl | rfl <;> cases e
  · rcases hn with rfl | rfl | rfl | rfl | rfl | rfl | rfl | rfl | rfl <;> cases e
  · rcases hn with rfl | rfl | rfl | rfl | rfl | rfl | rfl | rfl | rfl <;> cases e
  · rcases hn with rfl | rfl | rfl | rfl | rfl | rfl | rfl | rfl | rfl <;> cases e
theorem q_G208 {p : Ps} (h : Hy p) : FnP (C0 p) 6 p.f208 (fd208 p) ["_law_script"] (spP (C0 p) 1 (M.fn 208)) := def_at (C := (C0 p)) (T := tb.only [1, 18, 20, 44, 32, 21, 207, 54, 55]) (q_w208 h) rfl (q_F208 h) sc_208 ck_208 (fun ds hl h => by rw [M_208]; rfl)
abbrev mkP (w : World) (K : PySem.W.Frag) (hp : Heap) (mg : Str → Option Value) (base : Heap) : Ps := { l := PySem.Challenge.rw_piecefinds_k10_after_signs, w := w, K := K, hp := hp, mg := mg, base := base, ad := pickP [[x_A2 K, x_X4 K, x_f1 K, x_f18 K, x_f19 K, x_f20 K, x_f21 K, x_f22 K, x_f44 K, x_f23 K, x_f24 K, x_f25 K], [x_f3 K, x_f26 K, x_f27 K, x_f28 K, x_pp28 K, x_f30 K, x_f31 K, x_f32 K, x_f45 K, x_f46 K, x_f207 K, x_f48 K], [x_f50 K, x_f52 K, x_f54 K, x_f55 K, x_f208 K]] 0, od := pickP [[x_od1 K, x_an1 K, x_od18 K, x_an18 K, x_od19 K, x_an19 K, x_od20 K, x_an20 K, x_od21 K, x_an21 K, x_od22 K, x_an22 K], [x_od44 K, x_an44 K, x_od23 K, x_an23 K, x_od24 K, x_an24 K, x_od25 K, x_an25 K, x_od3 K, x_an3 K, x_od26 K, x_an26 K], [x_od27 K, x_an27 K, x_od28 K, x_an28 K, x_od30 K, x_an30 K, x_od31 K, x_an31 K, x_od32 K, x_an32 K, x_od45 K, x_an45 K], [x_od46 K, x_an46 K, x_od207 K, x_an207 K, x_od48 K, x_an48 K, x_od50 K, x_an50 K, x_od52 K, x_an52 K, x_od54 K, x_an54 K], [x_od55 K, x_an55 K, x_od208 K, x_an208 K]] none, sl := pickP [[x_sl1 K, x_sl18 K, x_sl19 K, x_sl20 K, x_sl21 K, x_sl22 K, x_sl44 K, x_sl23 K, x_sl24 K, x_sl25 K, x_sl3 K, x_sl26 K], [x_sl27 K, x_sl28 K, x_sl30 K, x_sl31 K, x_sl32 K, x_sl45 K, x_sl46 K, x_sl207 K, x_sl48 K, x_sl50 K, x_sl52 K, x_sl54 K], [x_sl55 K, x_sl208 K]] #[], vl := pickP [[x_oc1 K, x_kV1 K, x_dc1 K, x_pm1 K, x_cd1 K, x_ct1 K, x_oc18 K, x_kV18 K, x_dc18 K, x_pm18 K, x_cd18 K, x_ct18 K], [x_oc19 K, x_kV19 K, x_dc19 K, x_pm19 K, x_cd19 K, x_ct19 K, x_oc20 K, x_kV20 K, x_dc20 K, x_pm20 K, x_cd20 K, x_ct20 K], [x_oc21 K, x_kV21 K, x_dc21 K, x_pm21 K, x_cd21 K, x_ct21 K, x_oc22 K, x_kV22 K, x_dc22 K, x_pm22 K, x_cd22 K, x_ct22 K], [x_oc44 K, x_kV44 K, x_dc44 K, x_pm44 K, x_cd44 K, x_ct44 K, x_oc23 K, x_kV23 K, x_dc23 K, x_pm23 K, x_cd23 K, x_ct23 K], [x_oc24 K, x_kV24 K, x_dc24 K, x_pm24 K, x_cd24 K, x_ct24 K, x_oc25 K, x_kV25 K, x_dc25 K, x_pm25 K, x_cd25 K, x_ct25 K], [x_oc3 K, x_kV3 K, x_dc3 K, x_pm3 K, x_cd3 K, x_ct3 K, x_oc26 K, x_kV26 K, x_dc26 K, x_pm26 K, x_cd26 K, x_ct26 K], [x_oc27 K, x_kV27 K, x_dc27 K, x_pm27 K, x_cd27 K, x_ct27 K, x_oc28 K, x_kV28 K, x_dc28 K, x_pm28 K, x_cd28 K, x_ct28 K], [x_oc30 K, x_kV30 K, x_dc30 K, x_pm30 K, x_cd30 K, x_ct30 K, x_oc31 K, x_kV31 K, x_dc31 K, x_pm31 K, x_cd31 K, x_ct31 K], [x_oc32 K, x_kV32 K, x_dc32 K, x_pm32 K, x_cd32 K, x_ct32 K, x_oc45 K, x_kV45 K, x_dc45 K, x_pm45 K, x_cd45 K, x_ct45 K], [x_oc46 K, x_kV46 K, x_dc46 K, x_pm46 K, x_cd46 K, x_ct46 K, x_oc207 K, x_kV207 K, x_dc207 K, x_pm207 K, x_cd207 K, x_ct207 K], [x_oc48 K, x_kV48 K, x_dc48 K, x_pm48 K, x_cd48 K, x_ct48 K, x_oc50 K, x_kV50 K, x_dc50 K, x_pm50 K, x_cd50 K, x_ct50 K], [x_oc52 K, x_kV52 K, x_dc52 K, x_pm52 K, x_cd52 K, x_ct52 K, x_oc54 K, x_kV54 K, x_dc54 K, x_pm54 K, x_cd54 K, x_ct54 K], [x_oc55 K, x_kV55 K, x_dc55 K, x_pm55 K, x_cd55 K, x_ct55 K, x_oc208 K, x_kV208 K, x_dc208 K, x_pm208 K, x_cd208 K, x_ct208 K]] .none, tk := pickP [[x_gt0 K, x_gt1 K]] 0, ov := pickP [] none, rs := pickP [[x_prs28 K]] [], av := pickP [] #[], sv := pickP [] (Sx []) }
theorem hk0 {w : World} {K : PySem.W.Frag} {hp : Heap} {mg : Str → Option Value} {base : Heap} (h : chk0 K = true) (e : fnsK K = fnsV) : Hy0 (mkP w K hp mg base) := by
  obtain ⟨h_aC2, h⟩ := He.ba h
  obtain ⟨h_pg2, h⟩ := He.ba h
  obtain ⟨h_hd2, h⟩ := He.ba h
  obtain ⟨h_po2, h⟩ := He.ba h
  obtain ⟨h_sa2, h⟩ := He.ba h
  obtain ⟨h_mk2, h⟩ := He.ba h
  obtain ⟨h_kc2, h⟩ := He.ba h
  obtain ⟨h_ha2, h⟩ := He.ba h
  obtain ⟨h_hm2, h⟩ := He.ba h
  obtain ⟨h_nf2_3, h⟩ := He.ba h
  obtain ⟨h_nf2_4, h⟩ := He.ba h
  obtain ⟨h_nf2_5, h⟩ := He.ba h
  exact ⟨of_decide_eq_true h_aC2, of_decide_eq_true h_pg2, of_decide_eq_true h_hd2, of_decide_eq_true h_po2, of_decide_eq_true h_sa2, of_decide_eq_true h_mk2, of_decide_eq_true h_kc2, of_decide_eq_true h_ha2, of_decide_eq_true h_hm2, of_decide_eq_true h_nf2_3, of_decide_eq_true h_nf2_4, of_decide_eq_true h_nf2_5⟩
theorem hk1 {w : World} {K : PySem.W.Frag} {hp : Heap} {mg : Str → Option Value} {base : Heap} (h : chk1 K = true) (e : fnsK K = fnsV) : Hy1 (mkP w K hp mg base) := by
  obtain ⟨h_nf2_6, h⟩ := He.ba h
  obtain ⟨h_nf2_7, h⟩ := He.ba h
  obtain ⟨h_nf2_8, h⟩ := He.ba h
  obtain ⟨h_hnC, h⟩ := He.ba h
  obtain ⟨h_htkC, h⟩ := He.ba h
  obtain ⟨h_aX4, h⟩ := He.ba h
  obtain ⟨h_exX4, h⟩ := He.ba h
  obtain ⟨h_kpX4, h⟩ := He.ba h
  obtain ⟨h_sbX4, h⟩ := He.ba h
  obtain ⟨h_tyX4, h⟩ := He.ba h
  obtain ⟨h_hgX4, h⟩ := He.ba h
  obtain ⟨h_hkX4, h⟩ := He.ba h
  exact ⟨of_decide_eq_true h_nf2_6, of_decide_eq_true h_nf2_7, of_decide_eq_true h_nf2_8, of_decide_eq_true h_hnC, of_decide_eq_true h_htkC, of_decide_eq_true h_aX4, of_decide_eq_true h_exX4, of_decide_eq_true h_kpX4, of_decide_eq_true h_sbX4, of_decide_eq_true h_tyX4, of_decide_eq_true h_hgX4, of_decide_eq_true h_hkX4⟩
theorem hk2 {w : World} {K : PySem.W.Frag} {hp : Heap} {mg : Str → Option Value} {base : Heap} (h : chk2 K = true) (e : fnsK K = fnsV) : Hy2 (mkP w K hp mg base) := by
  obtain ⟨h_hdX4, h⟩ := He.ba h
  obtain ⟨h_haX4, h⟩ := He.ba h
  obtain ⟨h_hmX4, h⟩ := He.ba h
  obtain ⟨h_su0, h⟩ := He.ba h
  obtain ⟨h_su1, h⟩ := He.ba h
  obtain ⟨h_su2, h⟩ := He.ba h
  obtain ⟨h_su3, h⟩ := He.ba h
  obtain ⟨h_z0, h⟩ := He.ba h
  obtain ⟨h_z1, h⟩ := He.ba h
  obtain ⟨h_z2, h⟩ := He.ba h
  obtain ⟨h_z3, h⟩ := He.ba h
  obtain ⟨h_z4, h⟩ := He.ba h
  exact ⟨of_decide_eq_true h_hdX4, of_decide_eq_true h_haX4, of_decide_eq_true h_hmX4, of_decide_eq_true h_su0, of_decide_eq_true h_su1, of_decide_eq_true h_su2, of_decide_eq_true h_su3, of_decide_eq_true h_z0, of_decide_eq_true h_z1, of_decide_eq_true h_z2, of_decide_eq_true h_z3, of_decide_eq_true h_z4⟩
theorem hk3 {w : World} {K : PySem.W.Frag} {hp : Heap} {mg : Str → Option Value} {base : Heap} (h : chk3 K = true) (e : fnsK K = fnsV) : Hy3 (mkP w K hp mg base) := by
  obtain ⟨h_z5, h⟩ := He.ba h
  obtain ⟨h_z6, h⟩ := He.ba h
  obtain ⟨h_z7, h⟩ := He.ba h
  obtain ⟨h_z8, h⟩ := He.ba h
  obtain ⟨h_z9, h⟩ := He.ba h
  obtain ⟨h_z10, h⟩ := He.ba h
  obtain ⟨h_z11, h⟩ := He.ba h
  obtain ⟨h_z12, h⟩ := He.ba h
  obtain ⟨h_z13, h⟩ := He.ba h
  obtain ⟨h_z14, h⟩ := He.ba h
  obtain ⟨h_z15, h⟩ := He.ba h
  obtain ⟨h_z16, h⟩ := He.ba h
  exact ⟨of_decide_eq_true h_z5, of_decide_eq_true h_z6, of_decide_eq_true h_z7, of_decide_eq_true h_z8, of_decide_eq_true h_z9, of_decide_eq_true h_z10, of_decide_eq_true h_z11, of_decide_eq_true h_z12, of_decide_eq_true h_z13, of_decide_eq_true h_z14, of_decide_eq_true h_z15, of_decide_eq_true h_z16⟩
theorem hk4 {w : World} {K : PySem.W.Frag} {hp : Heap} {mg : Str → Option Value} {base : Heap} (h : chk4 K = true) (e : fnsK K = fnsV) : Hy4 (mkP w K hp mg base) := by
  obtain ⟨h_gl0, h⟩ := He.ba h
  obtain ⟨h_gl1, h⟩ := He.ba h
  obtain ⟨h_a1, h⟩ := He.ba h
  obtain ⟨h_c1, h⟩ := He.ba h
  obtain ⟨h_k1, h⟩ := He.ba h
  obtain ⟨h_a18, h⟩ := He.ba h
  obtain ⟨h_c18, h⟩ := He.ba h
  obtain ⟨h_k18, h⟩ := He.ba h
  obtain ⟨h_a19, h⟩ := He.ba h
  exact ⟨of_decide_eq_true h_gl0, of_decide_eq_true h_gl1, of_decide_eq_true h_a1, fn_lk (fns_at e 0 rfl rfl), of_decide_eq_true h_c1, of_decide_eq_true h_k1, of_decide_eq_true h_a18, fn_lk (fns_at e 1 rfl rfl), of_decide_eq_true h_c18, of_decide_eq_true h_k18, of_decide_eq_true h_a19, fn_lk (fns_at e 2 rfl rfl)⟩
theorem hk5 {w : World} {K : PySem.W.Frag} {hp : Heap} {mg : Str → Option Value} {base : Heap} (h : chk5 K = true) (e : fnsK K = fnsV) : Hy5 (mkP w K hp mg base) := by
  obtain ⟨h_c19, h⟩ := He.ba h
  obtain ⟨h_k19, h⟩ := He.ba h
  obtain ⟨h_a20, h⟩ := He.ba h
  obtain ⟨h_c20, h⟩ := He.ba h
  obtain ⟨h_k20, h⟩ := He.ba h
  obtain ⟨h_a21, h⟩ := He.ba h
  obtain ⟨h_c21, h⟩ := He.ba h
  obtain ⟨h_k21, h⟩ := He.ba h
  obtain ⟨h_a22, h⟩ := He.ba h
  exact ⟨of_decide_eq_true h_c19, of_decide_eq_true h_k19, of_decide_eq_true h_a20, fn_lk (fns_at e 3 rfl rfl), of_decide_eq_true h_c20, of_decide_eq_true h_k20, of_decide_eq_true h_a21, fn_lk (fns_at e 4 rfl rfl), of_decide_eq_true h_c21, of_decide_eq_true h_k21, of_decide_eq_true h_a22, fn_lk (fns_at e 5 rfl rfl)⟩
theorem hk6 {w : World} {K : PySem.W.Frag} {hp : Heap} {mg : Str → Option Value} {base : Heap} (h : chk6 K = true) (e : fnsK K = fnsV) : Hy6 (mkP w K hp mg base) := by
  obtain ⟨h_c22, h⟩ := He.ba h
  obtain ⟨h_k22, h⟩ := He.ba h
  obtain ⟨h_a44, h⟩ := He.ba h
  obtain ⟨h_c44, h⟩ := He.ba h
  obtain ⟨h_k44, h⟩ := He.ba h
  obtain ⟨h_a23, h⟩ := He.ba h
  obtain ⟨h_c23, h⟩ := He.ba h
  obtain ⟨h_k23, h⟩ := He.ba h
  obtain ⟨h_a24, h⟩ := He.ba h
  exact ⟨of_decide_eq_true h_c22, of_decide_eq_true h_k22, of_decide_eq_true h_a44, fn_lk (fns_at e 6 rfl rfl), of_decide_eq_true h_c44, of_decide_eq_true h_k44, of_decide_eq_true h_a23, fn_lk (fns_at e 7 rfl rfl), of_decide_eq_true h_c23, of_decide_eq_true h_k23, of_decide_eq_true h_a24, fn_lk (fns_at e 8 rfl rfl)⟩
theorem hk7 {w : World} {K : PySem.W.Frag} {hp : Heap} {mg : Str → Option Value} {base : Heap} (h : chk7 K = true) (e : fnsK K = fnsV) : Hy7 (mkP w K hp mg base) := by
  obtain ⟨h_c24, h⟩ := He.ba h
  obtain ⟨h_k24, h⟩ := He.ba h
  obtain ⟨h_a25, h⟩ := He.ba h
  obtain ⟨h_c25, h⟩ := He.ba h
  obtain ⟨h_k25, h⟩ := He.ba h
  obtain ⟨h_a3, h⟩ := He.ba h
  obtain ⟨h_c3, h⟩ := He.ba h
  obtain ⟨h_k3, h⟩ := He.ba h
  obtain ⟨h_a26, h⟩ := He.ba h
  exact ⟨of_decide_eq_true h_c24, of_decide_eq_true h_k24, of_decide_eq_true h_a25, fn_lk (fns_at e 9 rfl rfl), of_decide_eq_true h_c25, of_decide_eq_true h_k25, of_decide_eq_true h_a3, fn_lk (fns_at e 10 rfl rfl), of_decide_eq_true h_c3, of_decide_eq_true h_k3, of_decide_eq_true h_a26, fn_lk (fns_at e 11 rfl rfl)⟩
theorem hk8 {w : World} {K : PySem.W.Frag} {hp : Heap} {mg : Str → Option Value} {base : Heap} (h : chk8 K = true) (e : fnsK K = fnsV) : Hy8 (mkP w K hp mg base) := by
  obtain ⟨h_c26, h⟩ := He.ba h
  obtain ⟨h_k26, h⟩ := He.ba h
  obtain ⟨h_a27, h⟩ := He.ba h
  obtain ⟨h_c27, h⟩ := He.ba h
  obtain ⟨h_k27, h⟩ := He.ba h
  obtain ⟨h_pa28_2, h⟩ := He.ba h
  obtain ⟨h_pg28, h⟩ := He.ba h
  obtain ⟨h_pt28, h⟩ := He.ba h
  obtain ⟨h_pr28, h⟩ := He.ba h
  obtain ⟨h_c28, h⟩ := He.ba h
  exact ⟨of_decide_eq_true h_c26, of_decide_eq_true h_k26, of_decide_eq_true h_a27, fn_lk (fns_at e 12 rfl rfl), of_decide_eq_true h_c27, of_decide_eq_true h_k27, of_decide_eq_true h_pa28_2, of_decide_eq_true h_pg28, of_decide_eq_true h_pt28, of_decide_eq_true h_pr28, fn_lk (fns_at e 13 rfl rfl), of_decide_eq_true h_c28⟩
theorem hk9 {w : World} {K : PySem.W.Frag} {hp : Heap} {mg : Str → Option Value} {base : Heap} (h : chk9 K = true) (e : fnsK K = fnsV) : Hy9 (mkP w K hp mg base) := by
  obtain ⟨h_k28, h⟩ := He.ba h
  obtain ⟨h_a30, h⟩ := He.ba h
  obtain ⟨h_c30, h⟩ := He.ba h
  obtain ⟨h_k30, h⟩ := He.ba h
  obtain ⟨h_a31, h⟩ := He.ba h
  obtain ⟨h_c31, h⟩ := He.ba h
  obtain ⟨h_k31, h⟩ := He.ba h
  obtain ⟨h_a32, h⟩ := He.ba h
  obtain ⟨h_i32, h⟩ := He.ba h
  exact ⟨of_decide_eq_true h_k28, of_decide_eq_true h_a30, fn_lk (fns_at e 14 rfl rfl), of_decide_eq_true h_c30, of_decide_eq_true h_k30, of_decide_eq_true h_a31, fn_lk (fns_at e 15 rfl rfl), of_decide_eq_true h_c31, of_decide_eq_true h_k31, of_decide_eq_true h_a32, of_decide_eq_true h_i32, fn_lk (fns_at e 16 rfl rfl)⟩
theorem hk10 {w : World} {K : PySem.W.Frag} {hp : Heap} {mg : Str → Option Value} {base : Heap} (h : chk10 K = true) (e : fnsK K = fnsV) : Hy10 (mkP w K hp mg base) := by
  obtain ⟨h_c32, h⟩ := He.ba h
  obtain ⟨h_k32, h⟩ := He.ba h
  obtain ⟨h_a45, h⟩ := He.ba h
  obtain ⟨h_c45, h⟩ := He.ba h
  obtain ⟨h_k45, h⟩ := He.ba h
  obtain ⟨h_a46, h⟩ := He.ba h
  obtain ⟨h_c46, h⟩ := He.ba h
  obtain ⟨h_k46, h⟩ := He.ba h
  obtain ⟨h_a207, h⟩ := He.ba h
  exact ⟨of_decide_eq_true h_c32, of_decide_eq_true h_k32, of_decide_eq_true h_a45, fn_lk (fns_at e 17 rfl rfl), of_decide_eq_true h_c45, of_decide_eq_true h_k45, of_decide_eq_true h_a46, fn_lk (fns_at e 18 rfl rfl), of_decide_eq_true h_c46, of_decide_eq_true h_k46, of_decide_eq_true h_a207, fn_lk (fns_at e 19 rfl rfl)⟩
theorem hk11 {w : World} {K : PySem.W.Frag} {hp : Heap} {mg : Str → Option Value} {base : Heap} (h : chk11 K = true) (e : fnsK K = fnsV) : Hy11 (mkP w K hp mg base) := by
  obtain ⟨h_c207, h⟩ := He.ba h
  obtain ⟨h_k207, h⟩ := He.ba h
  obtain ⟨h_a48, h⟩ := He.ba h
  obtain ⟨h_i48, h⟩ := He.ba h
  obtain ⟨h_ma48_2, h⟩ := He.ba h
  obtain ⟨h_c48, h⟩ := He.ba h
  obtain ⟨h_k48, h⟩ := He.ba h
  obtain ⟨h_a50, h⟩ := He.ba h
  obtain ⟨h_i50, h⟩ := He.ba h
  obtain ⟨h_ma50_2, h⟩ := He.ba h
  exact ⟨of_decide_eq_true h_c207, of_decide_eq_true h_k207, of_decide_eq_true h_a48, of_decide_eq_true h_i48, of_decide_eq_true h_ma48_2, fn_lk (fns_at e 20 rfl rfl), of_decide_eq_true h_c48, of_decide_eq_true h_k48, of_decide_eq_true h_a50, of_decide_eq_true h_i50, of_decide_eq_true h_ma50_2, fn_lk (fns_at e 21 rfl rfl)⟩
theorem hk12 {w : World} {K : PySem.W.Frag} {hp : Heap} {mg : Str → Option Value} {base : Heap} (h : chk12 K = true) (e : fnsK K = fnsV) : Hy12 (mkP w K hp mg base) := by
  obtain ⟨h_c50, h⟩ := He.ba h
  obtain ⟨h_k50, h⟩ := He.ba h
  obtain ⟨h_a52, h⟩ := He.ba h
  obtain ⟨h_i52, h⟩ := He.ba h
  obtain ⟨h_ma52_2, h⟩ := He.ba h
  obtain ⟨h_c52, h⟩ := He.ba h
  obtain ⟨h_k52, h⟩ := He.ba h
  obtain ⟨h_a54, h⟩ := He.ba h
  obtain ⟨h_c54, h⟩ := He.ba h
  obtain ⟨h_k54, h⟩ := He.ba h
  exact ⟨of_decide_eq_true h_c50, of_decide_eq_true h_k50, of_decide_eq_true h_a52, of_decide_eq_true h_i52, of_decide_eq_true h_ma52_2, fn_lk (fns_at e 22 rfl rfl), of_decide_eq_true h_c52, of_decide_eq_true h_k52, of_decide_eq_true h_a54, fn_lk (fns_at e 23 rfl rfl), of_decide_eq_true h_c54, of_decide_eq_true h_k54⟩
theorem hk13 {w : World} {K : PySem.W.Frag} {hp : Heap} {mg : Str → Option Value} {base : Heap} (h : chk13 K = true) (e : fnsK K = fnsV) : Hy13 (mkP w K hp mg base) := by
  obtain ⟨h_a55, h⟩ := He.ba h
  obtain ⟨h_c55, h⟩ := He.ba h
  obtain ⟨h_k55, h⟩ := He.ba h
  obtain ⟨h_a208, h⟩ := He.ba h
  obtain ⟨h_c208, h⟩ := He.ba h
  obtain ⟨h_k208, h⟩ := He.ba h
  exact ⟨of_decide_eq_true h_a55, fn_lk (fns_at e 24 rfl rfl), of_decide_eq_true h_c55, of_decide_eq_true h_k55, of_decide_eq_true h_a208, fn_lk (fns_at e 25 rfl rfl), of_decide_eq_true h_c208, of_decide_eq_true h_k208⟩
theorem hy_of {w : World} {K : PySem.W.Frag} {hp : Heap} {mg : Str → Option Value} {base : Heap} (X : K.In hp) (G : hp.Ns mainGlobals mg) (h : chkK K = true) (e : fnsK K = fnsV) : Hy (mkP w K hp mg base) := by
  obtain ⟨h0, h⟩ := He.ba h
  obtain ⟨h1, h⟩ := He.ba h
  obtain ⟨h2, h⟩ := He.ba h
  obtain ⟨h3, h⟩ := He.ba h
  obtain ⟨h4, h⟩ := He.ba h
  obtain ⟨h5, h⟩ := He.ba h
  obtain ⟨h6, h⟩ := He.ba h
  obtain ⟨h7, h⟩ := He.ba h
  obtain ⟨h8, h⟩ := He.ba h
  obtain ⟨h9, h⟩ := He.ba h
  obtain ⟨h10, h⟩ := He.ba h
  obtain ⟨h11, h⟩ := He.ba h
  obtain ⟨h12, h⟩ := He.ba h
  obtain ⟨h13, h⟩ := He.ba h
  exact ⟨X, G, hk0 h0 e, hk1 h1 e, hk2 h2 e, hk3 h3 e, hk4 h4 e, hk5 h5 e, hk6 h6 e, hk7 h7 e, hk8 h8 e, hk9 h9 e, hk10 h10 e, hk11 h11 e, hk12 h12 e, hk13 h13 e⟩
theorem law_fn {w : World} {K : PySem.W.Frag} {h : Heap} {mg : Str → Option Value} {fa : Addr} (X : K.In h) (G : h.Ns mainGlobals mg) (hfa : mg "law" = some (.ref fa)) (c1 : chkK K = true) (c2 : fnsK K = fnsV) :
    ∃ (K : PySem.W.Frag) (fd : FuncData), K.In h ∧ (∀ (s : Shared) (u : Value), BindsTo s fd ⟨[u], []⟩ [("_law_script", u)]) ∧ ∀ base : Heap, K.In base → base.Ns mainGlobals mg → FnOk PySem.Challenge.rw_piecefinds_k10_after_signs.prog w K mg base (L2.CX PySem.Challenge.rw_piecefinds_k10_after_signs.prog w) 6 fa fd ["_law_script"] (spLaw K) := by
  have hy := fun base : Heap => hy_of (w := w) (base := base) X G c1 c2
  have a0 : PySem.W.nsIn K mainGlobals "law" = some (some (.ref (x_f208 K))) := (hy h).g13.a208
  have e := hfa.symm.trans (PySem.W.mg_of X G a0)
  have e : fa = x_f208 K := by injection e with e; injection e
  subst e
  exact ⟨K, fd208 (mkP w K h mg h), X, fun s v => .of_eq rfl, fun base _ _ => law_of (q_G208 (hy base)) law_true⟩
end G
open PySem PySem.W PySem.Calls PyProof.Rows
set_option maxRecDepth 100000 in
set_option maxHeartbeats 0 in
theorem PySem.Challenge.cw_piecefinds_k10_after_signs_holds : PySem.Challenge.rw_piecefinds_k10_after_signs.Holds := by
  w_on; o_law
  refine HandSHeadRun.head_any (r := OpenLaw.row PySem.Challenge.rw_piecefinds_k10_after_signs) (q := G.hQ) (H := G.hK) (ob := G.hO) (M := 30000) (loose := G.hN) (d := HandSHeadRun.topDef (OpenLaw.row PySem.Challenge.rw_piecefinds_k10_after_signs).prog 37) (kwd := []) G.hO_eq
    (by kernel_rfl) (fun s => by kernel_rfl) G.hRun (by kernel_rfl) (by kernel_rfl) (by kernel_rfl) (by rfl) (by first | assumption | decide +kernel) (by decide +kernel) ⟨rfl, rfl, rfl, rfl, rfl, by decide +kernel⟩ ?hw ?hc
  case hw => w_witness2
  case hc =>
    refine G.walk_endE (l := PySem.Challenge.rw_piecefinds_k10_after_signs) (k := 6) (x := "_law_script") rfl (by kernel_rfl) ⟨rfl, by decide, by decide⟩ ?F
    intro w mg fa h Y Gh hmg0
    obtain ⟨K, KX, c⟩ := Y
    have c1 := congrArg Prod.fst c
    have c2 := congrArg Prod.snd c
    have hmg : mg ("law" : PySem.Str) = some (.ref fa) := by
      have e : (HandSHeadRun.topDef (OpenLaw.row PySem.Challenge.rw_piecefinds_k10_after_signs).prog 37).name = ("law" : PySem.Str) := by kernel_rfl
      rw [← e]
      exact hmg0
    exact G.law_fn KX Gh hmg c1 c2
