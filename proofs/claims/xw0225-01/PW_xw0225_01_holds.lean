import PyProof.Rows.All
import Wide.All
import OpenK.AllK
import Wide.FinOn
import Lean
import PySem.Challenge.RW_xw0225_01
open PySem PySem.W PyProof.Rows PySem.Calls PySem.Spec
set_option Elab.async false
set_option maxRecDepth 100000
set_option maxHeartbeats 8000000
set_option linter.unusedVariables false
set_option linter.unusedSimpArgs false
set_option compiler.extract_closed false
set_option genSizeOf false
namespace Mine
/-- erased values -/
inductive AV where
  | none
  | bool (b : Bool)
  | int (i : Int)
  | str (s : Str)
  | ref (a : Addr)
  | oth (v : Value)
def er : Value → AV
  | .none => .none
  | .bool b => .bool b
  | .int i _ => .int i
  | .str s _ => .str s
  | .ref a => .ref a
  | v => .oth v
theorem er_int {v : Value} {i : Int} (h : er v = .int i) : ∃ t, v = .int i t := by
  cases v <;> simp only [er] at h <;> first | cases h | skip
  exact ⟨_, rfl⟩
theorem er_str {v : Value} {i : Str} (h : er v = .str i) : ∃ t, v = .str i t := by
  cases v <;> simp only [er] at h <;> first | cases h | skip
  exact ⟨_, rfl⟩
theorem er_ref {v : Value} {a : Addr} (h : er v = .ref a) : v = .ref a := by
  cases v <;> simp only [er] at h <;> first | cases h | skip
  rfl
theorem er_bool {v : Value} {b : Bool} (h : er v = .bool b) : v = .bool b := by
  cases v <;> simp only [er] at h <;> first | cases h | skip
  rfl
theorem er_none {v : Value} (h : er v = .none) : v = .none := by
  cases v <;> simp only [er] at h <;> first | cases h | skip
  rfl

/-- abstract objects -/
inductive AO where
  | lst (xs : List AV)
  | ins (C : Addr) (fs : List (Str × AV))
  | cell (v : Option AV)
  | old (xs : List AV)
  | rng (a b : Int)
  | tup (xs : List AV)

structure St where
  m : Str → Option AV
  H : Addr → Option AO

def St.set (σ : St) (x : Str) (v : AV) : St := { σ with m := fun y => if y = x then some v else σ.m y }
def hset (H : Addr → Option AO) (a : Addr) (o : AO) : Addr → Option AO := fun b => if b = a then some o else H b
def St.put (σ : St) (a : Addr) (o : AO) : St := { σ with H := hset σ.H a o }
@[simp] theorem hset_self {H : Addr → Option AO} {a : Addr} {o : AO} : hset H a o a = some o := if_pos rfl
theorem hset_ne {H : Addr → Option AO} {a b : Addr} {o : AO} (h : b ≠ a) : hset H a o b = H b := if_neg h

def RepD (es : List DictEntry) (fs : List (Str × AV)) : Prop := es.map (fun e => (er e.key, er e.val)) = fs.map (fun p => (AV.str p.1, p.2))

/-- an abstract object as the ledger bears it; `d` is where a class object's fields lie -/
def RepO (bs : Heap) (news : List (Addr × Obj)) (a d : Addr) : AO → Prop
  | .lst xs => ∃ its n, (a, listOf its n) ∈ news ∧ its.toList.map er = xs
  | .ins C fs => ∃ es n, (a, instObj C d) ∈ news ∧ (d, dictOf es n) ∈ news ∧ RepD es fs
  | .cell v => ∃ o u, (a, o) ∈ news ∧ o.data = .cell u ∧ u.map er = v
  | .old xs => ∃ vs : List Value, bs.IsList a vs.toArray ∧ vs.map er = xs
  | .rng x y => ∃ t u v, (a, ({ cls := .type "range", dict := none, data := .fields #[.int x t, .int y u, .int 1 v], slots := #[] } : Obj)) ∈ news
  | .tup xs => ∃ its n, (a, ({ cls := .type "tuple", data := .seq its n } : Obj)) ∈ news ∧ its.toList.map er = xs

structure Wd where
  prog : Program
  w : World
  K : Frag
  p : Program
  loose : List Str
  mean : ExcName → Option Value
  mg : Str → Option Value
  mb : Str → Option Value

structure Fx where
  dp : Nat
  un : Nat
  gd : Option (List Code)
  cn : Str
  cs : Scope
  L : Addr
  a : Addr
  ccd : Value
  cl : List (Str × Addr)
  outer : List Env
  A₀ : Around
  base : Heap
  h₀ : Heap
  fix : List (Addr × Obj)
abbrev Fx.env (φ : Fx) : Env := envX φ.cn φ.cs φ.L φ.a φ.ccd φ.cl
def Fx.A (φ : Fx) : Around := ktrTop φ.dp φ.un φ.gd φ.cn φ.cs φ.L φ.a φ.ccd φ.cl φ.outer
structure Fx.Ok (W : Wd) (φ : Fx) : Prop where
  B : Below φ.A₀ φ.base φ.outer φ.h₀
  X : W.K.In φ.h₀
  T : Top W.p W.loose W.mean W.mg W.mb φ.h₀
  k : φ.cs.kind = .function

structure RelW (φ : Fx) (R : List (Addr × Obj)) (σ : St) (h : Heap) (m : Str → Option Value) (news : List (Addr × Obj)) (D : Addr → Addr) : Prop where
  B : φ.base.StaysIn φ.h₀
  F : Fr φ.h₀ φ.L h m
  N : News φ.h₀ φ.L h news
  V : ∀ x v, σ.m x = some v → ∃ u, m x = some u ∧ er u = v
  O : ∀ a o, σ.H a = some o → RepO φ.base news a (D a) o
  I : ∀ a C fs, σ.H a = some (.ins C fs) → σ.H (D a) = none ∧ (∀ p ∈ R, p.1 ≠ D a) ∧ ∀ b C' fs', σ.H b = some (.ins C' fs') → D b = D a → b = a
  S : ∀ p ∈ R, p ∈ news ∧ σ.H p.1 = none
  Y : ∀ p ∈ φ.fix, p ∈ R
def Rel (φ : Fx) (R : List (Addr × Obj)) (σ : St) (h : Heap) : Prop := ∃ m news D, RelW φ R σ h m news D
theorem Rel.it {φ : Fx} {R : List (Addr × Obj)} {σ : St} {h : Heap} (x : Rel φ R σ h) : Rel φ R σ h := x

section
variable {φ : Fx} {R : List (Addr × Obj)} {σ : St} {h h' : Heap} {m m' : Str → Option Value} {news news' : List (Addr × Obj)} {D : Addr → Addr}

theorem RepO.mono {h₀ : Heap} {a d : Addr} {o : AO} (x : RepO h₀ news a d o) (hs : ∀ p ∈ news, p.1 = a ∨ p.1 = d → p ∈ news') : RepO h₀ news' a d o := by
  cases o with
  | lst xs => obtain ⟨its, n, h1, h2⟩ := x; exact ⟨its, n, hs _ h1 (.inl rfl), h2⟩
  | ins C fs => obtain ⟨es, n, h1, h2, h3⟩ := x; exact ⟨es, n, hs _ h1 (.inl rfl), hs _ h2 (.inr rfl), h3⟩
  | cell v => obtain ⟨o, u, h1, h2⟩ := x; exact ⟨o, u, hs _ h1 (.inl rfl), h2⟩
  | old xs => exact x
  | rng a b => obtain ⟨t, u, v, h1⟩ := x; exact ⟨t, u, v, hs _ h1 (.inl rfl)⟩
  | tup xs => obtain ⟨its, n, h1, h2⟩ := x; exact ⟨its, n, hs _ h1 (.inl rfl), h2⟩

/-- the address of an abstract object holds something -/
theorem RelW.alive (X : RelW φ R σ h m news D) {a : Addr} {o : AO} (e : σ.H a = some o) : ∃ ob, h.get? a = some ob := by
  have := X.O a o e
  cases o with
  | lst xs => obtain ⟨its, n, h1, _⟩ := this; exact ⟨_, (X.N _ h1).1⟩
  | ins C fs => obtain ⟨es, n, h1, _⟩ := this; exact ⟨_, (X.N _ h1).1⟩
  | cell v => obtain ⟨o, u, h1, _⟩ := this; exact ⟨_, (X.N _ h1).1⟩
  | old xs =>
    obtain ⟨vs, ⟨ob, h1, _⟩, _⟩ := this
    exact ⟨ob, X.F.keep _ _ (X.B _ _ h1)⟩
  | rng a b => obtain ⟨t, u, v, h1⟩ := this; exact ⟨_, (X.N _ h1).1⟩
  | tup xs => obtain ⟨its, n, h1, _⟩ := this; exact ⟨_, (X.N _ h1).1⟩
theorem RelW.alive2 (X : RelW φ R σ h m news D) {a C : Addr} {fs} (e : σ.H a = some (.ins C fs)) : ∃ ob, h.get? (D a) = some ob := by
  obtain ⟨es, n, h1, h2, _⟩ := X.O a _ e
  exact ⟨_, (X.N _ h2).1⟩
theorem RelW.new_none (X : RelW φ R σ h m news D) {a : Addr} (ha : h.get? a = none) : σ.H a = none := by
  cases e : σ.H a with
  | none => rfl
  | some o => obtain ⟨ob, h1⟩ := X.alive e; rw [ha] at h1; cases h1
theorem get_size_none (h : Heap) : h.get? h.objs.size = none := by
  cases e : h.get? h.objs.size with
  | none => rfl
  | some o => exact absurd (Heap.lt_size e) (Nat.lt_irrefl _)

theorem RelW.setLocal (X : RelW φ R σ h m news D) {x : Str} {u : Value} (F' : Fr φ.h₀ φ.L h' (fun y => if y = x then some u else m y)) (N' : News φ.h₀ φ.L h' news) : RelW φ R (σ.set x (er u)) h' (fun y => if y = x then some u else m y) news D where
  B := X.B
  Y := X.Y
  F := F'
  N := N'
  V := fun y v e => by
    simp only [St.set] at e
    by_cases hy : y = x
    · rw [if_pos hy] at e; cases e; exact ⟨u, if_pos hy, rfl⟩
    · rw [if_neg hy] at e; obtain ⟨u', h1, h2⟩ := X.V y v e; exact ⟨u', by simp only [if_neg hy]; exact h1, h2⟩
  O := X.O
  I := X.I
  S := X.S

/-- an address that nothing of the state bears -/
structure FreshA (φ : Fx) (news : List (Addr × Obj)) (a : Addr) : Prop where
  n : ∀ p ∈ news, p.1 ≠ a
  b : φ.base.get? a = none
theorem RelW.fresh (X : RelW φ R σ h m news D) {a : Addr} (ha : h.get? a = none) : FreshA φ news a where
  n := fun p hp e => by have := (X.N p hp).1; rw [e, ha] at this; cases this
  b := by
    cases e : φ.base.get? a with
    | none => rfl
    | some o => have := X.F.keep _ _ (X.B _ _ e); rw [ha] at this; cases this
theorem RelW.newH (X : RelW φ R σ h m news D) {a : Addr} (ha : FreshA φ news a) : σ.H a = none := by
  cases e : σ.H a with
  | none => rfl
  | some o =>
    exfalso
    have := X.O a o e
    cases o with
    | lst xs => obtain ⟨its, n, h1, _⟩ := this; exact ha.n _ h1 rfl
    | ins C fs => obtain ⟨es, n, h1, _⟩ := this; exact ha.n _ h1 rfl
    | cell v => obtain ⟨o, u, h1, _⟩ := this; exact ha.n _ h1 rfl
    | old xs =>
      obtain ⟨vs, ⟨ob, h1, _⟩, _⟩ := this
      rw [ha.b] at h1; cases h1
    | rng a b => obtain ⟨t, u, v, h1⟩ := this; exact ha.n _ h1 rfl
    | tup xs => obtain ⟨its, n, h1, _⟩ := this; exact ha.n _ h1 rfl
/-- a new plain object (of no class of the text) -/
theorem RelW.allocF (X : RelW φ R σ h m news D) {a : Addr} {ob : Obj} {o : AO} (ha : FreshA φ news a) (F' : Fr φ.h₀ φ.L h' m) (N' : News φ.h₀ φ.L h' ((a, ob) :: news))
    (ho : ∀ d, RepO φ.base ((a, ob) :: news) a d o) (hni : ∀ C fs, o ≠ .ins C fs) : RelW φ R (σ.put a o) h' m ((a, ob) :: news) D where
  B := X.B
  Y := X.Y
  F := F'
  N := N'
  V := X.V
  O := fun b o' e => by
    simp only [St.put, hset] at e
    by_cases hb : b = a
    · rw [if_pos hb] at e; cases e; subst hb; exact ho _
    · rw [if_neg hb] at e; exact (X.O b o' e).mono fun p hp _ => .tail _ hp
  I := fun b C fs e => by
    simp only [St.put, hset] at e ⊢
    by_cases hb : b = a
    · rw [if_pos hb] at e; cases e; exact absurd rfl (hni C fs)
    · rw [if_neg hb] at e
      obtain ⟨h1, h2, h3⟩ := X.I b C fs e
      refine ⟨?_, h2, fun c C' fs' ec ed => ?_⟩
      · rw [if_neg]
        · exact h1
        · intro e'
          obtain ⟨es, n, _, h4, _⟩ := X.O b _ e
          exact ha.n _ h4 e'
      · by_cases hc : c = a
        · rw [if_pos hc] at ec; cases ec; exact absurd rfl (hni C' fs')
        · rw [if_neg hc] at ec; exact h3 c C' fs' ec ed
  S := fun p hp => by
    obtain ⟨h1, h2⟩ := X.S p hp
    refine ⟨.tail _ h1, ?_⟩
    simp only [St.put, hset]
    rw [if_neg]
    · exact h2
    · exact ha.n _ h1
theorem RelW.alloc (X : RelW φ R σ h m news D) {a : Addr} {ob : Obj} {o : AO} (ha : h.get? a = none) (F' : Fr φ.h₀ φ.L h' m) (N' : News φ.h₀ φ.L h' ((a, ob) :: news))
    (ho : ∀ d, RepO φ.base ((a, ob) :: news) a d o) (hni : ∀ C fs, o ≠ .ins C fs) : RelW φ R (σ.put a o) h' m ((a, ob) :: news) D := X.allocF (X.fresh ha) F' N' ho hni

/-- a new object of a class: two entries -/
theorem RelW.allocInsF (X : RelW φ R σ h m news D) {x dx C : Addr} {es : List DictEntry} {n : Nat} {fs : List (Str × AV)} (hx : FreshA φ news x) (hd : FreshA φ news dx) (hne : dx ≠ x) (F' : Fr φ.h₀ φ.L h' m)
    (N' : News φ.h₀ φ.L h' ((x, instObj C dx) :: (dx, dictOf es n) :: news)) (hes : RepD es fs) :
    RelW φ R (σ.put x (.ins C fs)) h' m ((x, instObj C dx) :: (dx, dictOf es n) :: news) (fun b => if b = x then dx else D b) where
  B := X.B
  Y := X.Y
  F := F'
  N := N'
  V := X.V
  O := fun b o' e => by
    simp only [St.put, hset] at e
    by_cases hb : b = x
    · rw [if_pos hb] at e; cases e; subst hb; simp only [if_pos rfl]; exact ⟨es, n, .head _, .tail _ (.head _), hes⟩
    · rw [if_neg hb] at e; simp only [if_neg hb]; exact (X.O b o' e).mono fun p hp _ => .tail _ (.tail _ hp)
  I := fun b C' fs' e => by
    simp only [St.put, hset] at e ⊢
    by_cases hb : b = x
    · rw [if_pos hb]
      refine ⟨by rw [if_neg hne]; exact X.newH hd, fun p hp => hd.n _ (X.S p hp).1, fun c C2 fs2 ec ed => ?_⟩
      · by_cases hc : c = x
        · rw [hc, hb]
        · rw [if_neg hc] at ec ed
          obtain ⟨es, n, _, h4, _⟩ := X.O c _ ec
          exact absurd ed (hd.n _ h4)
    · rw [if_neg hb] at e ⊢
      obtain ⟨h1, h2, h3⟩ := X.I b C' fs' e
      obtain ⟨es, n, _, h4, _⟩ := X.O b _ e
      refine ⟨?_, h2, fun c C2 fs2 ec ed => ?_⟩
      · rw [if_neg]
        · exact h1
        · exact hx.n _ h4
      · by_cases hc : c = x
        · rw [if_pos hc] at ed; exact absurd ed.symm (hd.n _ h4)
        · rw [if_neg hc] at ec ed; exact h3 c C2 fs2 ec ed
  S := fun p hp => by
    obtain ⟨h1, h2⟩ := X.S p hp
    refine ⟨.tail _ (.tail _ h1), ?_⟩
    simp only [St.put, hset]
    rw [if_neg]
    · exact h2
    · exact hx.n _ h1

/-- the ledger with one entry drawn to the front -/
def front (d : Addr) (o : Obj) (news : List (Addr × Obj)) : List (Addr × Obj) := (d, o) :: news.filter (fun p => decide (p.1 ≠ d))
theorem front_news {h₀ : Heap} {L d : Addr} {o : Obj} (N : News h₀ L h news) (hm : (d, o) ∈ news) : News h₀ L h (front d o news) := fun p hp => by
  rcases List.mem_cons.mp hp with rfl | hp
  · exact N _ hm
  · exact N _ (List.mem_filter.mp hp).1
theorem front_upd {d : Addr} {o o' : Obj} : Upd d o o' (front d o news) (front d o' news) := .head fun p hp => by simpa using (List.mem_filter.mp hp).2
theorem front_mem {d : Addr} {o : Obj} {p : Addr × Obj} (hp : p ∈ news) (hne : p.1 ≠ d) : p ∈ front d o news := .tail _ (List.mem_filter.mpr ⟨hp, by simpa using hne⟩)

/-- an abstract object turned in its place; of no class of the text -/
theorem RelW.turn (X : RelW φ R σ h m news D) {d : Addr} {ob : Obj} {o o' : AO} (e : σ.H d = some o) (hni : ∀ C fs, o ≠ .ins C fs) (hni' : ∀ C fs, o' ≠ .ins C fs) (F' : Fr φ.h₀ φ.L h' m) (N' : News φ.h₀ φ.L h' (front d ob news))
    (ho : ∀ d', RepO φ.base (front d ob news) d d' o') : RelW φ R (σ.put d o') h' m (front d ob news) D where
  B := X.B
  Y := X.Y
  F := F'
  N := N'
  V := X.V
  O := fun b o2 eb => by
    simp only [St.put, hset] at eb
    by_cases hb : b = d
    · rw [if_pos hb] at eb; cases eb; subst hb; exact ho _
    · rw [if_neg hb] at eb
      by_cases hi : ∃ C fs, o2 = .ins C fs
      · obtain ⟨C, fs, rfl⟩ := hi
        refine (X.O b _ eb).mono fun p hp hq => front_mem hp ?_
        rcases hq with hq | hq
        · rw [hq]; exact hb
        · rw [hq]; intro e'; have := (X.I b C fs eb).1; rw [e', e] at this; cases this
      · have key := X.O b _ eb
        cases o2 with
        | ins C fs => exact absurd ⟨C, fs, rfl⟩ hi
        | lst xs => obtain ⟨its, n, h1, h2⟩ := key; exact ⟨its, n, front_mem h1 hb, h2⟩
        | cell v => obtain ⟨o, u, h1, h2⟩ := key; exact ⟨o, u, front_mem h1 hb, h2⟩
        | old xs => exact key
        | rng a b => obtain ⟨t, u, v, h1⟩ := key; exact ⟨t, u, v, front_mem h1 hb⟩
        | tup xs => obtain ⟨its, n, h1, h2⟩ := key; exact ⟨its, n, front_mem h1 hb, h2⟩
  I := fun b C fs eb => by
    simp only [St.put, hset] at eb ⊢
    by_cases hb : b = d
    · rw [if_pos hb] at eb; cases eb; exact absurd rfl (hni' C fs)
    · rw [if_neg hb] at eb
      obtain ⟨h1, h2, h3⟩ := X.I b C fs eb
      refine ⟨?_, h2, fun c C' fs' ec ed => ?_⟩
      · rw [if_neg]
        · exact h1
        · intro e'; rw [e', e] at h1; cases h1
      · by_cases hc : c = d
        · rw [if_pos hc] at ec; cases ec; exact absurd rfl (hni' C' fs')
        · rw [if_neg hc] at ec; exact h3 c C' fs' ec ed
  S := fun p hp => by
    obtain ⟨h1, h2⟩ := X.S p hp
    have hne : p.1 ≠ d := fun e' => by rw [e', e] at h2; cases h2
    exact ⟨front_mem h1 hne, by simp only [St.put, hset]; rw [if_neg hne]; exact h2⟩

/-- a class object's fields turned -/
theorem RelW.turnIns (X : RelW φ R σ h m news D) {x C : Addr} {es' : List DictEntry} {n' : Nat} {fs fs' : List (Str × AV)} (e : σ.H x = some (.ins C fs)) (F' : Fr φ.h₀ φ.L h' m) (N' : News φ.h₀ φ.L h' (front (D x) (dictOf es' n') news))
    (hes : RepD es' fs') : RelW φ R (σ.put x (.ins C fs')) h' m (front (D x) (dictOf es' n') news) D where
  B := X.B
  Y := X.Y
  F := F'
  N := N'
  V := X.V
  O := fun b o2 eb => by
    have hxd : x ≠ D x := fun e' => by have := (X.I x C fs e).1; rw [← e', e] at this; cases this
    simp only [St.put, hset] at eb
    by_cases hb : b = x
    · rw [if_pos hb] at eb; cases eb; subst hb
      obtain ⟨es, n, h1, h2, _⟩ := X.O _ _ e
      exact ⟨es', n', front_mem h1 hxd, .head _, hes⟩
    · rw [if_neg hb] at eb
      have hbd : b ≠ D x := fun e' => by have := (X.I x C fs e).1; rw [← e', eb] at this; cases this
      have key := X.O b _ eb
      cases o2 with
      | ins C2 fs2 =>
        refine key.mono fun p hp hq => front_mem hp ?_
        rcases hq with hq | hq
        · rw [hq]; exact hbd
        · rw [hq]; intro e'; exact hb ((X.I x C fs e).2.2 b C2 fs2 eb e')
      | lst xs => obtain ⟨its, n, h1, h2⟩ := key; exact ⟨its, n, front_mem h1 hbd, h2⟩
      | cell v => obtain ⟨o, u, h1, h2⟩ := key; exact ⟨o, u, front_mem h1 hbd, h2⟩
      | old xs => exact key
      | rng a b => obtain ⟨t, u, v, h1⟩ := key; exact ⟨t, u, v, front_mem h1 hbd⟩
      | tup xs => obtain ⟨its, n, h1, h2⟩ := key; exact ⟨its, n, front_mem h1 hbd, h2⟩
  I := fun b C2 fs2 eb => by
    simp only [St.put, hset] at eb ⊢
    have hxd : x ≠ D x := fun e' => by have := (X.I x C fs e).1; rw [← e', e] at this; cases this
    have key : ∃ C3 fs3, σ.H b = some (.ins C3 fs3) := by
      by_cases hb : b = x
      · exact ⟨C, fs, hb ▸ e⟩
      · rw [if_neg hb] at eb; exact ⟨_, _, eb⟩
    obtain ⟨C3, fs3, hb3⟩ := key
    obtain ⟨h1, h2, h3⟩ := X.I b C3 fs3 hb3
    refine ⟨?_, h2, fun c C' fs' ec ed => ?_⟩
    · rw [if_neg]
      · exact h1
      · intro e'; rw [e', e] at h1; cases h1
    · by_cases hc : c = x
      · exact h3 c C fs (hc ▸ e) ed
      · rw [if_neg hc] at ec; exact h3 c C' fs' ec ed
  S := fun p hp => by
    obtain ⟨h1, h2⟩ := X.S p hp
    have hne : p.1 ≠ D x := (X.I x C fs e).2.1 p hp
    refine ⟨front_mem h1 hne, ?_⟩
    simp only [St.put, hset]
    rw [if_neg]
    · exact h2
    · intro e'; rw [e', e] at h2; cases h2
end

/-- triples -/
def Tr (W : Wd) (φ : Fx) {α : Type} (t : Sem α) (Q : α → St → Prop) (σ : St) : Prop :=
  ∀ R s, Rel φ R σ s.heap → wpAny (model W.prog W.w) φ.A t (fun a s' => ∃ σ' h tk, s' = { s with heap := h, toks := tk } ∧ Rel φ R σ' h ∧ Q a σ') (fun _ _ => False) s

theorem wpr {α : Type} {M : Model} {A : Around} {φ : Fx} {R : List (Addr × Obj)} {t : Sem α} {s : Shared} {Q : α → St → Prop} {Q' : α → Shared → Prop} {E : Value → Shared → Prop}
    (h : wpAny M A t (fun a s' => ∃ σ' h tk, s' = { s with heap := h, toks := tk } ∧ Rel φ R σ' h ∧ Q a σ') (fun _ _ => False) s)
    (k : ∀ a σ' h tk, Rel φ R σ' h → Q a σ' → Q' a { s with heap := h, toks := tk }) : wpAny M A t Q' E s :=
  wpAny_mono h (fun a s' x => by
    obtain ⟨σ', h', tk, e, r, q⟩ := x
    subst e
    exact k a σ' h' tk r q) fun _ _ x => x.elim
section
variable {W : Wd} {φ : Fx} {σ : St} {α β : Type}
theorem Tr.mono {t : Sem α} {Q Q' : α → St → Prop} (h : Tr W φ t Q σ) (hq : ∀ a σ', Q a σ' → Q' a σ') : Tr W φ t Q' σ := fun R s hR =>
  wpAny_mono (h R s hR) (fun a s' ⟨σ', hp, tk, e, r, q⟩ => ⟨σ', hp, tk, e, r, hq a σ' q⟩) fun _ _ x => x
theorem Tr.seq {t₁ : Sem α} {t₂ : α → Sem β} {t : Sem β} {Q : β → St → Prop}
    (rule : ∀ (s : Shared) (Q' : β → Shared → Prop) (E' : Value → Shared → Prop), wpAny (model W.prog W.w) φ.A t₁ (fun a s₁ => wpAny (model W.prog W.w) φ.A (t₂ a) Q' E' s₁) E' s → wpAny (model W.prog W.w) φ.A t Q' E' s)
    (h : Tr W φ t₁ (fun a σ₁ => Tr W φ (t₂ a) Q σ₁) σ) : Tr W φ t Q σ := fun R s hR =>
  rule _ _ _ (wpr (h R s hR) (fun a σ₁ h₁ tk₁ r₁ q₁ => by
    exact (q₁ R { s with heap := h₁, toks := tk₁ } r₁)))
theorem Tr.of {t₁ t : Sem α} {Q : α → St → Prop}
    (rule : ∀ (s : Shared) (Q' : α → Shared → Prop) (E' : Value → Shared → Prop), wpAny (model W.prog W.w) φ.A t₁ Q' E' s → wpAny (model W.prog W.w) φ.A t Q' E' s) (h : Tr W φ t₁ Q σ) : Tr W φ t Q σ := fun R s hR => rule _ _ _ (h R s hR)
theorem Tr.seq2 {γ : Type} {t₁ : Sem α} {t₂ : α → Sem β} {t₃ : α → β → Sem γ} {t : Sem γ} {Q : γ → St → Prop}
    (rule : ∀ (s : Shared) (Q' : γ → Shared → Prop) (E' : Value → Shared → Prop), wpAny (model W.prog W.w) φ.A t₁ (fun a s₁ => wpAny (model W.prog W.w) φ.A (t₂ a) (fun b s₂ => wpAny (model W.prog W.w) φ.A (t₃ a b) Q' E' s₂) E' s₁) E' s → wpAny (model W.prog W.w) φ.A t Q' E' s)
    (h : Tr W φ t₁ (fun a σ₁ => Tr W φ (t₂ a) (fun b σ₂ => Tr W φ (t₃ a b) Q σ₂) σ₁) σ) : Tr W φ t Q σ := fun R s hR =>
  rule _ _ _ (wpr (h R s hR) (fun a σ₁ h₁ tk₁ r₁ q₁ => by
    exact wpr (q₁ R _ r₁) (fun b σ₂ h₂ tk₂ r₂ q₂ => by
      exact (q₂ R { s with heap := h₂, toks := tk₂ } r₂))))
theorem Tr.seq3 {γ δ : Type} {t₁ : Sem α} {t₂ : α → Sem β} {t₃ : α → β → Sem γ} {t₄ : α → β → γ → Sem δ} {t : Sem δ} {Q : δ → St → Prop}
    (rule : ∀ (s : Shared) (Q' : δ → Shared → Prop) (E' : Value → Shared → Prop), wpAny (model W.prog W.w) φ.A t₁ (fun a s₁ => wpAny (model W.prog W.w) φ.A (t₂ a) (fun b s₂ => wpAny (model W.prog W.w) φ.A (t₃ a b)
      (fun c s₃ => wpAny (model W.prog W.w) φ.A (t₄ a b c) Q' E' s₃) E' s₂) E' s₁) E' s → wpAny (model W.prog W.w) φ.A t Q' E' s)
    (h : Tr W φ t₁ (fun a σ₁ => Tr W φ (t₂ a) (fun b σ₂ => Tr W φ (t₃ a b) (fun c σ₃ => Tr W φ (t₄ a b c) Q σ₃) σ₂) σ₁) σ) : Tr W φ t Q σ := fun R s hR =>
  rule _ _ _ (wpr (h R s hR) (fun a σ₁ h₁ tk₁ r₁ q₁ => by
    exact wpr (q₁ R _ r₁) (fun b σ₂ h₂ tk₂ r₂ q₂ => by
      exact wpr (q₂ R _ r₂) (fun c σ₃ h₃ tk₃ r₃ q₃ => by
        exact (q₃ R { s with heap := h₃, toks := tk₃ } r₃)))))
theorem Tr.pure {a : α} {Q : α → St → Prop} (h : Q a σ) : Tr W φ (pure a) Q σ := fun R s hR => wpAny_pure ⟨σ, s.heap, s.toks, rfl, hR, h⟩
end
section
variable {φ : Fx} {R : List (Addr × Obj)} {σ : St} {h h' : Heap} {m m' : Str → Option Value} {news news' : List (Addr × Obj)} {D : Addr → Addr}

theorem RelW.pushR (X : RelW φ R σ h m news D) (o : Obj) (hf : o.isFreed = false) : RelW φ ((h.objs.size, o) :: R) σ (h.push o) m ((h.objs.size, o) :: news) D where
  B := X.B
  Y := fun p hp => .tail _ (X.Y p hp)
  F := X.F.push o
  N := X.N.push X.F o hf
  V := X.V
  O := fun a o' e => (X.O a o' e).mono fun p hp _ => .tail _ hp
  I := fun a C fs e => by
    obtain ⟨h1, h2, h3⟩ := X.I a C fs e
    refine ⟨h1, fun p hp => ?_, h3⟩
    rcases List.mem_cons.mp hp with rfl | hp
    · intro e'; obtain ⟨ob, h4⟩ := X.alive2 e; rw [← e', get_size_none] at h4; cases h4
    · exact h2 p hp
  S := fun p hp => by
    rcases List.mem_cons.mp hp with rfl | hp
    · exact ⟨.head _, X.new_none (get_size_none h)⟩
    · exact ⟨.tail _ (X.S p hp).1, (X.S p hp).2⟩

/-- two entries of the frame list that stand apart -/
def Apart (φ : Fx) (R : List (Addr × Obj)) (I : Addr) : Prop := (∀ p ∈ R, p.1 ≠ I) ∧ ∀ p ∈ φ.fix, p ∈ R
/-- the entry I's object is turned or gone; all else stands -/
theorem RelW.but {I : Addr} {o : Obj} (X : RelW φ ((I, o) :: R) σ h m news D) (hk : ∀ b ob, b ≠ I → h.get? b = some ob → h'.get? b = some ob) (hR : Apart φ R I) :
    RelW φ R σ h' m (news.filter fun p => decide (p.1 ≠ I)) D := by
  have hI := X.S (I, o) (.head _)
  have hN := X.N _ hI.1
  have keep : ∀ p ∈ news, p.1 ≠ I → p ∈ news.filter fun p => decide (p.1 ≠ I) := fun p hp hne => List.mem_filter.mpr ⟨hp, by simpa using hne⟩
  exact {
    B := X.B
    Y := hR.2
    F := ⟨X.F.ns.at' fun ob e => hk _ ob (Ne.symm hN.2.1) e, fun b ob e => hk b ob (fun e' => by rw [e', hN.2.2] at e; cases e) (X.F.keep b ob e), X.F.above⟩
    N := fun p hp => by
      obtain ⟨h1, h2⟩ := List.mem_filter.mp hp
      exact ⟨hk _ _ (by simpa using h2) (X.N p h1).1, (X.N p h1).2⟩
    V := X.V
    O := fun a o' e => by
      have ha : a ≠ I := fun e' => by rw [e', hI.2] at e; cases e
      have key := X.O a o' e
      cases o' with
      | ins C fs =>
        refine key.mono fun p hp hq => keep p hp ?_
        rcases hq with hq | hq
        · rw [hq]; exact ha
        · rw [hq]; intro e'; exact (X.I a C fs e).2.1 (I, o) (.head _) e'.symm
      | lst xs => obtain ⟨its, n, h1, h2⟩ := key; exact ⟨its, n, keep _ h1 ha, h2⟩
      | cell v => obtain ⟨o, u, h1, h2⟩ := key; exact ⟨o, u, keep _ h1 ha, h2⟩
      | old xs => exact key
      | rng a b => obtain ⟨t, u, v, h1⟩ := key; exact ⟨t, u, v, keep _ h1 ha⟩
      | tup xs => obtain ⟨its, n, h1, h2⟩ := key; exact ⟨its, n, keep _ h1 ha, h2⟩
    I := fun a C fs e => by
      obtain ⟨h1, h2, h3⟩ := X.I a C fs e
      exact ⟨h1, fun p hp => h2 p (.tail _ hp), h3⟩
    S := fun p hp => ⟨keep p (X.S p (.tail _ hp)).1 (hR.1 p hp), (X.S p (.tail _ hp)).2⟩ }

theorem RelW.turnR {I : Addr} {o o' : Obj} (X : RelW φ ((I, o) :: R) σ h m news D) (hk : ∀ b ob, b ≠ I → h.get? b = some ob → h'.get? b = some ob) (ho : h'.get? I = some o') (hR : Apart φ R I) :
    RelW φ ((I, o') :: R) σ h' m (front I o' news) D := by
  have hI := X.S (I, o) (.head _)
  have hN := X.N _ hI.1
  have Y := X.but hk hR
  exact {
    B := X.B
    Y := fun p hp => .tail _ (hR.2 p hp)
    F := Y.F
    N := fun p hp => by
      rcases List.mem_cons.mp hp with rfl | hp
      · exact ⟨ho, hN.2⟩
      · exact Y.N p hp
    V := X.V
    O := fun a o' e => (Y.O a o' e).mono fun p hp _ => .tail _ hp
    I := fun a C fs e => by
      obtain ⟨h1, h2, h3⟩ := X.I a C fs e
      refine ⟨h1, fun p hp => ?_, h3⟩
      rcases List.mem_cons.mp hp with rfl | hp
      · exact h2 (I, o) (.head _)
      · exact h2 p (.tail _ hp)
    S := fun p hp => by
      rcases List.mem_cons.mp hp with rfl | hp
      · exact ⟨.head _, hI.2⟩
      · exact ⟨.tail _ (Y.S p hp).1, (Y.S p hp).2⟩ }

theorem apart_size (X : RelW φ R σ h m news D) : Apart φ R h.objs.size := by
  refine ⟨fun p hp e => ?_, X.Y⟩
  have := (X.N _ (X.S p hp).1).1
  rw [e, get_size_none] at this
  cases this

theorem Rel.list {a : Addr} {xs : List AV} (X : Rel φ R σ h) (e : σ.H a = some (.lst xs)) : ∃ vs : List Value, h.IsList a vs.toArray ∧ vs.map er = xs := by
  obtain ⟨m, news, D, X⟩ := X
  obtain ⟨its, n, h1, h2⟩ := X.O a _ e
  exact ⟨its.toList, ⟨_, (X.N _ h1).1, rfl, n, by simp⟩, h2⟩
end

section
variable {W : Wd} {φ : Fx} {σ : St}

structure Iter (W : Wd) (φ : Fx) (I : Addr) (xs : List AV) (need : St → Prop) (ob : Nat → Obj → Prop) : Prop where
  item : ∀ i x R σ (s : Shared) o, xs[i]? = some x → ob i o → need σ → Apart φ R I → Rel φ ((I, o) :: R) σ s.heap → ∀ (Q : Option Value → Shared → Prop) (E : Value → Shared → Prop),
    (∀ v o' h' tk, er v = x → ob (i + 1) o' → Rel φ ((I, o') :: R) σ h' → Q (some v) { s with heap := h', toks := tk }) → wpAny (model W.prog W.w) φ.A (pyNext (.ref I)) Q E s
  done : ∀ R σ (s : Shared) o, ob xs.length o → need σ → Apart φ R I → Rel φ ((I, o) :: R) σ s.heap → ∀ (Q : Option Value → Shared → Prop) (E : Value → Shared → Prop),
    (∀ h' tk, Rel φ R σ h' → Q none { s with heap := h', toks := tk }) → wpAny (model W.prog W.w) φ.A (pyNext (.ref I)) Q E s
  self : ∀ i R σ (s : Shared) o, ob i o → Rel φ ((I, o) :: R) σ s.heap → ∀ (Q : Value → Shared → Prop) (E : Value → Shared → Prop), Q (.ref I) s → wpAny (model W.prog W.w) φ.A (pyIter (.ref I)) Q E s

def Src (W : Wd) (φ : Fx) (v : Value) (xs : List AV) (need0 need : St → Prop) : Prop := ∀ R σ (s : Shared), need0 σ → Rel φ R σ s.heap → ∀ (Q : Value → Shared → Prop) (E : Value → Shared → Prop),
  (∀ I o ob h' tk, Iter W φ I xs need ob → ob 0 o → Apart φ R I → Rel φ ((I, o) :: R) σ h' → Q (.ref I) { s with heap := h', toks := tk }) → wpAny (model W.prog W.w) φ.A (pyIter v) Q E s

def listIt (I l : Addr) (i : Nat) (o : Obj) : Prop := o.cls = .type "list_iterator" ∧ o.data = .fields #[.ref l, .int i 0]

theorem Iter.list {I l : Addr} {xs : List AV} : Iter W φ I xs (fun σ => σ.H l = some (.lst xs)) (listIt I l) where
  item := fun i x R σ s o hx ho hn hA hR Q E hQ => by
    obtain ⟨vs, hl, hv⟩ := hR.list hn
    obtain ⟨m, news, D, X⟩ := id hR
    have hI := (X.N _ (X.S (I, o) (.head _)).1).1
    subst hv
    rw [List.getElem?_map] at hx
    cases e : vs[i]? with
    | none => rw [e] at hx; cases hx
    | some v =>
      rw [e] at hx
      refine wpAny_pyNext_list_item (it := I) (l := l) (i := i) (items := vs.toArray) (x := v) ⟨o, hI, ho.1, ho.2⟩ hl (by simpa using e) fun h' hit hs => ?_
      obtain ⟨o', h1, h2, h3⟩ := hit
      exact hQ v o' h' s.toks (Option.some.inj hx) ⟨h2, h3⟩ ⟨m, _, D, X.turnR (fun b ob hb e => (hs.2 b hb).trans e) h1 hA⟩
  done := fun R σ s o ho hn hA hR Q E hQ => by
    obtain ⟨vs, hl, hv⟩ := hR.list hn
    obtain ⟨m, news, D, X⟩ := id hR
    have hI := (X.N _ (X.S (I, o) (.head _)).1).1
    subst hv
    refine wpAny_pyNext_list_end (it := I) (l := l) (items := vs.toArray) rfl ⟨o, hI, ho.1, ho.2⟩ hl (by simp) fun h' hs => ?_
    exact hQ h' s.toks ⟨m, _, D, X.but (fun b ob hb e => hs b ob hb e) hA⟩
  self := fun i R σ s o ho hR Q E hQ => by
    obtain ⟨m, news, D, X⟩ := id hR
    exact wpAny_pyIter_listiter (it := I) (l := l) (i := i) ⟨o, (X.N _ (X.S (I, o) (.head _)).1).1, ho.1, ho.2⟩ hQ

theorem Src.list {l : Addr} {xs : List AV} : Src W φ (.ref l) xs (fun σ => σ.H l = some (.lst xs)) (fun σ => σ.H l = some (.lst xs)) := fun R σ s hn hR Q E hQ => by
  obtain ⟨vs, hl, hv⟩ := hR.list hn
  obtain ⟨m, news, D, X⟩ := id hR
  exact wpAny_pyIter_list hl (hQ _ _ (listIt _ l) _ s.toks Iter.list ⟨rfl, rfl⟩ (apart_size X) ⟨m, _, D, X.pushR _ rfl⟩)

def rngIt (a b : Int) (i : Nat) (o : Obj) : Prop := o = { cls := .type "range_iterator", dict := none, data := .fields #[rawInt (a + i), rawInt (Builtin.Range.rangeSize a b 1 - i), rawInt 1], slots := #[] }
def rngL (a b : Int) : List AV := (List.range (b - a).toNat).map fun i => AV.int (a + (i : Nat))

theorem Iter.rng {I : Addr} {a b : Int} : Iter W φ I (rngL a b) (fun _ => True) (rngIt a b) where
  item := fun i x R σ s o hx ho hn hA hR Q E hQ => by
    obtain ⟨m, news, D, X⟩ := id hR
    have hI := (X.N _ (X.S (I, o) (.head _)).1).1
    simp only [rngL, List.getElem?_map] at hx
    have hlt : i < (b - a).toNat := by
      refine Nat.lt_of_not_le fun hle => ?_
      rw [List.getElem?_eq_none (by simpa using hle)] at hx; cases hx
    rw [List.getElem?_range hlt] at hx
    obtain rfl := Option.some.inj hx
    subst ho
    have hsz := rangeSize_nat a b
    refine wpAny_pyNext_range_item (it := I) (x := a + i) (left := Builtin.Range.rangeSize a b 1 - i) (step := 1) hI (by rw [hsz]; omega) fun h' hit hs => ?_
    refine hQ _ _ h' _ rfl ?_ ⟨m, _, D, X.turnR (fun b ob hb e => (hs.2 b hb).trans e) hit hA⟩
    unfold rngIt
    have e1 : a + ((i + 1 : Nat) : Int) = a + i + 1 := by omega
    have e2 : Builtin.Range.rangeSize a b 1 - ((i + 1 : Nat) : Int) = Builtin.Range.rangeSize a b 1 - i - 1 := by omega
    rw [e1, e2]
  done := fun R σ s o ho hn hA hR Q E hQ => by
    obtain ⟨m, news, D, X⟩ := id hR
    have hI := (X.N _ (X.S (I, o) (.head _)).1).1
    have hlen : (rngL a b).length = (b - a).toNat := by simp [rngL]
    rw [hlen] at ho
    subst ho
    have hsz := rangeSize_nat a b
    refine wpAny_pyNext_range_end (it := I) (x := _) (left := Builtin.Range.rangeSize a b 1 - ((b - a).toNat : Nat)) (step := 1) rfl hI (by rw [hsz]; omega) fun h' hs => ?_
    exact hQ h' s.toks ⟨m, _, D, X.but (fun b ob hb e => hs b ob hb e) hA⟩
  self := fun i R σ s o ho hR Q E hQ => by
    obtain ⟨m, news, D, X⟩ := id hR
    have hI := (X.N _ (X.S (I, o) (.head _)).1).1
    subst ho
    exact wpAny_pyIter_rangeiter (it := I) hI hQ

theorem Src.rng {r : Addr} {a b : Int} (ha : -(2 ^ 62) ≤ a) (ha' : a < 2 ^ 62) (hb : -(2 ^ 62) ≤ b) (hb' : b < 2 ^ 62) : Src W φ (.ref r) (rngL a b) (fun σ => σ.H r = some (.rng a b)) (fun _ => True) := fun R σ s hn hR Q E hQ => by
  obtain ⟨m, news, D, X⟩ := id hR
  obtain ⟨t, u, v, hm⟩ := X.O r _ hn
  have hr := (X.N _ hm).1
  refine wpAny_pyIter_range (r := r) (a := a) (b := b) (c := 1) (t := t) (u := u) (v := v) hr (small_one ha ha' hb hb') ?_
  refine hQ _ _ (rngIt a b) _ s.toks Iter.rng ?_ (apart_size X) ⟨m, _, D, X.pushR _ rfl⟩
  show _ = _
  simp
end

/-- what a body comes to -/
inductive AF where
  | next
  | brk
  | cont
  | ret (v : AV)
def erF : Flow → AF
  | .next => .next
  | .brk => .brk
  | .cont => .cont
  | .ret v => .ret (er v)

def Ev (W : Wd) (φ : Fx) (env : Env) (e : Expr) (Q : AV → St → Prop) (σ : St) : Prop := Tr W φ (eval e env) (fun v σ' => Q (er v) σ') σ
def Evs (W : Wd) (φ : Fx) (env : Env) (pos : Pos) (es : List Expr) (Q : List AV → St → Prop) (σ : St) : Prop := Tr W φ (spliced (backTo pos (starEach es env))) (fun vs σ' => Q (vs.map er) σ') σ
def Co (W : Wd) (φ : Fx) (env : Env) (e : Expr) (Q : Bool → St → Prop) (σ : St) : Prop := Tr W φ (isTrue e env (eval e env)) Q σ
def Ex1 (W : Wd) (φ : Fx) (st : Stmt) (Q : AF → St → Prop) (σ : St) : Prop := Tr W φ (exec st φ.env) (fun f σ' => Q (erF f) σ') σ
def Exs (W : Wd) (φ : Fx) (b : List Stmt) (Q : AF → St → Prop) (σ : St) : Prop := Tr W φ (execs b φ.env) (fun f σ' => Q (erF f) σ') σ
/-- what stands behind a statement -/
def thn (W : Wd) (φ : Fx) (rest : List Stmt) (Q : AF → St → Prop) : AF → St → Prop
  | .next, σ => Exs W φ rest Q σ
  | .brk, σ => Q .brk σ
  | .cont, σ => Q .cont σ
  | .ret v, σ => Q (.ret v) σ
/-- the end of a turn -/
def turnQ (J : St → Prop) (B : St → Prop) (Q : AF → St → Prop) : AF → St → Prop
  | .next, σ => J σ
  | .cont, σ => J σ
  | .brk, σ => B σ
  | .ret v, σ => Q (.ret v) σ

section
variable {W : Wd} {φ : Fx} {σ : St} {Q : AF → St → Prop}
theorem Exs.nil (h : Q .next σ) : Exs W φ [] Q σ := fun R s hR => wpAny_execs_nil ⟨σ, s.heap, s.toks, rfl, hR, h⟩
theorem Exs.cons {st : Stmt} {rest : List Stmt} (h : Ex1 W φ st (thn W φ rest Q) σ) : Exs W φ (st :: rest) Q σ := fun R s hR =>
  wpAny_execs_cons (wpr (h R s hR) (fun f σ₁ h₁ tk₁ r₁ q₁ => by
    cases f with
    | next => exact (q₁ R { s with heap := h₁, toks := tk₁ } r₁)
    | brk => exact ⟨σ₁, h₁, tk₁, rfl, r₁, q₁⟩
    | cont => exact ⟨σ₁, h₁, tk₁, rfl, r₁, q₁⟩
    | ret v => exact ⟨σ₁, h₁, tk₁, rfl, r₁, q₁⟩))

theorem Ex1.if_ {test : Expr} {body orelse : List Stmt} {pos : Pos} (h : Co W φ φ.env test (fun b σ' => if b then Exs W φ body Q σ' else Exs W φ orelse Q σ') σ) : Ex1 W φ (.If test body orelse pos) Q σ :=
  Tr.seq (t₁ := isTrue test φ.env (eval test φ.env)) (t₂ := fun b => if b then execs body φ.env else execs orelse φ.env)
    (fun s Q' E' h => wpAny_If (wpAny_mono h (fun b s' h' => by cases b <;> exact h') fun _ _ x => x)) (h.mono fun b σ' q => by cases b <;> exact q)
theorem Ex1.ret {e : Expr} {pos : Pos} (h : Ev W φ φ.env e (fun v σ' => Q (.ret v) σ') σ) : Ex1 W φ (.Return (some e) pos) Q σ := fun R s hR =>
  wpAny_Return_some ((h R s hR))
theorem Ex1.brk {pos : Pos} (h : Q .brk σ) : Ex1 W φ (.Break pos) Q σ := fun R s hR => wpAny_Break ⟨σ, s.heap, s.toks, rfl, hR, h⟩

theorem Ex1.while_ {test : Expr} {body : List Stmt} {pos : Pos} (J : Nat → St → Prop)
    (turn : ∀ n σ', J n σ' → ∀ JN, JN = (fun σ₃ => ∃ k, k < n ∧ J k σ₃) → Co W φ φ.env test (fun b σ'' => if b then Exs W φ body (turnQ JN (Q .next) Q) σ'' else Q .next σ'') σ') (n : Nat) (h : J n σ) : Ex1 W φ (.While test body [] pos) Q σ := fun R s hR => by
  refine wpAny_While (codeAny_whileLoop (fun n s' => ∃ σ' h' tk', s' = { s with heap := h', toks := tk' } ∧ Rel φ R σ' h' ∧ J n σ') (fun n s' hI => ?_) n ⟨σ, s.heap, s.toks, rfl, hR, h⟩)
  obtain ⟨σ', h', tk', rfl, hR', hJ⟩ := hI
  refine wpr (turn n σ' hJ _ rfl R _ hR') (fun b σ₁ h₁ tk₁ r₁ q₁ => ?_)
  cases b with
  | false => exact wpAny_execs_nil ⟨σ₁, h₁, tk₁, rfl, r₁, q₁⟩
  | true =>
    refine wpr (q₁ R _ r₁) (fun f σ₂ h₂ tk₂ r₂ q₂ => ?_)
    cases f with
    | next => obtain ⟨k, hk, hj⟩ := q₂; exact ⟨k, hk, σ₂, h₂, tk₂, rfl, r₂, hj⟩
    | cont => obtain ⟨k, hk, hj⟩ := q₂; exact ⟨k, hk, σ₂, h₂, tk₂, rfl, r₂, hj⟩
    | brk => exact ⟨σ₂, h₂, tk₂, rfl, r₂, q₂⟩
    | ret v => exact ⟨σ₂, h₂, tk₂, rfl, r₂, q₂⟩

/-- storing a local name -/
theorem Tr.store (hok : φ.Ok W) {x : Str} {v : Value} {Q : Unit → St → Prop} (hx : φ.cs.names.lookup x = some .local) (h : Q () (σ.set x (er v))) : Tr W φ (storeName φ.env x v) Q σ := fun R s hR => by
  obtain ⟨m, news, D, X⟩ := hR
  exact storeX_L X.F X.N (fun h' F' N' => ⟨_, h', _, rfl, ⟨_, _, _, X.setLocal F' N'⟩, h⟩) hok.k hx

theorem Ex1.for_ (hok : φ.Ok W) {x : Str} {px pos : Pos} {iter : Expr} {body : List Stmt} (hx : φ.cs.names.lookup x = some .local)
    (h : Tr W φ (eval iter φ.env) (fun v σ₁ => ∃ xs need0 need, ∃ J : Nat → St → Prop, Src W φ v xs need0 need ∧ need0 σ₁ ∧ J 0 σ₁ ∧ (∀ i σ', J i σ' → need σ') ∧
      (∀ i a σ', xs[i]? = some a → J i σ' → ∀ JN, JN = J (i + 1) → Exs W φ body (turnQ JN (Q .next) Q) (σ'.set x a)) ∧ ∀ σ', J xs.length σ' → Q .next σ') σ)
    (hs : ∀ x, foldedSetIterable iter φ.env x = pure x := by intro _; rfl) : Ex1 W φ (.For (.Name x px) iter body [] pos) Q σ := fun R s hR => by
  refine wpAny_For (wpr (h R s hR) (fun v σ₁ h₁ tk₁ r₁ q₁ => ?_)) hs
  obtain ⟨xs, need0, need, J, hsrc, hn0, hJ0, hJn, turn, fin⟩ := q₁
  refine hsrc R σ₁ _ hn0 r₁ _ _ fun I o ob h' tk hit ho hA hRel => ?_
  refine codeAny_forLoop (fun n s' => ∃ i σ' h₂ tk₂ o₂, s' = { s with heap := h₂, toks := tk₂ } ∧ n = xs.length + 1 - i ∧ i ≤ xs.length ∧ ob i o₂ ∧ Rel φ ((I, o₂) :: R) σ' h₂ ∧ J i σ') (fun n s' hI => ?_) (xs.length + 1)
    ⟨0, σ₁, h', tk, o, rfl, rfl, Nat.zero_le _, ho, hRel, hJ0⟩
  obtain ⟨i, σ', h₂, tk₂, o₂, rfl, rfl, hi, ho₂, hR₂, hJ⟩ := hI
  by_cases hlt : i < xs.length
  · obtain ⟨a, ha⟩ : ∃ a, xs[i]? = some a := ⟨xs[i], by simp [hlt]⟩
    refine hit.item i a R σ' _ o₂ ha ho₂ (hJn i σ' hJ) hA hR₂ _ _ fun v o₃ h₃ tk₃ hv ho₃ hR₃ => ?_
    refine wpAny_assign_Name ?_
    refine wpAny_mono (Tr.store hok (Q := fun _ σ₂ => σ₂ = σ'.set x a) hx (by rw [hv]) ((I, o₃) :: R) _ hR₃) (fun _ s₃ ⟨σ₃, h₄, tk₄, e₃, r₃, q₃⟩ => ?_) fun _ _ x => x.elim
    subst e₃; subst q₃
    refine wpAny_mono (turn i a σ' ha hJ _ rfl ((I, o₃) :: R) _ r₃) (fun f s₄ ⟨σ₄, h₅, tk₅, e₄, r₄, q₄⟩ => ?_) fun _ _ x => x.elim
    subst e₄
    have drop : Rel φ R σ₄ h₅ := by
      obtain ⟨m, news, D, X⟩ := r₄
      exact ⟨m, _, D, X.but (fun _ _ _ e => e) hA⟩
    cases f with
    | next => exact ⟨_, by omega, i + 1, σ₄, h₅, tk₅, o₃, rfl, rfl, hlt, ho₃, r₄, q₄⟩
    | cont => exact ⟨_, by omega, i + 1, σ₄, h₅, tk₅, o₃, rfl, rfl, hlt, ho₃, r₄, q₄⟩
    | brk => exact ⟨σ₄, h₅, tk₅, rfl, drop, q₄⟩
    | ret v => exact ⟨σ₄, h₅, tk₅, rfl, drop, q₄⟩
  · have hin : i = xs.length := by omega
    subst hin
    refine hit.done R σ' _ o₂ ho₂ (hJn _ σ' hJ) hA hR₂ _ _ fun h₃ tk₃ hR₃ => ?_
    exact wpAny_execs_nil ⟨σ', h₃, tk₃, rfl, hR₃, fin σ' hJ⟩
end
def Bin (W : Wd) (φ : Fx) (op : Operator) (x y : AV) (Q : AV → St → Prop) (σ : St) : Prop := ∀ u v, er u = x → er v = y → Tr W φ (binaryOp op u v) (fun r σ' => Q (er r) σ') σ
def Ipl (W : Wd) (φ : Fx) (op : Operator) (x y : AV) (Q : AV → St → Prop) (σ : St) : Prop := ∀ u v, er u = x → er v = y → Tr W φ (inplaceOp op u v) (fun r σ' => Q (er r) σ') σ
def Cmp (W : Wd) (φ : Fx) (op : CmpOp) (x y : AV) (Q : AV → St → Prop) (σ : St) : Prop := ∀ u v, er u = x → er v = y → Tr W φ (compareOp op u v) (fun r σ' => Q (er r) σ') σ
def Att (W : Wd) (φ : Fx) (x : AV) (name : Str) (Q : AV → St → Prop) (σ : St) : Prop := ∀ u e, er u = x → Tr W φ (getAttr u name e) (fun r σ' => Q (er r) σ') σ
def SetAtt (W : Wd) (φ : Fx) (x : AV) (name : Str) (v : AV) (Q : St → Prop) (σ : St) : Prop := ∀ u w, er u = x → er w = v → Tr W φ (setAttr u name w) (fun _ σ' => Q σ') σ
def Itm (W : Wd) (φ : Fx) (x i : AV) (Q : AV → St → Prop) (σ : St) : Prop := ∀ u v, er u = x → er v = i → Tr W φ (getItem u v) (fun r σ' => Q (er r) σ') σ
def SetItm (W : Wd) (φ : Fx) (x i v : AV) (Q : St → Prop) (σ : St) : Prop := ∀ u j w, er u = x → er j = i → er w = v → Tr W φ (setItem u j w) (fun _ σ' => Q σ') σ
def CallA (W : Wd) (φ : Fx) (f : Value) (xs : List AV) (Q : AV → St → Prop) (σ : St) : Prop := ∀ vs, vs.map er = xs → Tr W φ (call f vs []) (fun r σ' => Q (er r) σ') σ

section
variable {W : Wd} {φ : Fx} {σ : St} {env : Env} {Q : AV → St → Prop}

theorem Tr.tok {t : Sem Value} {a : AV} (rule : ∀ (s : Shared) (Q' : Value → Shared → Prop) (E' : Value → Shared → Prop), (∀ v tk, er v = a → Q' v { s with toks := tk }) → wpAny (model W.prog W.w) φ.A t Q' E' s)
    (h : Q a σ) : Tr W φ t (fun r σ' => Q (er r) σ') σ := fun R s hR => rule _ _ _ fun v tk e => ⟨σ, s.heap, tk, rfl, hR, by show Q (er v) σ; rw [e]; exact h⟩

-- constants
theorem Ev.cInt {i : Int} {k : Nat} {pos : Pos} (h : Q (.int i) σ) : Ev W φ env (.Constant (.int i) k pos) Q σ := Tr.tok (fun s Q' E' k' => wpAny_Constant_int (k' _ _ rfl)) h
theorem Ev.cStr {x : Str} {k : Nat} {pos : Pos} (h : Q (.str x) σ) : Ev W φ env (.Constant (.str x) k pos) Q σ := Tr.tok (fun s Q' E' k' => wpAny_Constant_str (k' _ _ rfl)) h
theorem Ev.cNone {k : Nat} {pos : Pos} (h : Q .none σ) : Ev W φ env (.Constant .none k pos) Q σ := Tr.tok (fun s Q' E' k' => wpAny_Constant_none (k' _ s.toks rfl)) h
theorem Ev.cBool {b : Bool} {k : Nat} {pos : Pos} (h : Q (.bool b) σ) : Ev W φ env (.Constant (.bool b) k pos) Q σ := Tr.tok (fun s Q' E' k' => wpAny_Constant_bool (k' _ s.toks rfl)) h

-- names
theorem Ev.loc (hok : φ.Ok W) {x : Str} {pos : Pos} {v : AV} (hx : φ.cs.names.lookup x = some .local) (hv : σ.m x = some v) (h : Q v σ) (hd : (x == ("__debug__" : Str)) = false := by decide) : Ev W φ φ.env (.Name x pos) Q σ := fun R s hR => by
  obtain ⟨m, news, D, X⟩ := id hR
  obtain ⟨u, h1, h2⟩ := X.V x v hv
  exact nameX_L X.F h1 ⟨σ, s.heap, s.toks, rfl, hR, by show Q (er u) σ; rw [h2]; exact h⟩ hok.k hx hd
theorem Ev.cell (hok : φ.Ok W) {x : Str} {pos : Pos} {v : AV} {c : Addr} (hx : φ.cs.names.lookup x = some .cell) (hc : φ.cl.lookup x = some c) (hv : σ.H c = some (.cell (some v))) (h : Q v σ) (hd : (x == ("__debug__" : Str)) = false := by decide) : Ev W φ φ.env (.Name x pos) Q σ := fun R s hR => by
  obtain ⟨m, news, D, X⟩ := id hR
  obtain ⟨o, u, h1, h2, h3⟩ := X.O c _ hv
  cases u with
  | none => cases h3
  | some u => exact nameX_C X.N hc h1 h2 ⟨σ, s.heap, s.toks, rfl, hR, by show Q (er u) σ; rw [Option.some.inj h3]; exact h⟩ hok.k hx hd
theorem Tr.ldn (hok : φ.Ok W) {x : Str} {v : AV} (hx : φ.cs.names.lookup x = some .local) (hv : σ.m x = some v) (h : Q v σ) : Tr W φ (loadName φ.env x) (fun r σ' => Q (er r) σ') σ := fun R s hR => by
  obtain ⟨m, news, D, X⟩ := id hR
  obtain ⟨u, h1, h2⟩ := X.V x v hv
  exact wpAny_loadName_local hok.k hx X.F.ns h1 ⟨σ, s.heap, s.toks, rfl, hR, by show Q (er u) σ; rw [h2]; exact h⟩

/-- a global name's value -/
def GN (W : Wd) (φ : Fx) (env : Env) (x : Str) (v : Value) : Prop := ∀ (pos : Pos) (R : List (Addr × Obj)) (σ : St) (s : Shared) (Q : Value → Shared → Prop) (E : Value → Shared → Prop), Rel φ R σ s.heap → Q v s → wpAny (model W.prog W.w) φ.A (eval (.Name x pos) env) Q E s
theorem GN.K (hok : φ.Ok W) {x : Str} {v : Value} (e : nsIn W.K mainGlobals x = some (some v)) (hg : env.globals = mainGlobals) (hk : env.scope.kind = .function) (hx : env.kindOf x = some .globalImplicit) (hd : (x == ("__debug__" : Str)) = false := by decide) : GN W φ env x v := fun pos R σ s Q E hR hQ => by
  obtain ⟨m, news, D, X⟩ := hR
  exact nameG_K X.F hok.X (topRead_of hok.T) e hQ hg hk hx hd
theorem GN.B (hok : φ.Ok W) {x : Str} {v : Value} (e : nsIn W.K mainGlobals x = some none) (hv : bootBuiltins x = some v) (hg : env.globals = mainGlobals) (hb : env.builtins = builtinsNs) (hk : env.scope.kind = .function) (hx : env.kindOf x = some .globalImplicit)
    (hn : x ≠ "__name__" := by decide) (hd : (x == ("__debug__" : Str)) = false := by decide) : GN W φ env x v := fun pos R σ s Q E hR hQ => by
  obtain ⟨m, news, D, X⟩ := hR
  have T := topRead_of hok.T
  exact Name_function_global hk hx (loadGlobal_builtin (env := env) (by rw [hg]; exact T.g.keeps X.F.keep) (mg_none_of hok.X T.g e) (by rw [hb]; exact T.b.keeps X.F.keep) ((T.builtins x hn).trans hv) hQ) hd

-- composite expressions
theorem Ev.bin {l r : Expr} {op : Operator} {pos : Pos} (h : Ev W φ env l (fun x σ₁ => Ev W φ env r (fun y σ₂ => Bin W φ op x y Q σ₂) σ₁) σ) : Ev W φ env (.BinOp l op r pos) Q σ :=
  Tr.seq2 (t₁ := eval l env) (t₂ := fun _ => eval r env) (t₃ := fun a b => binaryOp op a b) (fun s Q' E' h => wpAny_BinOp h) (h.mono fun a σ₁ q => q.mono fun b σ₂ q => q a b rfl rfl)
theorem Ev.cmp {l r : Expr} {op : CmpOp} {pos : Pos} (h : Ev W φ env l (fun x σ₁ => Ev W φ env r (fun y σ₂ => Cmp W φ op x y Q σ₂) σ₁) σ) (hm : behindInMarks op r = false := by with_unfolding_all rfl) : Ev W φ env (.Compare l [op] [r] pos) Q σ :=
  Tr.seq2 (t₁ := eval l env) (t₂ := fun _ => eval r env) (t₃ := fun a b => compareOp op a b) (fun s Q' E' h => wpAny_Compare1 h hm) (h.mono fun a σ₁ q => q.mono fun b σ₂ q => q a b rfl rfl)
theorem Ev.ifx {t b o : Expr} {pos : Pos} (h : Co W φ env t (fun c σ₁ => if c then Ev W φ env b Q σ₁ else Ev W φ env o Q σ₁) σ) : Ev W φ env (.IfExp t b o pos) Q σ :=
  Tr.seq (t₁ := isTrue t env (eval t env)) (t₂ := fun c => if c then eval b env else eval o env) (fun s Q' E' h => wpAny_IfExp (wpAny_mono h (fun b s' h' => by cases b <;> exact h') fun _ _ x => x)) (h.mono fun b σ' q => by cases b <;> exact q)
theorem Ev.neg {x : Expr} {pos : Pos} (h : Ev W φ env x (fun v σ₁ => ∃ i, v = .int i ∧ Q (.int (-i)) σ₁) σ) : Ev W φ env (.UnaryOp .USub x pos) Q σ :=
  Tr.seq (t₁ := eval x env) (t₂ := fun v => unaryOp .USub v) (fun s Q' E' h => wpAny_UnaryOp h) (h.mono fun v σ₁ ⟨i, e, q⟩ => by
    obtain ⟨t, rfl⟩ := er_int e
    exact Tr.tok (fun s Q' E' k => PyProof.Rows.neg_int (k _ _ rfl)) q)
theorem Ev.attr {e : Expr} {name : Str} {pos : Pos} (h : Ev W φ env e (fun x σ₁ => Att W φ x name Q σ₁) σ)
    (he : eval (.Attribute e name pos) env = (do
      let o ← eval e env
      standAt pos.atName
      let r ← holding [o] (getAttr o name true)
      letTemporaryGo e o r
      pure r) := by with_unfolding_all rfl) : Ev W φ env (.Attribute e name pos) Q σ :=
  Tr.seq (t₁ := eval e env) (t₂ := fun v => getAttr v name true) (fun s Q' E' h => Attribute_any_ h he) (h.mono fun v σ₁ q => q v true rfl)

-- conditions
theorem Co.cmp {l r : Expr} {op : CmpOp} {pos : Pos} {Q : Bool → St → Prop} (h : Ev W φ env l (fun x σ₁ => Ev W φ env r (fun y σ₂ => Cmp W φ op x y (fun c σ₃ => ∃ b, c = .bool b ∧ Q b σ₃) σ₂) σ₁) σ) (hm : behindInMarks op r = false := by with_unfolding_all rfl) : Co W φ env (.Compare l [op] [r] pos) Q σ :=
  Tr.seq3 (t₁ := eval l env) (t₂ := fun _ => eval r env) (t₃ := fun a b => compareOp op a b) (t₄ := fun _ _ c => truthy c) (fun s Q' E' h => wpAny_isTrue_Compare1 h hm)
    (h.mono fun a σ₁ q => q.mono fun b σ₂ q => (q a b rfl rfl).mono fun c σ₃ ⟨b, e, q⟩ => by
      rw [er_bool e]
      exact fun R s hR => wpAny_truthy_bool ⟨σ₃, s.heap, s.toks, rfl, hR, q⟩)
theorem Co.not {x : Expr} {pos : Pos} {Q : Bool → St → Prop} (h : Co W φ env x (fun b σ₁ => Q (!b) σ₁) σ) : Co W φ env (.UnaryOp .Not x pos) Q σ := fun R s hR =>
  wpAny_isTrue_Not (h R s hR)
/-- a row of tests -/
def Ands (W : Wd) (φ : Fx) (env : Env) (es : List Expr) (Q : Bool → St → Prop) (σ : St) : Prop := Tr W φ (allTrue .And es env) Q σ
def Ors (W : Wd) (φ : Fx) (env : Env) (es : List Expr) (Q : Bool → St → Prop) (σ : St) : Prop := Tr W φ (allTrue .Or es env) Q σ
theorem Ands.nil {Q : Bool → St → Prop} (h : Q true σ) : Ands W φ env [] Q σ := fun R s hR => wpAny_allTrue_And_nil ⟨σ, s.heap, s.toks, rfl, hR, h⟩
theorem Ors.nil {Q : Bool → St → Prop} (h : Q false σ) : Ors W φ env [] Q σ := fun R s hR => wpAny_allTrue_Or_nil ⟨σ, s.heap, s.toks, rfl, hR, h⟩
theorem Ands.cons {x : Expr} {rest : List Expr} {Q : Bool → St → Prop} (h : Co W φ env x (fun b σ₁ => if b then Ands W φ env rest Q σ₁ else Q false σ₁) σ) : Ands W φ env (x :: rest) Q σ := fun R s hR =>
  wpAny_allTrue_And_cons (wpr (h R s hR) (fun b σ₁ h₁ tk₁ r₁ q₁ => by
    cases b with
    | false => exact ⟨σ₁, h₁, tk₁, rfl, r₁, q₁⟩
    | true => exact (q₁ R { s with heap := h₁, toks := tk₁ } r₁)))
theorem Ors.cons {x : Expr} {rest : List Expr} {Q : Bool → St → Prop} (h : Co W φ env x (fun b σ₁ => if b then Q true σ₁ else Ors W φ env rest Q σ₁) σ) : Ors W φ env (x :: rest) Q σ := fun R s hR =>
  wpAny_allTrue_Or_cons (wpr (h R s hR) (fun b σ₁ h₁ tk₁ r₁ q₁ => by
    cases b with
    | true => exact ⟨σ₁, h₁, tk₁, rfl, r₁, q₁⟩
    | false => exact (q₁ R { s with heap := h₁, toks := tk₁ } r₁)))
theorem Co.and {es : List Expr} {pos : Pos} {Q : Bool → St → Prop} (h : Ands W φ env es Q σ) : Co W φ env (.BoolOp .And es pos) Q σ := fun R s hR => wpAny_isTrue_BoolOp (h R s hR)
theorem Co.or {es : List Expr} {pos : Pos} {Q : Bool → St → Prop} (h : Ors W φ env es Q σ) : Co W φ env (.BoolOp .Or es pos) Q σ := fun R s hR => wpAny_isTrue_BoolOp (h R s hR)
/-- a test by a value's truth -/
theorem Co.val {e : Expr} {Q : Bool → St → Prop} (h : Ev W φ env e (fun v σ₁ => ∃ b, v = .bool b ∧ Q b σ₁) σ) (he : isTrue e env (eval e env) = (do let v ← eval e env; standAt e.pos; holding [v] (truthy v)) := by rfl) : Co W φ env e Q σ :=
  Tr.seq (t₁ := eval e env) (t₂ := fun v => truthy v) (fun s Q' E' h => wpAny_isTrue_value h he) (h.mono fun v σ₁ ⟨b, e, q⟩ => by
    rw [er_bool e]
    exact fun R s hR => wpAny_truthy_bool ⟨σ₁, s.heap, s.toks, rfl, hR, q⟩)
theorem Ev.and2 {x y : Expr} {pos : Pos} (h : Ev W φ env x (fun v σ₁ => ∃ b, v = .bool b ∧ if b then Ev W φ env y Q σ₁ else Q (.bool false) σ₁) σ) : Ev W φ env (.BoolOp .And [x, y] pos) Q σ := fun R s hR =>
  wpAny_And2 (wpr (h R s hR) (fun v σ₁ h₁ tk₁ r₁ q₁ => by
    obtain ⟨b, e, q₁⟩ := q₁
    rw [er_bool e]
    refine wpAny_truthy_bool ?_
    cases b with
    | false => exact ⟨σ₁, h₁, tk₁, rfl, r₁, q₁⟩
    | true => exact (q₁ R { s with heap := h₁, toks := tk₁ } r₁)))
theorem Ev.or2 {x y : Expr} {pos : Pos} (h : Ev W φ env x (fun v σ₁ => ∃ b, v = .bool b ∧ if b then Q (.bool true) σ₁ else Ev W φ env y Q σ₁) σ) : Ev W φ env (.BoolOp .Or [x, y] pos) Q σ := fun R s hR =>
  wpAny_Or2 (wpr (h R s hR) (fun v σ₁ h₁ tk₁ r₁ q₁ => by
    obtain ⟨b, e, q₁⟩ := q₁
    rw [er_bool e]
    refine wpAny_truthy_bool ?_
    cases b with
    | true => exact ⟨σ₁, h₁, tk₁, rfl, r₁, q₁⟩
    | false => exact (q₁ R { s with heap := h₁, toks := tk₁ } r₁)))

-- ints
theorem Bin.add {a b : Int} (h : Q (.int (a + b)) σ) : Bin W φ .Add (.int a) (.int b) Q σ := fun u v hu hv => by
  obtain ⟨t, rfl⟩ := er_int hu; obtain ⟨t', rfl⟩ := er_int hv
  exact Tr.tok (fun s Q' E' k => PyProof.Rows.add_int (k _ _ rfl)) h
theorem Bin.sub {a b : Int} (h : Q (.int (a - b)) σ) : Bin W φ .Sub (.int a) (.int b) Q σ := fun u v hu hv => by
  obtain ⟨t, rfl⟩ := er_int hu; obtain ⟨t', rfl⟩ := er_int hv
  exact Tr.tok (fun s Q' E' k => PyProof.Rows.sub_int (k _ _ rfl)) h
theorem Bin.mul {a b : Int} (hm : IntMulOk a b) (h : Q (.int (a * b)) σ) : Bin W φ .Mult (.int a) (.int b) Q σ := fun u v hu hv => by
  obtain ⟨t, rfl⟩ := er_int hu; obtain ⟨t', rfl⟩ := er_int hv
  exact Tr.tok (fun s Q' E' k => PyProof.Rows.mul_int (k _ _ rfl) hm) h
theorem Bin.mod {a b : Int} (hb : b ≠ 0) (h : Q (.int (a.fmod b)) σ) : Bin W φ .Mod (.int a) (.int b) Q σ := fun u v hu hv => by
  obtain ⟨t, rfl⟩ := er_int hu; obtain ⟨t', rfl⟩ := er_int hv
  exact Tr.tok (fun s Q' E' k => mod_int' hb (k _ _ rfl)) h
theorem Bin.fdiv {a b : Int} (hb : b ≠ 0) (hp : Builtin.divisionGoesByPylong a b = false) (h : Q (.int (a.fdiv b)) σ) : Bin W φ .FloorDiv (.int a) (.int b) Q σ := fun u v hu hv => by
  obtain ⟨t, rfl⟩ := er_int hu; obtain ⟨t', rfl⟩ := er_int hv
  exact Tr.tok (fun s Q' E' k => floordiv_int hb (k _ _ rfl) (.inl hp)) h
theorem Ipl.add {a b : Int} (h : Q (.int (a + b)) σ) : Ipl W φ .Add (.int a) (.int b) Q σ := fun u v hu hv => by
  obtain ⟨t, rfl⟩ := er_int hu; obtain ⟨t', rfl⟩ := er_int hv
  exact Tr.tok (fun s Q' E' k => PyProof.Rows.iadd_int (k _ _ rfl)) h
theorem Ipl.sub {a b : Int} (h : Q (.int (a - b)) σ) : Ipl W φ .Sub (.int a) (.int b) Q σ := fun u v hu hv => by
  obtain ⟨t, rfl⟩ := er_int hu; obtain ⟨t', rfl⟩ := er_int hv
  exact Tr.tok (fun s Q' E' k => PyProof.Rows.isub_int (k _ _ rfl)) h
theorem Ipl.fdiv {a b : Int} (hb : b ≠ 0) (hp : Builtin.divisionGoesByPylong a b = false) (h : Q (.int (a.fdiv b)) σ) : Ipl W φ .FloorDiv (.int a) (.int b) Q σ := fun u v hu hv => by
  obtain ⟨t, rfl⟩ := er_int hu; obtain ⟨t', rfl⟩ := er_int hv
  exact Tr.tok (fun s Q' E' k => ifloordiv_int hb (k _ _ rfl) (.inl hp)) h
theorem Cmp.eqI {a b : Int} (h : Q (.bool (a == b)) σ) : Cmp W φ .Eq (.int a) (.int b) Q σ := fun u v hu hv => by
  obtain ⟨t, rfl⟩ := er_int hu; obtain ⟨t', rfl⟩ := er_int hv
  exact Tr.tok (fun s Q' E' k => PyProof.Rows.eq_int (k _ s.toks rfl)) h
theorem Cmp.neI {a b : Int} (h : Q (.bool (a != b)) σ) : Cmp W φ .NotEq (.int a) (.int b) Q σ := fun u v hu hv => by
  obtain ⟨t, rfl⟩ := er_int hu; obtain ⟨t', rfl⟩ := er_int hv
  exact Tr.tok (fun s Q' E' k => PyProof.Rows.ne_int (k _ s.toks rfl)) h
theorem Cmp.ltI {a b : Int} (h : Q (.bool (decide (a < b))) σ) : Cmp W φ .Lt (.int a) (.int b) Q σ := fun u v hu hv => by
  obtain ⟨t, rfl⟩ := er_int hu; obtain ⟨t', rfl⟩ := er_int hv
  exact Tr.tok (fun s Q' E' k => PyProof.Rows.lt_int (k _ s.toks rfl)) h
theorem Cmp.gtI {a b : Int} (h : Q (.bool (decide (b < a))) σ) : Cmp W φ .Gt (.int a) (.int b) Q σ := fun u v hu hv => by
  obtain ⟨t, rfl⟩ := er_int hu; obtain ⟨t', rfl⟩ := er_int hv
  exact Tr.tok (fun s Q' E' k => PyProof.Rows.gt_int (k _ s.toks rfl)) h
theorem Cmp.leI {a b : Int} (h : Q (.bool (decide (a ≤ b))) σ) : Cmp W φ .LtE (.int a) (.int b) Q σ := fun u v hu hv => by
  obtain ⟨t, rfl⟩ := er_int hu; obtain ⟨t', rfl⟩ := er_int hv
  exact Tr.tok (fun s Q' E' k => PyProof.Rows.le_int (k _ s.toks rfl)) h
theorem Cmp.geI {a b : Int} (h : Q (.bool (decide (b ≤ a))) σ) : Cmp W φ .GtE (.int a) (.int b) Q σ := fun u v hu hv => by
  obtain ⟨t, rfl⟩ := er_int hu; obtain ⟨t', rfl⟩ := er_int hv
  exact Tr.tok (fun s Q' E' k => PyProof.Rows.ge_int (k _ s.toks rfl)) h
theorem Cmp.eqS {a b : Str} (h : Q (.bool (a == b)) σ) : Cmp W φ .Eq (.str a) (.str b) Q σ := fun u v hu hv => by
  obtain ⟨t, rfl⟩ := er_str hu; obtain ⟨t', rfl⟩ := er_str hv
  exact Tr.tok (fun s Q' E' k => PyProof.Rows.eq_str (k _ s.toks rfl)) h
theorem Cmp.neS {a b : Str} (h : Q (.bool (a != b)) σ) : Cmp W φ .NotEq (.str a) (.str b) Q σ := fun u v hu hv => by
  obtain ⟨t, rfl⟩ := er_str hu; obtain ⟨t', rfl⟩ := er_str hv
  exact Tr.tok (fun s Q' E' k => PyProof.Rows.ne_str (k _ s.toks rfl)) h
def AV.isNone : AV → Bool
  | .none => true
  | _ => false
theorem er_isNone (v : Value) : (v == Value.none) = (er v).isNone := by cases v <;> rfl
theorem Cmp.isN {a : AV} (h : Q (.bool a.isNone) σ) : Cmp W φ .Is a .none Q σ := fun u v hu hv => by
  subst hu; obtain rfl := er_none hv
  exact Tr.tok (fun s Q' E' k => is_none (k _ s.toks (by rw [er_isNone]; rfl))) h
theorem Cmp.isNotN {a : AV} (h : Q (.bool (!a.isNone)) σ) : Cmp W φ .IsNot a .none Q σ := fun u v hu hv => by
  subst hu; obtain rfl := er_none hv
  exact Tr.tok (fun s Q' E' k => isNot_none (k _ s.toks (by rw [er_isNone]; rfl))) h
end
def lget (xs : List AV) (k : Int) : Option AV := if 0 ≤ k then xs[k.toNat]? else if -(xs.length : Int) ≤ k then xs[(k + xs.length).toNat]? else none
def lput (xs : List AV) (k : Int) (v : AV) : List AV := xs.set k.toNat v

def fget (name : Str) : List (Str × AV) → Option AV
  | [] => none
  | (n, u) :: r => if n == name then some u else fget name r
def fput (name : Str) (v : AV) : List (Str × AV) → List (Str × AV)
  | [] => [(name, v)]
  | (n, u) :: r => if n == name then (n, v) :: r else (n, u) :: fput name v r

theorem repD_getL (name : Str) : ∀ {es : List DictEntry} {fs : List (Str × AV)}, RepD es fs → ∃ u, getL name es = some u ∧ u.map er = fget name fs := by
  intro es
  induction es with
  | nil =>
    intro fs h
    cases fs with
    | nil => exact ⟨none, rfl, rfl⟩
    | cons p fs => cases h
  | cons e es ih =>
    intro fs h
    cases fs with
    | nil => cases h
    | cons p fs =>
      simp only [RepD, List.map_cons, List.cons.injEq] at h
      obtain ⟨h1, h2⟩ := h
      obtain ⟨hk, hv⟩ := Prod.mk.inj h1
      obtain ⟨t, ht⟩ := er_str hk
      obtain ⟨u, h3, h4⟩ := ih h2
      obtain ⟨n, av⟩ := p
      have hs : e.key.isStr name = (n == name) := by rw [ht]; rfl
      have hr : e.refKey = false := by unfold DictEntry.refKey; rw [ht]
      by_cases hn : (n == name) = true
      · refine ⟨some e.val, ?_, ?_⟩
        · simp only [getL, List.find?_cons, hs, hn]
        · simp only [fget, hn, if_true, Option.map_some]; exact congrArg some hv
      · refine ⟨u, ?_, ?_⟩
        · rw [← h3]
          have hn' : (n == name) = false := by simpa using hn
          simp only [getL, List.find?_cons, hs, hn', List.any_cons, hr, Bool.false_or]
        · simp only [fget, if_neg hn]; exact h4
theorem repD_putL (name : Str) (hsh : Int) (t : Tok) (w : Value) : ∀ {es : List DictEntry} {fs : List (Str × AV)}, RepD es fs → RepD (putL name hsh (.str name t) w es) (fput name (er w) fs) := by
  intro es
  induction es with
  | nil =>
    intro fs h
    cases fs with
    | nil => rfl
    | cons p fs => cases h
  | cons e es ih =>
    intro fs h
    cases fs with
    | nil => cases h
    | cons p fs =>
      simp only [RepD, List.map_cons, List.cons.injEq] at h
      obtain ⟨h1, h2⟩ := h
      obtain ⟨hk, hv⟩ := Prod.mk.inj h1
      obtain ⟨t', ht⟩ := er_str hk
      obtain ⟨n, av⟩ := p
      have hs : e.key.isStr name = (n == name) := by rw [ht]; rfl
      simp only [putL, fput, hs]
      by_cases hn : (n == name) = true
      · simp only [hn, if_true, RepD, List.map_cons, hk]
        exact congrArg (_ :: ·) h2
      · simp only [if_neg hn, RepD, List.map_cons, hk, hv]
        exact congrArg (_ :: ·) (ih h2)
theorem repD_length {es : List DictEntry} {fs : List (Str × AV)} (h : RepD es fs) : es.length = fs.length := by
  have := congrArg List.length h
  simpa using this
theorem putL_length (name : Str) (hsh : Int) (k w : Value) : ∀ es : List DictEntry, (putL name hsh k w es).length ≤ es.length + 1
  | [] => Nat.le_refl _
  | e :: es => by
    unfold putL
    split
    · simp
    · have := putL_length name hsh k w es
      simp only [List.length_cons]; omega

/-- a class's own facts of a field's name -/
structure AttrOk (W : Wd) (C : Addr) (name : Str) : Prop where
  pg : plainGet W.K C name = true
  hd : hasDictIn W.K C = true
  at_ : ∃ a, findIn W.K (.ref C) name = some a ∧ noGet W.K a = true
structure SetOk (W : Wd) (C : Addr) (name : Str) : Prop where
  sa : findIn W.K (.ref C) "__setattr__" = some (some (.builtin "object.__setattr__"))
  po : plainOver W.K C = true
  tk : takerIn W.K C name = some none
  hd : hasDictIn W.K C = true

section
variable {φ : Fx} {R : List (Addr × Obj)} {σ : St} {h h' : Heap} {m m' : Str → Option Value} {news news' : List (Addr × Obj)} {D : Addr → Addr}
/-- dead weight on the heap -/
theorem RelW.junk (X : RelW φ R σ h m news D) (o : Obj) : RelW φ R σ (h.push o) m news D where
  B := X.B
  Y := X.Y
  F := X.F.push o
  N := fun p hp => ⟨Heap.get?_push_of_some _ (X.N p hp).1, (X.N p hp).2⟩
  V := X.V
  O := X.O
  I := X.I
  S := X.S
theorem RelW.grown (X : RelW φ R σ h m news D) (hk : ∀ b o, h.get? b = some o → h'.get? b = some o) : RelW φ R σ h' m news D where
  B := X.B
  Y := X.Y
  F := X.F.grownK hk
  N := X.N.grown hk
  V := X.V
  O := X.O
  I := X.I
  S := X.S
theorem Rel.oldList {a : Addr} {xs : List AV} (X : Rel φ R σ h) (e : σ.H a = some (.old xs)) : ∃ vs : List Value, h.IsList a vs.toArray ∧ vs.map er = xs := by
  obtain ⟨m, news, D, X⟩ := X
  obtain ⟨vs, h1, h2⟩ := X.O a _ e
  exact ⟨vs, stays_list (fun b o e => X.F.keep b o (X.B b o e)) h1, h2⟩
theorem RelW.allocListF (X : RelW φ R σ h m news D) {a : Addr} {vs : List Value} {c : Nat} (ha : FreshA φ news a) (F' : Fr φ.h₀ φ.L h' m) (N' : News φ.h₀ φ.L h' ((a, listOf vs.toArray c) :: news)) :
    Rel φ R (σ.put a (.lst (vs.map er))) h' := ⟨m, _, D, X.allocF ha F' N' (fun d => ⟨_, c, .head _, by simp⟩) (fun _ _ e => by cases e)⟩
theorem RelW.allocList (X : RelW φ R σ h m news D) {a : Addr} {vs : List Value} {c : Nat} (ha : h.get? a = none) (F' : Fr φ.h₀ φ.L h' m) (N' : News φ.h₀ φ.L h' ((a, listOf vs.toArray c) :: news)) :
    Rel φ R (σ.put a (.lst (vs.map er))) h' := X.allocListF (X.fresh ha) F' N'
end

section
variable {W : Wd} {φ : Fx} {σ : St} {env : Env} {Q : AV → St → Prop}

theorem sz (n : Nat) (h : n ≤ 1000) : n ≤ sizeLine := by rw [sizeLine_eq]; omega

theorem Tr.newList {vs : List Value} (hsz : vs.length ≤ 1000) (h : ∀ a, σ.H a = none → Q (.ref a) (σ.put a (.lst (vs.map er)))) : Tr W φ (newList vs) (fun r σ' => Q (er r) σ') σ := fun R s hR => by
  obtain ⟨m, news, D, X⟩ := hR
  refine newList_N X.F X.N (fun h' F' N' => ?_) (sz _ hsz)
  exact ⟨_, h', s.toks, rfl, X.allocList (get_size_none _) F' N', h _ (X.new_none (get_size_none _))⟩

theorem Evs.nil {pos : Pos} {Q : List AV → St → Prop} (h : Q [] σ) : Evs W φ env pos [] Q σ := fun R s hR => wpAny_items_nil ⟨σ, s.heap, s.toks, rfl, hR, h⟩
theorem Evs.cons {pos : Pos} {e : Expr} {rest : List Expr} {Q : List AV → St → Prop} (h : Ev W φ env e (fun v σ₁ => Evs W φ env pos rest (fun vs σ₂ => Q (v :: vs) σ₂) σ₁) σ)
    (he : starEach (e :: rest) env = (false, eval e env) :: starEach rest env := by rfl) : Evs W φ env pos (e :: rest) Q σ := fun R s hR =>
  wpAny_items_cons (wpr (h R s hR) (fun v σ₁ h₁ tk₁ r₁ q₁ => by
    exact (q₁ R { s with heap := h₁, toks := tk₁ } r₁))) he
theorem Ev.list {elts : List Expr} {pos : Pos} (h : Evs W φ env pos elts (fun xs σ₁ => xs.length ≤ 1000 ∧ ∀ a, σ₁.H a = none → Q (.ref a) (σ₁.put a (.lst xs))) σ) : Ev W φ env (.List elts pos) Q σ :=
  Tr.seq (t₁ := spliced (backTo pos (starEach elts env))) (t₂ := fun vs => PySem.newList vs) (fun s Q' E' h => List_ h) (h.mono fun vs σ₁ q => Tr.newList (by simpa using q.1) q.2)

-- items
theorem Itm.get {a : Addr} {xs : List AV} {k : Int} {v : AV} (hH : σ.H a = some (.lst xs)) (hx : lget xs k = some v) (hk : xs.length ≤ 1000) (h : Q v σ) : Itm W φ (.ref a) (.int k) Q σ := fun u j hu hj => by
  obtain rfl := er_ref hu; obtain ⟨t, rfl⟩ := er_int hj
  refine fun R s hR => ?_
  obtain ⟨vs, hl, rfl⟩ := hR.list hH
  simp only [List.length_map] at hk
  unfold lget at hx
  by_cases h0 : 0 ≤ k
  · rw [if_pos h0, List.getElem?_map] at hx
    cases e : vs[k.toNat]? with
    | none => rw [e] at hx; cases hx
    | some w =>
      rw [e] at hx
      have hlt : k.toNat < vs.length := by
        refine Nat.lt_of_not_le fun hle => ?_
        rw [List.getElem?_eq_none hle] at e; cases e
      refine wpAny_getItem_list hl h0 (by omega) (by simpa using e) ⟨σ, s.heap, s.toks, rfl, hR, ?_⟩
      show Q (er w) σ
      rw [show er w = v from Option.some.inj hx]; exact h
  · rw [if_neg h0] at hx
    by_cases h1 : -((vs.map er).length : Int) ≤ k
    · rw [if_pos h1, List.getElem?_map] at hx
      simp only [List.length_map] at h1 hx
      cases e : vs[(k + vs.length).toNat]? with
      | none => rw [e] at hx; cases hx
      | some w =>
        rw [e] at hx
        refine wpAny_getItem_list_neg hl (by omega) (by simpa using h1) (by omega) (by simpa using e) ⟨σ, s.heap, s.toks, rfl, hR, ?_⟩
        show Q (er w) σ
        rw [show er w = v from Option.some.inj hx]; exact h
    · rw [if_neg h1] at hx; cases hx

theorem subTail {A : Around} {E : Value → Shared → Prop} {s : Shared} {value slice : Expr} {o i : Value} {ops : List Value} {Q : Value → Shared → Prop} (hT : s.TypeIs o "list")
    (h : wpAny (model W.prog W.w) A (getItem o i) Q E s) (hs : subscripted slice false o i = operate ops (getItem o i)) : wpAny (model W.prog W.w) A (subscriptTail value slice o i) Q E s := by
  unfold subscriptTail
  refine wpAny_bind ?_
  rw [getitemInPython_of_ne hT.not_modules]
  refine wpAny_bind (wpAny_specialOf hT slot_list_getitem.lookup ?_)
  have fin : wpAny (model W.prog W.w) A (subscripted slice false o i) (fun r s₃ => wpAny (model W.prog W.w) A (letTemporaryGo value o r >>= fun _ => Pure.pure r) Q E s₃) E s := by
    rw [hs]
    exact wpAny_operateT (wpAny_mono h (fun r s₃ h₃ => wpAny_bind (wpAny_letTemporaryGo (wpAny_pure h₃))) fun _ _ x => x)
  first
    | exact wpAny_pure (wpAny_bind fin)
    | exact wpAny_bind (wpAny_pure (wpAny_bind fin))
    | exact wpAny_bind fin

theorem Ev.item {value slice : Expr} {pos : Pos} (h : Ev W φ env value (fun o σ₁ => Ev W φ env slice (fun i σ₂ => ∃ a xs k v, o = .ref a ∧ i = .int k ∧ σ₂.H a = some (.lst xs) ∧ lget xs k = some v ∧ xs.length ≤ 1000 ∧ Q v σ₂) σ₁) σ)
    (hs : ∀ a k t, subscripted slice false (.ref a) (.int k t) = operate [.ref a, .int k t] (getItem (.ref a) (.int k t)) := by intros; with_unfolding_all rfl) : Ev W φ env (.Subscript value slice pos) Q σ := fun R s hR =>
  Subscript_ (wpr (h R s hR) (fun o σ₁ h₁ tk₁ r₁ q₁ => by
    refine wpr (q₁ R _ r₁) (fun i σ₂ h₂ tk₂ r₂ q₂ => ?_)
    obtain ⟨a, xs, k, v, ho, hi, hH, hx, hk, q₂⟩ := q₂
    obtain rfl := er_ref ho; obtain ⟨t, rfl⟩ := er_int hi
    obtain ⟨vs, hl, hv⟩ := r₂.list hH
    refine subTail hl.typeIs (Itm.get (W := W) (φ := φ) (Q := Q) hH hx hk q₂ _ _ rfl rfl R { s with heap := h₂, toks := tk₂ } r₂) (hs a k t)))

theorem Ev.sliceTo {value e : Expr} {p pos : Pos} (h : Ev W φ env value (fun o σ₁ => Ev W φ env e (fun i σ₂ => ∃ a xs k, o = .ref a ∧ i = .int k ∧ (σ₂.H a = some (.lst xs) ∨ σ₂.H a = some (.old xs)) ∧ xs.length ≤ 1000 ∧ 0 ≤ k ∧ ∀ b, σ₂.H b = none → Q (.ref b) (σ₂.put b (.lst (xs.take k.toNat)))) σ₁) σ)
    (ht : ∀ o r, letTemporaryGo value o r = Pure.pure () := by intro _ _; rfl) : Ev W φ env (.Subscript value (.Slice none (some e) none p) pos) Q σ := fun R s hR =>
  wpAny_Subscript_list_slice (wpr (h R s hR) (fun o σ₁ h₁ tk₁ r₁ q₁ => by
    refine wpAny_evalPart_none (wpAny_evalPart_some (wpr (q₁ R _ r₁) (fun i σ₂ h₂ tk₂ r₂ q₂ => ?_)))
    obtain ⟨a, xs, k, ho, hi, hH, hk, h0, q₂⟩ := q₂
    obtain rfl := er_ref ho; obtain ⟨t, rfl⟩ := er_int hi
    have : ∃ vs : List Value, h₂.IsList a vs.toArray ∧ vs.map er = xs := hH.elim r₂.list r₂.oldList
    obtain ⟨vs, hl, rfl⟩ := this
    obtain ⟨m, news, D, X⟩ := r₂
    have hk0 : k = ((k.toNat : Nat) : Int) := by omega
    refine ⟨a, vs.toArray, none, some k, rfl, hl, sz _ (by simpa using hk), .none, .int _ _, ?_⟩
    have Y := X.junk { cls := .type "slice", data := .fields #[.none, .int k t, .none] }
    have F' := Y.F.push { cls := .type "list", data := .seq (slicePick vs.toArray none (some k) none) }
    have N' := Y.N.push Y.F { cls := .type "list", data := .seq (slicePick vs.toArray none (some k) none) }
    rw [Heap.size_push] at N'
    rw [hk0, slicePick_upto'] at F' N' ⊢
    have hsz : (h₂.push { cls := .type "slice", data := .fields #[.none, .int k t, .none] }).get? (h₂.objs.size + 1) = none := by
      have := get_size_none (h₂.push { cls := .type "slice", data := .fields #[.none, .int k t, .none] }); rwa [Heap.size_push] at this
    refine ⟨_, _, tk₂, rfl, Y.allocList (vs := vs.take k.toNat) hsz F' (by simpa using N'), ?_⟩
    have := q₂ (h₂.objs.size + 1) (Y.new_none hsz)
    show Q _ _
    rw [List.map_take]
    exact this)) ht

theorem Ev.sliceFrom {value e : Expr} {p pos : Pos} (h : Ev W φ env value (fun o σ₁ => Ev W φ env e (fun i σ₂ => ∃ a xs k, o = .ref a ∧ i = .int k ∧ σ₂.H a = some (.lst xs) ∧ xs.length ≤ 1000 ∧ 0 ≤ k ∧ ∀ b, σ₂.H b = none → Q (.ref b) (σ₂.put b (.lst (xs.drop k.toNat)))) σ₁) σ)
    (ht : ∀ o r, letTemporaryGo value o r = Pure.pure () := by intro _ _; rfl) : Ev W φ env (.Subscript value (.Slice (some e) none none p) pos) Q σ := fun R s hR =>
  wpAny_Subscript_list_slice (wpr (h R s hR) (fun o σ₁ h₁ tk₁ r₁ q₁ => by
    refine wpAny_evalPart_some (wpAny_mono (q₁ R _ r₁) (fun i s₂ ⟨σ₂, h₂, tk₂, e₂, r₂, a, xs, k, ho, hi, hH, hk, h0, q₂⟩ => wpAny_evalPart_none ?_) fun _ _ x => x)
    subst e₂
    obtain rfl := er_ref ho; obtain ⟨t, rfl⟩ := er_int hi
    obtain ⟨vs, hl, rfl⟩ := r₂.list hH
    obtain ⟨m, news, D, X⟩ := r₂
    have hk0 : k = ((k.toNat : Nat) : Int) := by omega
    refine ⟨a, vs.toArray, some k, none, rfl, hl, sz _ (by simpa using hk), .int _ _, .none, ?_⟩
    have Y := X.junk { cls := .type "slice", data := .fields #[.int k t, .none, .none] }
    have F' := Y.F.push { cls := .type "list", data := .seq (slicePick vs.toArray (some k) none none) }
    have N' := Y.N.push Y.F { cls := .type "list", data := .seq (slicePick vs.toArray (some k) none none) }
    rw [Heap.size_push] at N'
    rw [hk0, slicePick_from'] at F' N' ⊢
    have hsz : (h₂.push { cls := .type "slice", data := .fields #[.int k t, .none, .none] }).get? (h₂.objs.size + 1) = none := by
      have := get_size_none (h₂.push { cls := .type "slice", data := .fields #[.int k t, .none, .none] }); rwa [Heap.size_push] at this
    refine ⟨_, _, tk₂, rfl, Y.allocList (vs := vs.drop k.toNat) hsz F' (by simpa using N'), ?_⟩
    have := q₂ (h₂.objs.size + 1) (Y.new_none hsz)
    show Q _ _
    rw [List.map_drop]
    exact this)) ht

-- fields
theorem Att.own (hok : φ.Ok W) {x C : Addr} {fs : List (Str × AV)} {name : Str} {v : AV} (hH : σ.H x = some (.ins C fs)) (hA : AttrOk W C name) (hv : fget name fs = some v) (ho : ∀ w, v ≠ .oth w) (h : Q v σ) : Att W φ (.ref x) name Q σ := fun u e hu => by
  obtain rfl := er_ref hu
  refine fun R s hR => ?_
  obtain ⟨m, news, D, X⟩ := id hR
  obtain ⟨es, n, h1, h2, h3⟩ := X.O x _ hH
  obtain ⟨w, h4, h5⟩ := repD_getL name h3
  obtain ⟨a, ha, hn⟩ := hA.at_
  rw [hv] at h5
  cases w with
  | none => cases h5
  | some w =>
    have hw : er w = v := Option.some.inj h5
    refine get_own X.F hok.X (InstAt.of_news X.N h1 h2) hA.pg hA.hd ha hn h4 ?_ ⟨σ, s.heap, s.toks + 1, rfl, hR, ?_⟩
    · cases w <;> first | rfl | exact absurd hw.symm (ho _)
    · show Q (er w) σ
      rw [hw]; exact h
theorem SetAtt.own (hok : φ.Ok W) {x C : Addr} {fs : List (Str × AV)} {name : Str} {v : AV} {Q : St → Prop} (hH : σ.H x = some (.ins C fs)) (hS : SetOk W C name) (hl : fs.length < 1000) (h : Q (σ.put x (.ins C (fput name v fs)))) : SetAtt W φ (.ref x) name v Q σ := fun u w hu hw => by
  obtain rfl := er_ref hu
  refine fun R s hR => ?_
  obtain ⟨m, news, D, X⟩ := id hR
  obtain ⟨es, n, h1, h2, h3⟩ := X.O x _ hH
  obtain ⟨w', h4, h5⟩ := repD_getL name h3
  have hne : x ≠ D x := fun e' => by have := (X.I x C fs hH).1; rw [← e', hH] at this; cases this
  have e1 := repD_length h3
  have e2 := putL_length name (PyData.keyHash W.w.params name) (.str name (s.toks + 1)) w es
  refine set_dict (es' := _) (n' := _) X.F hok.X (front_news X.N h2) (InstAt.of_news X.N h1 h2) rfl hS.sa hS.po hS.tk hS.hd (by rw [h4]; rfl) rfl front_upd (by omega) fun h' F' N' => ?_
  refine ⟨_, h', _, rfl, ⟨m, _, D, X.turnIns hH F' N' (repD_putL name _ _ w h3)⟩, ?_⟩
  rw [hw]; exact h
end
theorem setL_some : ∀ {l : List Value} {k : Nat} (v : Value), k < l.length → ki_setL l k v = some (l.set k v)
  | [], _, _, h => absurd h (Nat.not_lt_zero _)
  | _ :: _, 0, _, _ => rfl
  | x :: r, k + 1, v, h => by
    have := setL_some (l := r) (k := k) v (by simpa using h)
    unfold ki_setL; rw [this]; rfl
theorem args1 {vs : List Value} {x : AV} (h : vs.map er = [x]) : ∃ u, vs = [u] ∧ er u = x := by
  match vs with
  | [] => cases h
  | [u] => simp only [List.map_cons, List.map_nil, List.cons.injEq, and_true] at h; exact ⟨u, rfl, h⟩
  | _ :: _ :: _ => simp at h
theorem args2 {vs : List Value} {x y : AV} (h : vs.map er = [x, y]) : ∃ u v, vs = [u, v] ∧ er u = x ∧ er v = y := by
  match vs with
  | [] => cases h
  | [_] => simp at h
  | [u, v] => simp only [List.map_cons, List.map_nil, List.cons.injEq, and_true] at h; exact ⟨u, v, rfl, h⟩
  | _ :: _ :: _ :: _ => simp at h
theorem intsAre_of : ∀ {vs : List Value} {ns : List Int}, vs.map er = ns.map AV.int → IntsAre vs ns
  | [], [], _ => .nil
  | [], _ :: _, h => by cases h
  | _ :: _, [], h => by cases h
  | v :: vs, n :: ns, h => by
    simp only [List.map_cons, List.cons.injEq] at h
    obtain ⟨t, rfl⟩ := er_int h.1
    exact .cons n t (intsAre_of h.2)
theorem intsAre_er : ∀ {vs : List Value} {ns : List Int}, IntsAre vs ns → vs.map er = ns.map AV.int
  | _, _, .nil => rfl
  | _, _, .cons n t h => by simp only [List.map_cons, er, intsAre_er h]
theorem strsAre_of : ∀ {vs : List Value} {ns : List Str}, vs.map er = ns.map AV.str → StrsAre vs ns
  | [], [], _ => .nil
  | [], _ :: _, h => by cases h
  | _ :: _, [], h => by cases h
  | v :: vs, n :: ns, h => by
    simp only [List.map_cons, List.cons.injEq] at h
    obtain ⟨t, rfl⟩ := er_str h.1
    exact .cons n t (strsAre_of h.2)

section
variable {φ : Fx} {R : List (Addr × Obj)} {σ : St} {h h' : Heap} {m m' : Str → Option Value} {news news' : List (Addr × Obj)} {D : Addr → Addr}
/-- a list's turn, in the library's form -/
theorem RelW.turnList (X : RelW φ R σ h m news D) {a : Addr} {xs : List AV} {vs : List Value} {c : Nat} (e : σ.H a = some (.lst xs)) (F' : Fr φ.h₀ φ.L h' m) (N' : News φ.h₀ φ.L h' (front a (listOf vs.toArray c) news)) :
    Rel φ R (σ.put a (.lst (vs.map er))) h' := ⟨m, _, D, X.turn e (fun _ _ h => by cases h) (fun _ _ h => by cases h) F' N' fun d => ⟨_, c, .head _, by simp⟩⟩
end

section
variable {W : Wd} {φ : Fx} {σ : St} {env : Env} {Q : AV → St → Prop}

theorem SetItm.lst {a : Addr} {xs : List AV} {k : Int} {v : AV} {Q : St → Prop} (hH : σ.H a = some (.lst xs)) (h0 : 0 ≤ k) (hk : k < xs.length) (hl : xs.length ≤ 1000) (h : Q (σ.put a (.lst (xs.set k.toNat v)))) : SetItm W φ (.ref a) (.int k) v Q σ := fun u j w hu hj hw => by
  obtain rfl := er_ref hu; obtain ⟨t, rfl⟩ := er_int hj
  refine fun R s hR => ?_
  obtain ⟨m, news, D, X⟩ := hR
  obtain ⟨its, n, h1, rfl⟩ := X.O a _ hH
  simp only [List.length_map] at hk hl
  refine ki_set X.F (front_news X.N h1) h0 (by omega) (setL_some w (by omega)) front_upd fun h' F' N' => ?_
  refine ⟨_, h', _, rfl, X.turnList hH F' N', ?_⟩
  rw [List.map_set, hw]; exact h

-- lists' methods
theorem CallA.append {a : Addr} {xs : List AV} {v : AV} (hH : σ.H a = some (.lst xs)) (hl : xs.length ≤ 1000) (h : Q .none (σ.put a (.lst (xs ++ [v])))) : CallA W φ (.builtin "list.append") [.ref a, v] Q σ := fun vs hvs => by
  obtain ⟨u, w, rfl, hv1, hv2⟩ := args2 hvs
  obtain rfl := er_ref hv1
  refine fun R s hR => ?_
  obtain ⟨m, news, D, X⟩ := hR
  obtain ⟨its, n, h1, rfl⟩ := X.O a _ hH
  refine append_K X.F (front_news X.N h1) front_upd (fun h' F' N' => ?_) (sz _ (by simpa using hl))
  refine ⟨_, h', _, rfl, X.turnList (vs := its.toList ++ [w]) hH F' (by rw [show (its.toList ++ [w]).toArray = its.push w from Array.toList_inj.mp (by simp)]; exact N'), ?_⟩
  show Q .none _
  rw [List.map_append, List.map_cons, List.map_nil, hv2]; exact h
theorem CallA.extend {a b : Addr} {xs ys : List AV} (hH : σ.H a = some (.lst xs)) (hB : σ.H b = some (.lst ys)) (hl : xs.length ≤ 1000) (hl2 : ys.length ≤ 1000) (h : Q .none (σ.put a (.lst (xs ++ ys)))) : CallA W φ (.builtin "list.extend") [.ref a, .ref b] Q σ := fun vs hvs => by
  obtain ⟨u, w, rfl, hv1, hv2⟩ := args2 hvs
  obtain rfl := er_ref hv1; obtain rfl := er_ref hv2
  refine fun R s hR => ?_
  obtain ⟨m, news, D, X⟩ := hR
  obtain ⟨its, n, h1, rfl⟩ := X.O a _ hH
  obtain ⟨its2, n2, h2, rfl⟩ := X.O b _ hB
  have s1 : its.size ≤ 1000 := by simpa using hl
  have s2 : its2.size ≤ 1000 := by simpa using hl2
  have hd : ¬(!its.isEmpty && Builtin.List.listTooLong (its.size + its2.size)) = true := by
    simp [Builtin.List.listTooLong, sizeLine]; omega
  by_cases hne : its2.toList = []
  · have hb' : (b, listOf its2 n2) ∈ front a (listOf its n) news := by
      by_cases hab : b = a
      · subst hab
        have e := (X.N _ h1).1.symm.trans (X.N _ h2).1
        rw [← (show PySem.W.listOf its n = PySem.W.listOf its2 n2 from Option.some.inj e)]; exact .head _
      · exact front_mem h2 hab
    refine kxn_extend X.F (front_news X.N h1) hb' hne front_upd hd (sz _ (by simpa using hl)) (by rw [sizeLine_eq]; omega) fun h' F' N' => ?_
    refine ⟨_, h', _, rfl, X.turnList (vs := its.toList) hH F' (by simpa using N'), ?_⟩
    rw [hne, List.map_nil, List.append_nil] at h; exact h
  · have hb' : (b, listOf its2 n2) ∈ front a (listOf its n) news := by
      by_cases hab : b = a
      · subst hab
        have e := (X.N _ h1).1.symm.trans (X.N _ h2).1
        rw [← (show PySem.W.listOf its n = PySem.W.listOf its2 n2 from Option.some.inj e)]; exact .head _
      · exact front_mem h2 hab
    refine kl_extend X.F (front_news X.N h1) hb' rfl (fun e => hne (List.eq_nil_of_length_eq_zero e)) front_upd hd (sz _ (by simpa using hl)) (by rw [sizeLine_eq]; omega) fun h' F' N' => ?_
    refine ⟨_, h', _, rfl, X.turnList hH F' N', ?_⟩
    rw [← List.map_append] at h; exact h

-- built-ins
theorem CallA.len {a : Addr} {xs : List AV} (hH : σ.H a = some (.lst xs)) (hl : xs.length ≤ 1000) (h : Q (.int xs.length) σ) : CallA W φ (.builtin "len") [.ref a] Q σ := fun vs hvs => by
  obtain ⟨u, rfl, hv1⟩ := args1 hvs
  obtain rfl := er_ref hv1
  refine fun R s hR => ?_
  obtain ⟨vs, hl', rfl⟩ := hR.list hH
  simp only [List.length_map] at hl h
  refine Calls.call_len_list hl' (by simp; omega) ⟨σ, s.heap, _, rfl, hR, ?_⟩
  simpa [er] using h
theorem CallA.max {a b : Int} (h : Q (.int (max a b)) σ) : CallA W φ (.builtin "max") [.int a, .int b] Q σ := fun vs hvs => by
  obtain ⟨u, w, rfl, hv1, hv2⟩ := args2 hvs
  obtain ⟨t, rfl⟩ := er_int hv1; obtain ⟨t', rfl⟩ := er_int hv2
  refine fun R s hR => ?_
  obtain ⟨m, news, D, X⟩ := hR
  refine max_two_ints rfl fun h' tk hk => ?_
  refine ⟨σ, h', tk, rfl, ⟨m, news, D, X.grown hk⟩, ?_⟩
  by_cases c : b > a
  · rw [if_pos c]; rwa [show Max.max a b = b by omega] at h
  · rw [if_neg c]; rwa [show Max.max a b = a by omega] at h
theorem CallA.min {a b : Int} (h : Q (.int (min a b)) σ) : CallA W φ (.builtin "min") [.int a, .int b] Q σ := fun vs hvs => by
  obtain ⟨u, w, rfl, hv1, hv2⟩ := args2 hvs
  obtain ⟨t, rfl⟩ := er_int hv1; obtain ⟨t', rfl⟩ := er_int hv2
  refine fun R s hR => ?_
  obtain ⟨m, news, D, X⟩ := hR
  refine min_two_ints rfl fun h' tk hk => ?_
  refine ⟨σ, h', tk, rfl, ⟨m, news, D, X.grown hk⟩, ?_⟩
  by_cases c : b < a
  · rw [if_pos c]; rwa [show Min.min a b = b by omega] at h
  · rw [if_neg c]; rwa [show Min.min a b = a by omega] at h
theorem CallA.abs {a : Int} (h : Q (.int a.natAbs) σ) : CallA W φ (.builtin "abs") [.int a] Q σ := fun vs hvs => by
  obtain ⟨u, rfl, hv1⟩ := args1 hvs
  obtain ⟨t, rfl⟩ := er_int hv1
  refine fun R s hR => ?_
  refine call_abs_int fun u tk => ⟨σ, s.heap, tk, rfl, hR, ?_⟩
  rwa [show (a.natAbs : Int) = if a < 0 then -a else a by split <;> omega] at h
theorem CallA.int {a : Int} (h : Q (.int a) σ) : CallA W φ (.type "int") [.int a] Q σ := fun vs hvs => by
  obtain ⟨u, rfl, hv1⟩ := args1 hvs
  obtain ⟨t, rfl⟩ := er_int hv1
  exact fun R s hR => call_int_int ⟨σ, s.heap, s.toks, rfl, hR, h⟩
theorem CallA.range {n : Int} (h : ∀ a, σ.H a = none → Q (.ref a) (σ.put a (.rng 0 n))) : CallA W φ (.type "range") [.int n] Q σ := fun vs hvs => by
  obtain ⟨u, rfl, hv1⟩ := args1 hvs
  obtain ⟨t, rfl⟩ := er_int hv1
  refine fun R s hR => ?_
  obtain ⟨m, news, D, X⟩ := hR
  exact call_range_1 ⟨_, _, _, rfl, ⟨m, _, D, X.alloc (o := .rng 0 n) (get_size_none _) (X.F.push _) (X.N.push X.F _) (fun d => ⟨_, _, _, .head _⟩) (fun _ _ e => by cases e)⟩, h _ (X.new_none (get_size_none _))⟩
theorem CallA.listRange {r : Addr} {a b : Int} (hH : σ.H r = some (.rng a b)) (ha : -(2 ^ 62) ≤ a) (ha' : a < 2 ^ 62) (hb : -(2 ^ 62) ≤ b) (hb' : b < 2 ^ 62) (hn : (b - a).toNat ≤ 1000) (h : ∀ c, σ.H c = none → Q (.ref c) (σ.put c (.lst (rngL a b)))) : CallA W φ (.type "list") [.ref r] Q σ := fun vs hvs => by
  obtain ⟨u, rfl, hv1⟩ := args1 hvs
  obtain rfl := er_ref hv1
  refine fun R s hR => ?_
  obtain ⟨m, news, D, X⟩ := hR
  obtain ⟨t, u, v, hm⟩ := X.O r _ hH
  refine call_list_range rfl (X.N _ hm).1 (small_one ha ha' hb hb') (rangeSize_nat a b) (by omega) fun h' tk acc c' hk hS hI => ?_
  have Y := X.grown hk
  have hnew : News φ.h₀ φ.L h' ((s.heap.objs.size, listOf acc c') :: news) := fun p hp => by
    rcases List.mem_cons.mp hp with rfl | hp
    · refine ⟨hS, Nat.ne_of_gt X.F.ns.lt, ?_⟩
      cases e : φ.h₀.get? s.heap.objs.size with
      | none => rfl
      | some o => exact absurd (Heap.lt_size (X.F.keep _ _ e)) (Nat.lt_irrefl _)
    · exact Y.N p hp
  have e : acc.toList.map er = rngL a b := by
    apply List.ext_getElem?
    intro i
    simp only [rngL, List.getElem?_map]
    by_cases hi : i < (b - a).toNat
    · have hlt : i < acc.size := by rw [hI.1]; exact hi
      obtain ⟨t, e1⟩ := hI.2 i acc[i] (Array.getElem?_eq_getElem hlt)
      rw [List.getElem?_range hi, Array.getElem?_toList, Array.getElem?_eq_getElem hlt, e1]
      simp [er]
    · rw [List.getElem?_eq_none (by simp [hI.1]; omega), List.getElem?_eq_none (by simp; omega)]
      rfl
  exact ⟨_, h', tk, rfl, ⟨m, _, D, X.allocF (o := .lst (rngL a b)) (X.fresh (get_size_none _)) Y.F hnew (fun d => ⟨acc, c', .head _, e⟩) (fun _ _ e => by cases e)⟩, h _ (X.new_none (get_size_none _))⟩
theorem CallA.sorted {a : Addr} {ns : List Int} (hH : σ.H a = some (.lst (ns.map AV.int))) (hl : ns.length < 64) (h : ∀ (b : Addr) (ms : List Int), σ.H b = none → ms.Perm ns → ms.Pairwise (· ≤ ·) → Q (.ref b) (σ.put b (.lst (ms.map AV.int)))) : CallA W φ (.builtin "sorted") [.ref a] Q σ := fun vs hvs => by
  obtain ⟨u, rfl, hv1⟩ := args1 hvs
  obtain rfl := er_ref hv1
  refine fun R s hR => ?_
  obtain ⟨vs, hl', hv⟩ := hR.list hH
  have hi := intsAre_of hv
  have e1 := hi.length
  obtain ⟨m, news, D, X⟩ := hR
  refine sorted_N X.F X.N hl' hi (by omega) fun h' vs' ns' e F' N' a1 a2 a3 => ?_
  have hsz : s.heap.get? (s.heap.objs.size + 1) = none := by
    cases e : s.heap.get? (s.heap.objs.size + 1) with
    | none => rfl
    | some o => have := Heap.lt_size e; exact absurd this (by show ¬ @LT.lt Nat _ _ _; omega)
  refine ⟨_, h', _, rfl, X.allocList (vs := vs') hsz F' N', ?_⟩
  have := h _ ns' (X.new_none hsz) a2 a3
  rw [intsAre_er a1]; exact this

-- lists' operators
theorem Bin.cat {a b : Addr} {xs ys : List AV} (hA : σ.H a = some (.lst xs)) (hB : σ.H b = some (.lst ys)) (hl : xs.length ≤ 1000) (hl2 : ys.length ≤ 1000) (h : ∀ c, σ.H c = none → Q (.ref c) (σ.put c (.lst (xs ++ ys)))) : Bin W φ .Add (.ref a) (.ref b) Q σ := fun u v hu hv => by
  obtain rfl := er_ref hu; obtain rfl := er_ref hv
  refine fun R s hR => ?_
  obtain ⟨vs, l1, rfl⟩ := hR.list hA
  obtain ⟨ws, l2, rfl⟩ := hR.list hB
  simp only [List.length_map] at hl hl2
  obtain ⟨m, news, D, X⟩ := hR
  refine add_arrays X.F X.N l1 l2 (fun h' F' N' => ?_) (by rw [sizeLine_eq]; simp; omega)
  refine ⟨_, h', _, rfl, X.allocList (vs := vs ++ ws) (get_size_none _) F' N', ?_⟩
  rw [List.map_append]; exact h _ (X.new_none (get_size_none _))
theorem Bin.rep {a : Addr} {k : Int} {xs : List AV} (hA : σ.H a = some (.lst xs)) (hk : -(2 ^ 63 : Int) ≤ k) (hk' : k < 2 ^ 63) (hl : xs.length * k.toNat ≤ 256) (h : ∀ c, σ.H c = none → Q (.ref c) (σ.put c (.lst (List.replicate k.toNat xs).flatten))) : Bin W φ .Mult (.ref a) (.int k) Q σ := fun u v hu hv => by
  obtain rfl := er_ref hu; obtain ⟨t, rfl⟩ := er_int hv
  refine fun R s hR => ?_
  obtain ⟨vs, l1, rfl⟩ := hR.list hA
  simp only [List.length_map] at hl
  obtain ⟨m, news, D, X⟩ := hR
  refine KMa.mul X.F X.N l1 hk hk' hl rfl fun c h' F' N' l9 => ?_
  have hc : FreshA φ news c := ⟨fun p hp => Nat.ne_of_lt (l9 p hp), by
    cases e : φ.base.get? c with
    | none => rfl
    | some o => have := (N' _ (.head _)).2.2; rw [X.B _ _ e] at this; cases this⟩
  refine ⟨_, h', _, rfl, X.allocListF (vs := (List.replicate k.toNat vs).flatten) hc F' N', ?_⟩
  have e : ((List.replicate k.toNat vs).flatten).map er = (List.replicate k.toNat (vs.map er)).flatten := by
    rw [List.map_flatten, List.map_replicate]
  rw [e]; exact h _ (X.newH hc)
end
section
variable {W : Wd} {φ : Fx} {σ : St} {env : Env} {Q : AV → St → Prop}

-- comparisons of lists
theorem Cmp.eqL {a b : Addr} {xs ys : List Int} (hA : σ.H a = some (.lst (xs.map AV.int))) (hB : σ.H b = some (.lst (ys.map AV.int))) (hu : φ.un + 64 < cLine) (h : Q (.bool (decide (xs = ys))) σ) : Cmp W φ .Eq (.ref a) (.ref b) Q σ := fun u v hu' hv => by
  obtain rfl := er_ref hu'; obtain rfl := er_ref hv
  refine fun R s hR => ?_
  obtain ⟨vs, l1, e1⟩ := hR.list hA
  obtain ⟨ws, l2, e2⟩ := hR.list hB
  exact eq_intsK l1 (intsAre_of e1) l2 (intsAre_of e2) hu ⟨σ, s.heap, s.toks, rfl, hR, h⟩
theorem Cmp.neL {a b : Addr} {xs ys : List Int} (hA : σ.H a = some (.lst (xs.map AV.int))) (hB : σ.H b = some (.lst (ys.map AV.int))) (hu : φ.un + 64 < cLine) (h : Q (.bool (!decide (xs = ys))) σ) : Cmp W φ .NotEq (.ref a) (.ref b) Q σ := fun u v hu' hv => by
  obtain rfl := er_ref hu'; obtain rfl := er_ref hv
  refine fun R s hR => ?_
  obtain ⟨vs, l1, e1⟩ := hR.list hA
  obtain ⟨ws, l2, e2⟩ := hR.list hB
  exact ne_intsK l1 (intsAre_of e1) l2 (intsAre_of e2) hu ⟨σ, s.heap, s.toks, rfl, hR, h⟩
/-- a list against an empty one -/
theorem Cmp.neNil {a b : Addr} {xs : List AV} (hA : σ.H a = some (.lst xs)) (hB : σ.H b = some (.lst [])) (hu : φ.un + 64 < cLine) (h : Q (.bool (!xs.isEmpty)) σ) : Cmp W φ .NotEq (.ref a) (.ref b) Q σ := by
  cases xs with
  | nil => exact Cmp.neL (xs := []) (ys := []) hA hB hu (by simpa using h)
  | cons x xs =>
    intro u v hu' hv
    obtain rfl := er_ref hu'; obtain rfl := er_ref hv
    refine fun R s hR => ?_
    obtain ⟨vs, l1, e1⟩ := hR.list hA
    obtain ⟨ws, l2, e2⟩ := hR.list hB
    have hne : (vs.toArray.size != ws.toArray.size) = true := by
      have e3 := congrArg List.length e1
      have e4 := congrArg List.length e2
      simp at e3 e4 ⊢
      rw [e4]; simp; intro e5; rw [e5] at e3; cases e3
    refine SeqAt.RcNeAt.lists_lengths l1 l2 hne (by show φ.un < cLine; omega) _ _ _ _ ⟨σ, s.heap, s.toks, rfl, hR, h⟩
theorem Cmp.inL {a : Addr} {k : Str} {ys : List Str} (hA : σ.H a = some (.lst (ys.map AV.str))) (h : Q (.bool (ys.any (· == k))) σ) : Cmp W φ .In (.str k) (.ref a) Q σ := fun u v hu hv => by
  obtain ⟨t, rfl⟩ := er_str hu; obtain rfl := er_ref hv
  refine fun R s hR => ?_
  obtain ⟨vs, l1, e1⟩ := hR.list hA
  exact in_list_strs l1 (strsAre_of e1) ⟨σ, s.heap, s.toks, rfl, hR, h⟩
theorem Cmp.inT {a : Addr} {k : Str} {ys : List Str} (hA : σ.H a = some (.tup (ys.map AV.str))) (h : Q (.bool (ys.any (· == k))) σ) : Cmp W φ .In (.str k) (.ref a) Q σ := fun u v hu hv => by
  obtain ⟨t, rfl⟩ := er_str hu; obtain rfl := er_ref hv
  refine fun R s hR => ?_
  obtain ⟨m, news, D, X⟩ := id hR
  obtain ⟨its, n, h1, h2⟩ := X.O a _ hA
  exact in_tuple_strs ⟨_, (X.N _ h1).1, rfl, n, rfl⟩ (strsAre_of h2) ⟨σ, s.heap, s.toks, rfl, hR, h⟩
theorem Ev.tuple {elts : List Expr} {k : Nat} {pos : Pos} (h : Evs W φ env pos elts (fun xs σ₁ => xs.length ≤ 1000 ∧ ∀ a, σ₁.H a = none → Q (.ref a) (σ₁.put a (.tup xs))) σ) : Ev W φ env (.Tuple elts k pos) Q σ :=
  Tr.seq (t₁ := spliced (backTo pos (starEach elts env))) (t₂ := fun vs => PySem.newTuple vs) (fun s Q' E' h => Tuple_ h) (h.mono fun vs σ₁ q => fun R s hR => by
    obtain ⟨m, news, D, X⟩ := hR
    refine newTuple_N X.F X.N (fun h' F' N' => ?_) (sz _ (by simpa using q.1))
    exact ⟨_, h', s.toks, rfl, ⟨m, _, D, X.alloc (o := .tup (vs.map er)) (get_size_none _) F' N' (fun d => ⟨_, _, .head _, by simp⟩) (fun _ _ e => by cases e)⟩, q.2 _ (X.new_none (get_size_none _))⟩)

-- calls
theorem Ev.callF (hok : φ.Ok W) {f : Str} {a : Addr} {p pos : Pos} {e : Expr} {rest : List Expr} (hg : GN W φ env f (.ref a)) (hk : keepIn W.K (.ref a) = true) (h : Evs W φ env pos (e :: rest) (fun xs σ₁ => CallA W φ (.ref a) xs Q σ₁) σ)
    (he : starEach (e :: rest) env = (false, eval e env) :: starEach rest env := by rfl) (hplain : (backTo pos (starEach rest env)).any (·.1) = false := by rfl) : Ev W φ env (.Call (.Name f p) (e :: rest) [] pos) Q σ := fun R s hR =>
  Call_ (hg p R σ s _ _ hR (callWith_K (first := []) hok.X hk (wpr (h R s hR) (fun vs σ₁ h₁ tk₁ r₁ q₁ => by
    refine ⟨?_, ?_⟩
    · obtain ⟨m, news, D, X⟩ := r₁
      exact hok.X.keeps X.F.keep
    · exact (q₁ vs rfl R { s with heap := h₁, toks := tk₁ } r₁))) he hplain))
theorem Ev.callF0 (hok : φ.Ok W) {f : Str} {a : Addr} {p pos : Pos} (hg : GN W φ env f (.ref a)) (hk : keepIn W.K (.ref a) = true) (h : CallA W φ (.ref a) [] Q σ) : Ev W φ env (.Call (.Name f p) [] [] pos) Q σ := fun R s hR =>
  Call_ (hg p R σ s _ _ hR (callWith_K0 (K := W.K) (by obtain ⟨m, news, D, X⟩ := hR; exact hok.X.keeps X.F.keep) hk (h [] rfl R s hR)))
theorem Ev.callB {f : Str} {id : String} {p pos : Pos} {e : Expr} {rest : List Expr} (hg : GN W φ env f (.builtin id)) (h : Evs W φ env pos (e :: rest) (fun xs σ₁ => CallA W φ (.builtin id) xs Q σ₁) σ)
    (he : starEach (e :: rest) env = (false, eval e env) :: starEach rest env := by rfl) (hplain : (backTo pos (starEach rest env)).any (·.1) = false := by rfl) : Ev W φ env (.Call (.Name f p) (e :: rest) [] pos) Q σ := fun R s hR =>
  Call_ (hg p R σ s _ _ hR (callWith_builtin1 (wpr (h R s hR) (fun vs σ₁ h₁ tk₁ r₁ q₁ => by
    exact (q₁ vs rfl R { s with heap := h₁, toks := tk₁ } r₁))) he hplain))
theorem Ev.callT {f : Str} {T : String} {p pos : Pos} {e : Expr} {rest : List Expr} (hg : GN W φ env f (.type T)) (h : Evs W φ env pos (e :: rest) (fun xs σ₁ => CallA W φ (.type T) xs Q σ₁) σ)
    (he : starEach (e :: rest) env = (false, eval e env) :: starEach rest env := by rfl) (hplain : (backTo pos (starEach rest env)).any (·.1) = false := by rfl) : Ev W φ env (.Call (.Name f p) (e :: rest) [] pos) Q σ := fun R s hR =>
  Call_ (hg p R σ s _ _ hR (PyProof.Rows.callWith_type1 (wpr (h R s hR) (fun vs σ₁ h₁ tk₁ r₁ q₁ => by
    exact (q₁ vs rfl R { s with heap := h₁, toks := tk₁ } r₁))) he hplain))
theorem listMeth {o e : Expr} {pl : Sem Bool} {name : Str} {id : String} {apos pos : Pos} (slot : Slot "list" name id) (hty : typeOf (.builtin id) = Pure.pure (.type "method_descriptor"))
    (h : Ev W φ env o (fun x σ₁ => ∃ a xs, x = .ref a ∧ σ₁.H a = some (.lst xs) ∧ Evs W φ env pos [e] (fun vs σ₂ => CallA W φ (.builtin id) (.ref a :: vs) Q σ₂) σ₁) σ)
    (hm : eval (.Call (.Attribute o name apos) [e] [] pos) env = (do
      let ov ← eval o env
      standAt apos.atName
      let (f, first) ← holding [ov] (getMethod ov name pl)
      callWith pos f first (backTo pos (starEach [e] env)) []) := by rfl)
    (he : starEach [e] env = (false, eval e env) :: starEach [] env := by rfl) : Ev W φ env (.Call (.Attribute o name apos) [e] [] pos) Q σ := fun R s hR =>
  MethodCall_ (wpr (h R s hR) (fun ov σ₁ h₁ tk₁ r₁ q₁ => by
    obtain ⟨a, xs, hx, hH, q₁⟩ := q₁
    obtain rfl := er_ref hx
    obtain ⟨m, news, D, X⟩ := r₁.it
    obtain ⟨its, n, hm, _⟩ := X.O a _ hH
    refine kl_method X.N hm slot hty ?_
    exact callWith_method1 (wpr (q₁ R _ r₁) (fun vs σ₂ h₂ tk₂ r₂ q₂ => by
      exact (q₂ (.ref a :: vs) rfl R { s with heap := h₂, toks := tk₂ } r₂))) he)) hm
structure MethOk (W : Wd) (C : Addr) (name : Str) (f : Addr) : Prop where
  pg : plainGet W.K C name = true
  fi : findIn W.K (.ref C) name = some (some (.ref f))
  fn : isFn W.K (.ref f) = true
  kp : keepIn W.K (.ref f) = true
theorem Ev.method (hok : φ.Ok W) {o e : Expr} {pl : Sem Bool} {rest : List Expr} {name : Str} {apos pos : Pos}
    (h : Ev W φ env o (fun x σ₁ => ∃ a C fs f, x = .ref a ∧ σ₁.H a = some (.ins C fs) ∧ fget name fs = none ∧ MethOk W C name f ∧ Evs W φ env pos (e :: rest) (fun vs σ₂ => CallA W φ (.ref f) (.ref a :: vs) Q σ₂) σ₁) σ)
    (hm : eval (.Call (.Attribute o name apos) (e :: rest) [] pos) env = (do
      let ov ← eval o env
      standAt apos.atName
      let (f, first) ← holding [ov] (getMethod ov name pl)
      callWith pos f first (backTo pos (starEach (e :: rest) env)) []) := by rfl)
    (he : starEach (e :: rest) env = (false, eval e env) :: starEach rest env := by rfl) (hplain : (backTo pos (starEach rest env)).any (·.1) = false := by rfl) : Ev W φ env (.Call (.Attribute o name apos) (e :: rest) [] pos) Q σ := fun R s hR =>
  MethodCall_ (wpr (h R s hR) (fun ov σ₁ h₁ tk₁ r₁ q₁ => by
    obtain ⟨a, C, fs, f, hx, hH, hn, hM, q₁⟩ := q₁
    obtain rfl := er_ref hx
    obtain ⟨m, news, D, X⟩ := r₁.it
    obtain ⟨es, n, m1, m2, m3⟩ := X.O a _ hH
    obtain ⟨u, g1, g2⟩ := repD_getL name m3
    rw [hn] at g2
    have g3 : getL name es = some none := by
      cases u with
      | none => exact g1
      | some u => cases g2
    refine method_inst X.F hok.X (InstAt.of_news X.N m1 m2) hM.pg hM.fi hM.fn g3 ?_
    refine callWith_K (first := [.ref a]) hok.X hM.kp (wpr (q₁ R _ r₁) (fun vs σ₂ h₂ tk₂ r₂ q₂ => ?_)) he hplain
    refine ⟨?_, ?_⟩
    · obtain ⟨m, news, D, X⟩ := r₂
      exact hok.X.keeps X.F.keep
    · exact (q₂ (.ref a :: vs) rfl R { s with heap := h₂, toks := tk₂ } r₂))) hm
end

-- statements
section
variable {W : Wd} {φ : Fx} {σ : St} {Q : AF → St → Prop}
theorem Ex1.assign (hok : φ.Ok W) {x : Str} {p pos : Pos} {value : Expr} (hx : φ.cs.names.lookup x = some .local) (h : Ev W φ φ.env value (fun v σ₁ => Q .next (σ₁.set x v)) σ)
    (hs : swapsWith value (some (.Name x p)) pos.line φ.env = Pure.pure false := by rfl) : Ex1 W φ (.Assign [.Name x p] value pos) Q σ := fun R s hR =>
  wpAny_Assign_Name (wpr (h R s hR) (fun v σ₁ h₁ tk₁ r₁ q₁ => by
    exact (Tr.store hok (Q := fun _ σ' => Q .next σ') hx q₁ R { s with heap := h₁, toks := tk₁ } r₁))) hs
theorem Tr.storeC (hok : φ.Ok W) {x : Str} {c : Addr} {v : Value} {v₀ : Option AV} {Q : Unit → St → Prop} (hx : φ.cs.names.lookup x = some .cell) (hc : φ.cl.lookup x = some c) (hH : σ.H c = some (.cell v₀)) (h : Q () (σ.put c (.cell (some (er v))))) : Tr W φ (storeName φ.env x v) Q σ := fun R s hR => by
  obtain ⟨m, news, D, X⟩ := hR
  obtain ⟨o, u, h1, h2, h3⟩ := X.O c _ hH
  refine storeX_C X.F (front_news X.N h1) hc (.head fun p hp => by simpa using (List.mem_filter.mp hp).2) h2 (fun h' o' F' N' d' => ?_) hok.k hx
  exact ⟨_, h', _, rfl, ⟨m, _, D, X.turn (o' := .cell (some (er v))) hH (fun _ _ e => by cases e) (fun _ _ e => by cases e) F' N' fun d => ⟨o', some v, .head _, d', rfl⟩⟩, h⟩
theorem Ex1.assignC (hok : φ.Ok W) {x : Str} {c : Addr} {p pos : Pos} {value : Expr} (hx : φ.cs.names.lookup x = some .cell) (hc : φ.cl.lookup x = some c) (h : Ev W φ φ.env value (fun v σ₁ => (∃ v₀, σ₁.H c = some (.cell v₀)) ∧ Q .next (σ₁.put c (.cell (some v)))) σ)
    (hs : swapsWith value (some (.Name x p)) pos.line φ.env = Pure.pure false := by rfl) : Ex1 W φ (.Assign [.Name x p] value pos) Q σ := fun R s hR =>
  wpAny_Assign_Name (wpr (h R s hR) (fun v σ₁ h₁ tk₁ r₁ q₁ => by
    obtain ⟨⟨v₀, hH⟩, q₁⟩ := q₁
    exact (Tr.storeC hok (Q := fun _ σ' => Q .next σ') hx hc hH q₁ R { s with heap := h₁, toks := tk₁ } r₁))) hs
theorem Ex1.assignAttr {o : Expr} {name : Str} {p pos : Pos} {value : Expr} (h : Ev W φ φ.env value (fun v σ₁ => Ev W φ φ.env o (fun x σ₂ => SetAtt W φ x name v (Q .next) σ₂) σ₁) σ)
    (hs : swapsWith value (some (.Attribute o name p)) pos.line φ.env = Pure.pure false := by rfl) : Ex1 W φ (.Assign [.Attribute o name p] value pos) Q σ := fun R s hR =>
  plainObj_wpAny_Assign_Attribute (wpr (h R s hR) (fun v σ₁ h₁ tk₁ r₁ q₁ => by
    exact wpr (q₁ R _ r₁) (fun x σ₂ h₂ tk₂ r₂ q₂ => by
      exact (q₂ x v rfl rfl R { s with heap := h₂, toks := tk₂ } r₂)))) hs
theorem Ex1.assignItem {o i : Expr} {p pos : Pos} {value : Expr} (h : Ev W φ φ.env value (fun v σ₁ => Ev W φ φ.env o (fun x σ₂ => Ev W φ φ.env i (fun j σ₃ => SetItm W φ x j v (Q .next) σ₃) σ₂) σ₁) σ)
    (hs : swapsWith value (some (.Subscript o i p)) pos.line φ.env = Pure.pure false := by rfl) : Ex1 W φ (.Assign [.Subscript o i p] value pos) Q σ := fun R s hR =>
  wpAny_Assign_Subscript (wpr (h R s hR) (fun v σ₁ h₁ tk₁ r₁ q₁ => by
    exact wpr (q₁ R _ r₁) (fun x σ₂ h₂ tk₂ r₂ q₂ => by
      exact wpr (q₂ R _ r₂) (fun j σ₃ h₃ tk₃ r₃ q₃ => by
        exact (q₃ x j v rfl rfl rfl R { s with heap := h₃, toks := tk₃ } r₃))))) hs
theorem Ex1.aug (hok : φ.Ok W) {x : Str} {v : AV} {op : Operator} {p pos : Pos} {value : Expr} (hx : φ.cs.names.lookup x = some .local) (hv : σ.m x = some v)
    (h : Ev W φ φ.env value (fun w σ₁ => Ipl W φ op v w (fun r σ₂ => Q .next (σ₂.set x r)) σ₁) σ) : Ex1 W φ (.AugAssign (.Name x p) op value pos) Q σ := fun R s hR =>
  wpAny_AugAssign_Name (wpr (Tr.ldn (Q := fun a σ₁ => a = v ∧ σ₁ = σ) hok hx hv ⟨rfl, rfl⟩ R s hR) (fun old σ₀ h₀ tk₀ r₀ q₀ => by
    obtain ⟨q₀, q₀'⟩ := q₀
    subst q₀'
    exact wpr (h R _ r₀) (fun w σ₁ h₁ tk₁ r₁ q₁ => by
      exact wpr (q₁ old w q₀ rfl R _ r₁) (fun r σ₂ h₂ tk₂ r₂ q₂ => by
        exact (Tr.store hok (Q := fun _ σ' => Q .next σ') hx q₂ R { s with heap := h₂, toks := tk₂ } r₂)))))
theorem Ex1.augItem {o i : Expr} {op : Operator} {p pos : Pos} {value : Expr}
    (h : Ev W φ φ.env o (fun x σ₁ => Ev W φ φ.env i (fun j σ₂ => Itm W φ x j (fun old σ₃ => Ev W φ φ.env value (fun w σ₄ => Ipl W φ op old w (fun r σ₅ => SetItm W φ x j r (Q .next) σ₅) σ₄) σ₃) σ₂) σ₁) σ)
    (hi : ∀ ov iv new, augStore i ov iv new = (do holding [new, ov, iv] (setItem ov iv new); release [new, ov, iv] []; Pure.pure .next) := by intros; rfl) : Ex1 W φ (.AugAssign (.Subscript o i p) op value pos) Q σ := fun R s hR =>
  wpAny_AugAssign_SubscriptAny (wpr (h R s hR) (fun x σ₁ h₁ tk₁ r₁ q₁ => by
    exact wpr (q₁ R _ r₁) (fun j σ₂ h₂ tk₂ r₂ q₂ => by
      exact wpr (q₂ x j rfl rfl R _ r₂) (fun old σ₃ h₃ tk₃ r₃ q₃ => by
        exact wpr (q₃ R _ r₃) (fun w σ₄ h₄ tk₄ r₄ q₄ => by
          exact wpr (q₄ old w rfl rfl R _ r₄) (fun r σ₅ h₅ tk₅ r₅ q₅ => by
            exact (q₅ x j r rfl rfl rfl R { s with heap := h₅, toks := tk₅ } r₅))))))) hi
theorem Ex1.augAttr {o : Expr} {name : Str} {op : Operator} {p pos : Pos} {value : Expr}
    (h : Ev W φ φ.env o (fun x σ₁ => Att W φ x name (fun old σ₂ => Ev W φ φ.env value (fun w σ₃ => Ipl W φ op old w (fun r σ₄ => SetAtt W φ x name r (Q .next) σ₄) σ₃) σ₂) σ₁) σ) : Ex1 W φ (.AugAssign (.Attribute o name p) op value pos) Q σ := fun R s hR =>
  wpAny_AugAssign_AttributeAny (wpr (h R s hR) (fun x σ₁ h₁ tk₁ r₁ q₁ => by
    exact wpr (q₁ x true rfl R _ r₁) (fun old σ₂ h₂ tk₂ r₂ q₂ => by
      exact wpr (q₂ R _ r₂) (fun w σ₃ h₃ tk₃ r₃ q₃ => by
        exact wpr (q₃ old w rfl rfl R _ r₃) (fun r σ₄ h₄ tk₄ r₄ q₄ => by
          exact (q₄ x r rfl rfl R { s with heap := h₄, toks := tk₄ } r₄))))))
theorem Ex1.expr {e : Expr} {pos : Pos} (h : Ev W φ φ.env e (fun v σ₁ => v = .none ∧ Q .next σ₁) σ) (hi : interactive φ.env = false := by rfl) (hs : swapsWith e none pos.line φ.env = Pure.pure false := by rfl) : Ex1 W φ (.Expr e pos) Q σ := fun R s hR =>
  wpAny_Expr (wpAny_mono (h R s hR) (fun v s₁ ⟨σ₁, h₁, tk₁, e₁, r₁, q₁, q₁'⟩ => by
    obtain rfl := er_none q₁
    exact ⟨σ₁, h₁, tk₁, e₁, r₁, q₁'⟩) fun _ _ x => x) hi hs
end

-- a def's call
def amap (binds : List (Str × Value)) : Str → Option AV := fun y => (binds.reverse.lookup y).map er
def retQ (P : AV → (Addr → Option AO) → Prop) : AF → St → Prop
  | .ret v, σ => P v σ.H
  | _, σ => P .none σ.H

structure FnAt (W : Wd) (f : Addr) (name qual : Str) (params : Arguments) (body : List Stmt) (scope : Scope) (dV kV doc pm : Value) (an : Option Addr) (cdv ct oc : Value) (od : Option Addr) (osl : Array (Option Value)) : Prop where
  ho : W.K.lookup f = some ⟨oc, od, .func (fnOf name qual params body scope dV kV doc pm an cdv ct), osl⟩
  hcd : codeIn W.K cdv qual = true
  hco : scope.isCoroutine = false
  hgen : scope.isGenerator = false
  hk : scope.kind = .function
  hcell : ∀ x ∈ scope.names, x.2 ≠ .cell

section
variable {W : Wd} {φ : Fx} {σ : St} {f : Addr} {name qual : Str} {params : Arguments} {body : List Stmt} {scope : Scope} {dV kV doc pm : Value} {an : Option Addr} {cdv ct oc : Value} {od : Option Addr} {osl : Array (Option Value)}

theorem code_fn (hok : φ.Ok W) (hf : FnAt W f name qual params body scope dV kV doc pm an cdv ct oc od osl) (hroom : φ.dp < recursionLimit) {args : Args} {binds : List (Str × Value)}
    (hbind : ∀ s : Shared, W.K.In s.heap → BindsTo s (fnOf name qual params body scope dV kV doc pm an cdv ct) args binds) (hloc : ∀ y ∈ binds, scope.names.lookup y.1 = some .local)
    {P : AV → (Addr → Option AO) → Prop}
    (h : ∀ φ' : Fx, φ'.Ok W → φ'.cs = scope → φ'.cl = [] → φ'.dp = φ.dp + 1 → φ'.un = φ.un + 3 → Exs W φ' body (retQ P) ⟨amap binds, σ.H⟩)
    {R : List (Addr × Obj)} {s : Shared} (hR : Rel φ R σ s.heap) {Rr : Result → Shared → Prop}
    (post : ∀ v H' h' tk, Rel φ R ⟨σ.m, H'⟩ h' → P (er v) H' → Rr (.ok (.ret v)) { s with heap := h', toks := tk }) : codeAny (model W.prog W.w) φ.A (.call (.ref f) args) Rr s := by
  obtain ⟨m, news, D, X⟩ := hR
  have KI := hok.X.keeps X.F.keep
  refine callX_plain (env := φ.env) (outer := φ.outer) (cl := []) hok.B X.F X.N hok.T.nolimit rfl rfl hok.k (KI _ _ hf.ho) rfl (codeRec_of KI hf.hcd) hroom (hbind s KI) hloc ?_ hf.hcell hf.hco hf.hgen hf.hk
  intro g L' h₁ FG F' N' B' st lt
  let φ' : Fx := { dp := φ.dp + 1, un := φ.un + 3, gd := φ.gd, cn := qual, cs := scope, L := L', a := f, ccd := cdv, cl := [], outer := φ.env :: φ.outer, A₀ := φ.A, base := φ.base, h₀ := g, fix := [] }
  have hok' : φ'.Ok W := ⟨B', hok.X.keeps st, hok.T.keeps st, hf.hk⟩
  have X' : RelW φ' R ⟨amap binds, σ.H⟩ h₁ (fun y => binds.reverse.lookup y) news D := {
    B := fun b o e => st b o (X.B b o e)
    F := F'
    N := N'
    V := fun x v e => by
      simp only [amap] at e
      cases hl : List.lookup x binds.reverse with
      | none => rw [hl] at e; cases e
      | some u => rw [hl] at e; exact ⟨u, rfl, Option.some.inj e⟩
    O := X.O
    I := X.I
    S := X.S
    Y := fun p hp => nomatch hp }
  refine wpr (h φ' hok' rfl rfl rfl rfl R { s with heap := h₁, toks := s.toks + binds.length } ⟨_, _, _, X'⟩) (fun fl σ₂ h₂ tk₂ r₂ q₂ => ?_)
  obtain ⟨m₂, news₂, D₂, X₂⟩ := r₂
  refine leaveK_ X₂.F X₂.N fun F₃ N₃ => ?_
  have Rl : Rel φ R ⟨σ.m, σ₂.H⟩ h₂ := ⟨m, news₂, D₂, {
    B := X.B
    F := F₃
    N := N₃
    V := X.V
    O := X₂.O
    I := X₂.I
    S := X₂.S
    Y := X.Y }⟩
  cases fl with
  | ret v => exact post v σ₂.H h₂ tk₂ Rl q₂
  | next => exact post .none σ₂.H h₂ tk₂ Rl q₂
  | brk => exact post .none σ₂.H h₂ tk₂ Rl q₂
  | cont => exact post .none σ₂.H h₂ tk₂ Rl q₂

theorem Tr.callFn (hok : φ.Ok W) (hf : FnAt W f name qual params body scope dV kV doc pm an cdv ct oc od osl) (hroom : φ.dp < recursionLimit) {vs : List Value} {binds : List (Str × Value)}
    (hbind : ∀ s : Shared, W.K.In s.heap → BindsTo s (fnOf name qual params body scope dV kV doc pm an cdv ct) ⟨vs, []⟩ binds) (hloc : ∀ y ∈ binds, scope.names.lookup y.1 = some .local)
    {Q : AV → St → Prop}
    (h : ∀ φ' : Fx, φ'.Ok W → φ'.cs = scope → φ'.cl = [] → φ'.dp = φ.dp + 1 → φ'.un = φ.un + 3 → Exs W φ' body (retQ fun r H' => Q r ⟨σ.m, H'⟩) ⟨amap binds, σ.H⟩) :
    Tr W φ (call (.ref f) vs []) (fun r σ' => Q (er r) σ') σ := fun R s hR =>
  wpAny_call (code_fn hok hf hroom hbind hloc h hR fun v H' h' tk r q => ⟨_, h', tk, rfl, r, q⟩)

/-- the same state in a frame of the same place -/
theorem Rel.same {φ' : Fx} {R : List (Addr × Obj)} {h : Heap} (e1 : φ'.base = φ.base) (e2 : φ'.h₀ = φ.h₀) (e3 : φ'.L = φ.L) (e4 : φ'.fix = φ.fix) (X : Rel φ R σ h) : Rel φ' R σ h := by
  obtain ⟨m, news, D, X⟩ := X
  refine ⟨m, news, D, ?_⟩
  obtain ⟨B, F, N, V, O, I, S, Y⟩ := X
  exact ⟨by rw [e1, e2]; exact B, by rw [e2, e3]; exact F, by rw [e2, e3]; exact N, V, by rw [e1]; exact O, I, S, by rw [e4]; exact Y⟩

/-- a class's call: a new object, its __init__ run on it -/
theorem Tr.callCls (hok : φ.Ok W) {C : Addr} (hm : makesIn W.K C = true) (hi : findIn W.K (.ref C) "__init__" = some (some (.ref f))) (hfn : isFn W.K (.ref f) = true)
    (hf : FnAt W f name qual params body scope dV kV doc pm an cdv ct oc od osl) (hroom : φ.dp + 1 < recursionLimit) {vs : List Value} {binds : Addr → List (Str × Value)}
    (hbind : ∀ x, ∀ s : Shared, W.K.In s.heap → BindsTo s (fnOf name qual params body scope dV kV doc pm an cdv ct) ⟨.ref x :: vs, []⟩ (binds x)) (hloc : ∀ x, ∀ y ∈ binds x, scope.names.lookup y.1 = some .local)
    {Q : AV → St → Prop}
    (h : ∀ x, σ.H x = none → ∀ φ' : Fx, φ'.Ok W → φ'.cs = scope → φ'.cl = [] → φ'.dp = φ.dp + 2 → φ'.un = φ.un + 4 → Exs W φ' body (retQ fun r H' => r = .none ∧ Q (.ref x) ⟨σ.m, H'⟩) ⟨amap (binds x), hset σ.H x (.ins C [])⟩) :
    Tr W φ (call (.ref C) vs []) (fun r σ' => Q (er r) σ') σ := fun R s hR => by
  obtain ⟨m, news, D, X⟩ := hR
  refine wpAny_call (make_K X.F X.N (hok.X.keeps X.F.keep) hm hi (beq_iff_eq.mp hfn) fun x dx h' F' N' lt1 lt2 => ?_)
  have fr : ∀ a, (∀ p ∈ news, p.1 < a) → φ.h₀.get? a = none → FreshA φ news a := fun a h1 h2 => ⟨fun p hp => Nat.ne_of_lt (h1 p hp), by
    cases e : φ.base.get? a with
    | none => rfl
    | some o => rw [X.B _ _ e] at h2; cases h2⟩
  have fd := fr dx lt1 (N' _ (.tail _ (.head _))).2.2
  have fx := fr x (fun p hp => Nat.lt_trans (lt1 p hp) lt2) (N' _ (.head _)).2.2
  have X' : RelW φ R (σ.put x (.ins C [])) h' m ((x, instObj C dx) :: (dx, dictOf [] 0) :: news) (fun b => if b = x then dx else D b) :=
    X.allocInsF fx fd (Nat.ne_of_lt lt2) F' N' rfl
  let φ₁ : Fx := { φ with dp := φ.dp + 1, un := φ.un + 1 }
  have hok₁ : φ₁.Ok W := ⟨hok.B, hok.X, hok.T, hok.k⟩
  have key := code_fn (φ := φ₁) (σ := σ.put x (.ins C [])) (R := R) (s := { s with heap := h' }) (args := ⟨.ref x :: vs, []⟩) (binds := binds x) (P := fun r H' => r = .none ∧ Q (.ref x) ⟨σ.m, H'⟩) hok₁ hf hroom (hbind x) (hloc x)
    (fun φ' o1 o2 o3 o4 o5 => h x (X.newH fx) φ' o1 o2 o3 o4 o5) (Rel.same (φ := φ) rfl rfl rfl rfl ⟨_, _, _, X'⟩)
    (Rr := InitBack x fun r s' => match r with | .ok (.ret v) => ∃ σ' h tk, s' = { s with heap := h, toks := tk } ∧ Rel φ R σ' h ∧ Q (er v) σ' | .ok _ => False | .error e => False)
    (fun v H' h₂ tk r q => ⟨er_none q.1, ⟨σ.m, H'⟩, h₂, tk, rfl, Rel.same (φ := φ₁) rfl rfl rfl rfl r, q.2⟩)
  exact key
end
def Fx.withFix (φ : Fx) (f : List (Addr × Obj)) : Fx := { φ with fix := f }
section
variable {W : Wd} {φ : Fx} {R R' : List (Addr × Obj)} {σ : St} {h h' : Heap}
theorem Rel.perm (X : Rel φ R σ h) (hp : ∀ p, p ∈ R → p ∈ R') (hq : ∀ p, p ∈ R' → p ∈ R) : Rel φ R' σ h := by
  obtain ⟨m, news, D, X⟩ := X
  exact ⟨m, news, D, { X with
    I := fun a C fs e => ⟨(X.I a C fs e).1, fun p hp => (X.I a C fs e).2.1 p (hq p hp), (X.I a C fs e).2.2⟩
    S := fun p hp => X.S p (hq p hp)
    Y := fun p h => hp p (X.Y p h) }⟩
theorem Rel.refix (X : Rel φ R σ h) (f : List (Addr × Obj)) (hf : ∀ p ∈ f, p ∈ R) : Rel (φ.withFix f) R σ h := by
  obtain ⟨m, news, D, X⟩ := X
  exact ⟨m, news, D, ⟨X.B, X.F, X.N, X.V, X.O, X.I, X.S, hf⟩⟩
theorem Rel.unfix {f : List (Addr × Obj)} (X : Rel (φ.withFix f) R σ h) (hf : ∀ p ∈ φ.fix, p ∈ R) : Rel φ R σ h := by
  obtain ⟨m, news, D, X⟩ := X
  exact ⟨m, news, D, ⟨X.B, X.F, X.N, X.V, X.O, X.I, X.S, hf⟩⟩
theorem Rel.turnR {I : Addr} {o o' : Obj} (X : Rel φ ((I, o) :: R) σ h) (hk : ∀ b ob, b ≠ I → h.get? b = some ob → h'.get? b = some ob) (ho : h'.get? I = some o') (hR : Apart φ R I) : Rel φ ((I, o') :: R) σ h' := by
  obtain ⟨m, news, D, X⟩ := X
  exact ⟨m, _, D, X.turnR hk ho hR⟩
theorem Rel.but {I : Addr} {o : Obj} (X : Rel φ ((I, o) :: R) σ h) (hk : ∀ b ob, b ≠ I → h.get? b = some ob → h'.get? b = some ob) (hR : Apart φ R I) : Rel φ R σ h' := by
  obtain ⟨m, news, D, X⟩ := X
  exact ⟨m, _, D, X.but hk hR⟩
theorem Rel.get {I : Addr} {o : Obj} (X : Rel φ R σ h) (hm : (I, o) ∈ R) : h.get? I = some o := by
  obtain ⟨m, news, D, X⟩ := X
  exact (X.N _ (X.S _ hm).1).1
theorem Rel.noneH {I : Addr} {o : Obj} (X : Rel φ R σ h) (hm : (I, o) ∈ R) : σ.H I = none := by
  obtain ⟨m, news, D, X⟩ := X
  exact (X.S _ hm).2
/-- a list of the frame list is taken into the state -/
theorem Rel.adopt {I : Addr} {vs : List Value} {c : Nat} (X : Rel φ ((I, listOf vs.toArray c) :: R) σ h) (hR : Apart φ R I) : Rel φ R (σ.put I (.lst (vs.map er))) h := by
  obtain ⟨m, news, D, X⟩ := X
  have hI := X.S _ (.head _)
  refine ⟨m, news, D, {
    B := X.B
    F := X.F
    N := X.N
    V := X.V
    O := fun a o e => ?_
    I := fun a C fs e => ?_
    S := fun p hp => ?_
    Y := hR.2 }⟩
  · simp only [St.put, hset] at e
    by_cases ha : a = I
    · rw [if_pos ha] at e; cases e; subst ha; exact ⟨_, c, hI.1, by simp⟩
    · rw [if_neg ha] at e; exact X.O a o e
  · simp only [St.put, hset] at e ⊢
    by_cases ha : a = I
    · rw [if_pos ha] at e; cases e
    · rw [if_neg ha] at e
      obtain ⟨h1, h2, h3⟩ := X.I a C fs e
      refine ⟨?_, fun p hp => h2 p (.tail _ hp), fun b C' fs' eb ed => ?_⟩
      · rw [if_neg]
        · exact h1
        · exact Ne.symm (h2 _ (.head _))
      · by_cases hb : b = I
        · rw [if_pos hb] at eb; cases eb
        · rw [if_neg hb] at eb; exact h3 b C' fs' eb ed
  · simp only [St.put, hset]
    rw [if_neg (hR.1 p hp)]
    exact ⟨(X.S p (.tail _ hp)).1, (X.S p (.tail _ hp)).2⟩
end

/-- a block's own name -/
def CLoc (φ : Fx) (C : Addr) (x : Str) (v : AV) : Prop := ∃ o es ep u, (C, o) ∈ φ.fix ∧ o.data = .dict es ep ∧ StrKeys es ∧ nsFind es x = some u ∧ er u = v

section
variable {W : Wd} {φ : Fx} {σ : St} {Q : AV → St → Prop}
theorem Ev.cloc {C : Addr} {x : Str} {pos : Pos} {v : AV} {scope : Scope} {cl : List (Str × Addr)} (hc : CLoc φ C x v) (hk : scope.kind = .function) (hx : scope.names.lookup x = some .local) (h : Q v σ) (hd : (x == ("__debug__" : Str)) = false := by decide) :
    Ev W φ (compEnvC scope cl C φ.env) (.Name x pos) Q σ := fun R s hR => by
  obtain ⟨o, es, ep, u, h1, h2, h3, h4, h5⟩ := hc
  obtain ⟨m, news, D, X⟩ := id hR
  have hg := (X.N _ (X.S _ (X.Y _ h1)).1).1
  have hl : (compEnvC scope cl C φ.env).kindOf x = some .local := lookup_relabel_local hx
  exact wpAny_Name (wpAny_loadName_local (m := nsFind es) hk hl ⟨o, es, ep, hg, h2, h3, fun _ => rfl⟩ h4 ⟨σ, s.heap, s.toks, rfl, hR, by show Q (er u) σ; rw [h5]; exact h⟩) hd
theorem Ev.ccell {C c : Addr} {x : Str} {pos : Pos} {v : AV} {scope : Scope} {cl : List (Str × Addr)} (hk : scope.kind = .function) (hx : (compEnvC scope cl C φ.env).kindOf x = some .cell) (hc : cl.lookup x = some c) (hv : σ.H c = some (.cell (some v))) (h : Q v σ) (hd : (x == ("__debug__" : Str)) = false := by decide) :
    Ev W φ (compEnvC scope cl C φ.env) (.Name x pos) Q σ := fun R s hR => by
  obtain ⟨m, news, D, X⟩ := id hR
  obtain ⟨o, u, h1, h2, h3⟩ := X.O c _ hv
  cases u with
  | none => cases h3
  | some u => exact wpAny_Name (wpAny_loadName_cell hk hx hc ⟨o, X.N.get h1, h2⟩ ⟨σ, s.heap, s.toks, rfl, hR, by show Q (er u) σ; rw [Option.some.inj h3]; exact h⟩) hd

def testsOf (ifs : List Expr) (env : Env) : Sem Bool := forIn ifs true fun c r => if r = true then do let ok ← isTrue c env (eval c env); pure (ForInStep.yield ok) else pure (ForInStep.yield r)

theorem comp_core (hok : φ.Ok W) {elt iter : Expr} {x : Str} {px pos : Pos} {ifs : List Expr} {scope : Scope} {cl : List (Str × Addr)} (hcell : ∀ y ∈ scope.names, y.2 ≠ .cell) (hkind : scope.kind = .function) (hx : scope.names.lookup x = some .local)
    {R : List (Addr × Obj)} {s₂ : Shared} {I : Addr} {o : Obj} {xs : List AV} {need : St → Prop} {ob : Nat → Obj → Prop} (J : Nat → List AV → St → Prop)
    (hit : Iter W φ I xs need ob) (ho : ob 0 o) (hA : Apart φ R I) (hRel : Rel φ ((I, o) :: R) σ s₂.heap) (hJ : J 0 [] σ) (hJn : ∀ i ys σ', J i ys σ' → need σ' ∧ ys.length ≤ i) (hlen : xs.length ≤ 1000)
    (step : ∀ i a ys σ' C oC, xs[i]? = some a → J i ys σ' → CLoc (φ.withFix ((C, oC) :: φ.fix)) C x a →
      Tr W (φ.withFix ((C, oC) :: φ.fix)) (testsOf ifs (compEnvC scope cl C φ.env)) (fun ok σ₁ => if ok = true then Ev W (φ.withFix ((C, oC) :: φ.fix)) (compEnvC scope cl C φ.env) elt (fun r σ₂ => J (i + 1) (ys ++ [r]) σ₂) σ₁ else J (i + 1) ys σ₁) σ')
    {E : Value → Shared → Prop} {RR : Value → Addr → Result → Shared → Prop}
    (hRR : ∀ D C ys σ' h' tk oC vs c es ep, Rel φ ((C, oC) :: (D, listOf (List.toArray vs) c) :: R) σ' h' → C ≠ D → Apart φ R C → Apart φ R D → oC.data = .dict es ep → StrKeys es → vs.map er = ys → J xs.length ys σ' → RR (.ref D) C (.ok .next) { s₂ with heap := h', toks := tk }) :
    wpAny (model W.prog W.w) φ.A (newList []) (fun acc s₃ => wpAny (model W.prog W.w) φ.A (newFunctionEnv scope φ.env.globals cl [] φ.env.qual none .none (some φ.env)) (fun cenv s₄ =>
      codeAny (model W.prog W.w) φ.A (.compStart (.ListComp elt [⟨.Name x px, iter, ifs, 0⟩] scope pos) 0 (.ref I) acc { cenv with scope := relabel scope φ.env }) (RR acc cenv.locals) s₄) E s₃) E s₂ := by
  obtain ⟨m₀, news₀, D₀, X₀⟩ := id hRel
  refine wpAny_newObj_type (wpAny_newFunctionEnv hcell (by intro y hy; simp at hy) (fun h₁ hns₁ hsb₁ => ?_) hkind)
  dsimp only at hns₁ hsb₁ ⊢
  have X₁ := X₀.pushR (listOf ([] : List Value).toArray 0) rfl
  have aD := apart_size X₀
  generalize hD : s₂.heap.objs.size = D at X₁ aD hns₁ hsb₁ ⊢
  have X₂ := X₁.pushR { cls := .type "dict", data := .dict #[] } rfl
  have aC := apart_size X₁
  generalize hC : (s₂.heap.push (listOf ([] : List Value).toArray 0)).objs.size = C at X₂ aC
  have hC' : (s₂.heap.push { cls := Value.type "list", data := Data.seq ([] : List Value).toArray }).objs.size = C := hC
  try rw [hC'] at hns₁
  try rw [hC'] at hsb₁
  have hCD : C ≠ D := Ne.symm (aC.1 _ (.head _))
  have hID : I ≠ D := aD.1 _ (.head _)
  have hIC : I ≠ C := aC.1 _ (.tail _ (.head _))
  have aRD : Apart φ R D := ⟨fun p hp => aD.1 p (.tail _ hp), hA.2⟩
  have aRC : Apart φ R C := ⟨fun p hp => aC.1 p (.tail _ (.tail _ hp)), hA.2⟩
  obtain ⟨oC, es, ep, g1, g2, g3, g4⟩ := id hns₁
  have X₃ : Rel φ ((C, oC) :: (D, listOf ([] : List Value).toArray 0) :: (I, o) :: R) σ h₁ := Rel.turnR ⟨_, _, _, X₂⟩ (fun b ob hb e => (hsb₁.2 b hb).trans e) g1 aC
  have apI : ∀ {oC : Obj} {oD : Obj}, Apart φ ((C, oC) :: (D, oD) :: R) I := fun {oC oD} => ⟨fun p hp => by
    rcases List.mem_cons.mp hp with rfl | hp
    · exact Ne.symm hIC
    · rcases List.mem_cons.mp hp with rfl | hp
      · exact Ne.symm hID
      · exact hA.1 p hp, fun p hp => .tail _ (.tail _ (hA.2 p hp))⟩
  have apC : ∀ {oI : Obj} {oD : Obj}, Apart φ ((I, oI) :: (D, oD) :: R) C := fun {oI oD} => ⟨fun p hp => by
    rcases List.mem_cons.mp hp with rfl | hp
    · exact hIC
    · rcases List.mem_cons.mp hp with rfl | hp
      · exact Ne.symm hCD
      · exact aRC.1 p hp, fun p hp => .tail _ (.tail _ (hA.2 p hp))⟩
  have apD : ∀ {oC : Obj} {oI : Obj}, Apart φ ((C, oC) :: (I, oI) :: R) D := fun {oC oI} => ⟨fun p hp => by
    rcases List.mem_cons.mp hp with rfl | hp
    · exact hCD
    · rcases List.mem_cons.mp hp with rfl | hp
      · exact hID
      · exact aRD.1 p hp, fun p hp => .tail _ (.tail _ (hA.2 p hp))⟩
  have sw3 : ∀ {a b c : Addr × Obj} {p : Addr × Obj}, p ∈ a :: b :: c :: R → p ∈ b :: a :: c :: R := fun {a b c p} hp => by
    simp only [List.mem_cons] at hp ⊢
    rcases hp with h | h | h | h <;> simp [h]
  have rot3 : ∀ {a b c : Addr × Obj} {p : Addr × Obj}, p ∈ a :: b :: c :: R → p ∈ c :: a :: b :: R := fun {a b c p} hp => by
    simp only [List.mem_cons] at hp ⊢
    rcases hp with h | h | h | h <;> simp [h]
  have hl : (compEnvC scope cl C φ.env).kindOf x = some .local := lookup_relabel_local hx
  have loop : ∀ s₃ : Shared, s₃ = { s₂ with heap := h₁, toks := s₂.toks + ([] : List (Str × Value)).length } →
      codeAny (model W.prog W.w) φ.A (.compLoop (.ListComp elt [⟨.Name x px, iter, ifs, 0⟩] scope pos) 0 (.ref I) (.ref D) (compEnvC scope cl C φ.env)) (RR (.ref D) C) s₃ := by
    rintro s₃ rfl
    refine codeAny_compLoop_tests (fun n s' => ∃ i ys σ' h' tk o₂ oC vs c es ep, s' = { s₂ with heap := h', toks := tk } ∧ n = xs.length + 1 - i ∧ i ≤ xs.length ∧ ob i o₂ ∧ Rel φ ((I, o₂) :: (C, oC) :: (D, listOf (List.toArray vs) c) :: R) σ' h' ∧
      oC.data = .dict es ep ∧ StrKeys es ∧ vs.map er = ys ∧ J i ys σ') (fun n s' hI => ?_) (xs.length + 1)
      ⟨0, [], σ, h₁, _, o, oC, [], 0, es, ep, rfl, rfl, Nat.zero_le _, ho, X₃.perm (fun p hp => rot3 hp) (fun p hp => rot3 (rot3 hp)), g2, g3, rfl, hJ⟩
    obtain ⟨i, ys, σ', h', tk, o₂, oC, vs, c, es, ep, rfl, rfl, hi, ho₂, hR, hd, hk, hv, hJi⟩ := hI
    by_cases hlt : i < xs.length
    · obtain ⟨a, ha⟩ : ∃ a, xs[i]? = some a := ⟨xs[i], by simp [hlt]⟩
      refine hit.item i a _ σ' _ o₂ ha ho₂ (hJn i ys σ' hJi).1 apI hR _ _ fun v o₃ h₃ tk₃ hva ho₃ hR₃ => ?_
      have gC : h₃.get? C = some oC := hR₃.get (.tail _ (.head _))
      refine wpAny_assign_Name (wpAny_storeName_local (m := nsFind es) hl ⟨oC, es, ep, gC, hd, hk, fun _ => rfl⟩ (fun h₄ hn₄ hs₄ => ?_) (by simp [compEnvC, relabel, hkind]))
      obtain ⟨oC', es', ep', k1, k2, k3, k4⟩ := hn₄
      have R₄ : Rel φ ((C, oC') :: (I, o₃) :: (D, listOf (List.toArray vs) c) :: R) σ' h₄ := (hR₃.perm (R' := (C, oC) :: (I, o₃) :: (D, listOf (List.toArray vs) c) :: R) (fun p hp => sw3 hp) (fun p hp => sw3 hp)).turnR (fun b ob hb e => (hs₄.2 b hb).trans e) k1 apC
      have R₅ := R₄.refix ((C, oC') :: φ.fix) (fun p hp => by
        rcases List.mem_cons.mp hp with rfl | hp
        · exact .head _
        · exact .tail _ (.tail _ (.tail _ (hA.2 p hp))))
      have st := step i a ys σ' C oC' ha hJi ⟨oC', es', ep', v, .head _, k2, k3, by rw [k4]; exact if_pos rfl, hva⟩
      refine wpr (st _ _ R₅) (fun ok σ₅ h₅ tk₅ r₅ q₅ => ?_)
      cases ok with
      | false =>
        rw [if_neg (by simp)] at q₅ ⊢
        exact ⟨_, by omega, i + 1, ys, σ₅, h₅, tk₅, o₃, oC', vs, c, es', ep', rfl, rfl, hlt, ho₃, (r₅.unfix (fun p hp => .tail _ (.tail _ (.tail _ (hA.2 p hp))))).perm (fun p hp => sw3 hp) (fun p hp => sw3 hp), k2, k3, hv, q₅⟩
      | true =>
        rw [if_pos rfl] at q₅ ⊢
        refine wpr (q₅ _ _ r₅) (fun r σ₆ h₆ tk₆ r₆ q₆ => ?_)
        have r₇ := r₆.unfix (φ := φ) (fun p hp => .tail _ (.tail _ (.tail _ (hA.2 p hp))))
        have gD : h₆.get? D = some (listOf (List.toArray vs) c) := r₇.get (.tail _ (.tail _ (.head _)))
        have hvl : vs.length ≤ 1000 := by
          have := (hJn i ys σ' hJi).2
          rw [← hv, List.length_map] at this; omega
        refine append_at gD (fun h₇ hs₇ g₇ => ?_) (sz _ (by simpa using hvl))
        have e7 : (listOf ((List.toArray vs).push r) (c + 1)) = listOf (List.toArray (vs ++ [r])) (c + 1) := by
          rw [show (List.toArray vs).push r = List.toArray (vs ++ [r]) from Array.toList_inj.mp (by simp)]
        have g₇' : h₇.get? D = some (listOf (List.toArray (vs ++ [r])) (c + 1)) := by rw [← e7]; exact g₇
        have R₈ : Rel φ ((D, listOf (List.toArray (vs ++ [r])) (c + 1)) :: (C, oC') :: (I, o₃) :: R) σ₆ h₇ := (r₇.perm (fun p hp => rot3 hp) (fun p hp => rot3 (rot3 hp))).turnR (fun b ob hb e => (hs₇.2 b hb).trans e) g₇' apD
        exact ⟨_, by omega, i + 1, ys ++ [er r], σ₆, h₇, tk₆, o₃, oC', vs ++ [r], c + 1, es', ep', rfl, rfl, hlt, ho₃, R₈.perm (fun p hp => by simp only [List.mem_cons] at hp ⊢; rcases hp with h | h | h | h <;> simp [h]) (fun p hp => by simp only [List.mem_cons] at hp ⊢; rcases hp with h | h | h | h <;> simp [h]), k2, k3, by rw [List.map_append, hv]; rfl, q₆⟩
    · have hin : i = xs.length := by omega
      subst hin
      refine hit.done _ σ' _ o₂ ho₂ (hJn _ ys σ' hJi).1 apI hR _ _ fun h₃ tk₃ hR₃ => ?_
      exact hRR D C ys σ' h₃ tk₃ oC vs c es ep hR₃ hCD aRC aRD hd hk hv hJi
  exact codeAny_compStart_list (loop _ rfl) (hit.self 0 _ σ _ o ho (X₃.perm (fun p hp => rot3 hp) (fun p hp => rot3 (rot3 hp))) _ _ (loop _ rfl))

theorem tests_nil {env : Env} {P P' : St → Prop} (h : P σ) : Tr W φ (testsOf [] env) (fun ok σ₁ => if ok = true then P σ₁ else P' σ₁) σ := fun R s hR => by
  unfold testsOf
  rw [List.forIn_nil]
  exact wpAny_pure ⟨σ, s.heap, s.toks, rfl, hR, by show if true = true then P σ else P' σ; rw [if_pos rfl]; exact h⟩
theorem tests_one {env : Env} {c : Expr} {P P' : St → Prop} (h : Co W φ env c (fun b σ₁ => if b then P σ₁ else P' σ₁) σ) : Tr W φ (testsOf [c] env) (fun ok σ₁ => if ok = true then P σ₁ else P' σ₁) σ := fun R s hR =>
  wpAny_tests_one (h R s hR)

def CompOk (W : Wd) (φ : Fx) (scope : Scope) (cl : List (Str × Addr)) (elt : Expr) (x : Str) (ifs : List Expr) (Qd : List AV → St → Prop) (v : Value) (σ₁ : St) : Prop :=
  ∃ xs need0 need, ∃ J : Nat → List AV → St → Prop, Src W φ v xs need0 need ∧ need0 σ₁ ∧ J 0 [] σ₁ ∧ (∀ i ys σ', J i ys σ' → need σ' ∧ ys.length ≤ i) ∧ xs.length ≤ 1000 ∧
    (∀ i a ys σ' C oC, xs[i]? = some a → J i ys σ' → CLoc (φ.withFix ((C, oC) :: φ.fix)) C x a →
      Tr W (φ.withFix ((C, oC) :: φ.fix)) (testsOf ifs (compEnvC scope cl C φ.env)) (fun ok σ₂ => if ok = true then Ev W (φ.withFix ((C, oC) :: φ.fix)) (compEnvC scope cl C φ.env) elt (fun r σ₃ => J (i + 1) (ys ++ [r]) σ₃) σ₂ else J (i + 1) ys σ₂) σ') ∧
    ∀ ys σ', J xs.length ys σ' → Qd ys σ'

theorem Ev.comp (hok : φ.Ok W) {elt iter : Expr} {x : Str} {px p pos : Pos} {ifs : List Expr} {scope : Scope} {cl : List (Str × Addr)} (hclos : closureFor scope φ.env = Pure.pure cl) (hcell : ∀ y ∈ scope.names, y.2 ≠ .cell) (hkind : scope.kind = .function)
    (hnames : ∀ y ∈ scope.names, y.2 = .local → scope.names.lookup y.1 = some .local) (hx : scope.names.lookup x = some .local)
    (h : Tr W φ (eval iter φ.env) (CompOk W φ scope cl elt x ifs (fun ys σ' => ∀ b, σ'.H b = none → Q (.ref b) (σ'.put b (.lst ys)))) σ)
    (hs : ∀ x, foldedSetIterable iter φ.env x = Pure.pure x := by intro _; rfl) : Ev W φ φ.env (.ListComp elt [⟨.Name x px, iter, ifs, 0⟩] scope pos) Q σ := fun R s hR => by
  rw [eval_ListComp]
  refine wpAny_comprehension_free (use := none) rfl hs hclos hkind hnames (wpAny_mono (h R s hR) (fun xv s₁ ⟨σ₁, h₁, tk₁, e₁, r₁, q₁⟩ => ?_) fun _ _ e => e)
  subst e₁
  obtain ⟨xs, need0, need, J, hsrc, hn0, hJ, hJn, hlen, step, fin⟩ := q₁
  refine hsrc R σ₁ _ hn0 r₁ _ _ fun I o ob h' tk hit ho hA hRel => ?_
  refine comp_core (RR := fun acc C => compPost (model W.prog W.w) φ.A (fun _ _ => False) none _ acc C) hok hcell hkind hx J hit ho hA hRel hJ hJn hlen step ?_
  intro D C ys σ' h' tk oC vs c es ep hR' hCD aC aD hd hk hv hJ'
  refine ⟨nsFind es, ⟨oC, es, ep, hR'.get (.head _), hd, hk, fun _ => rfl⟩, fun h'' hs'' => ?_⟩
  have R₁ : Rel φ ((D, listOf (List.toArray vs) c) :: R) σ' h'' := hR'.but (fun b ob hb e => (hs''.2 b hb).trans e) ⟨fun p hp => by
    rcases List.mem_cons.mp hp with rfl | hp
    · exact Ne.symm hCD
    · exact aC.1 p hp, fun p hp => .tail _ (aC.2 p hp)⟩
  refine ⟨_, h'', tk, rfl, R₁.adopt aD, ?_⟩
  rw [hv]
  exact fin ys σ' hJ' D (hR'.noneH (.tail _ (.head _)))

theorem Ex1.assignComp (hok : φ.Ok W) {elt iter : Expr} {x y : Str} {px py pos spos : Pos} {ifs : List Expr} {scope : Scope} {cl : List (Str × Addr)} {Q : AF → St → Prop}
    (hsw : swapsWith (.ListComp elt [⟨.Name x px, iter, ifs, 0⟩] scope pos) (some (.Name y py)) spos.line φ.env = Pure.pure true)
    (hclos : closureFor scope φ.env = Pure.pure cl) (hcell : ∀ y ∈ scope.names, y.2 ≠ .cell) (hkind : scope.kind = .function)
    (hnames : ∀ y ∈ scope.names, y.2 = .local → scope.names.lookup y.1 = some .local) (hx : scope.names.lookup x = some .local) (hy : φ.cs.names.lookup y = some .local)
    (h : Tr W φ (eval iter φ.env) (CompOk W φ scope cl elt x ifs (fun ys σ' => ∀ b, σ'.H b = none → Q .next ((σ'.put b (.lst ys)).set y (.ref b)))) σ)
    (hs : ∀ x, foldedSetIterable iter φ.env x = Pure.pure x := by intro _; rfl) : Ex1 W φ (.Assign [.Name y py] (.ListComp elt [⟨.Name x px, iter, ifs, 0⟩] scope pos) spos) Q σ := fun R s hR => by
  rw [exec_Assign_Name_used _ _ _ _ hsw]
  refine wpAny_bind (wpAny_standAt (wpAny_bind ?_))
  show wpAny (model W.prog W.w) φ.A (do let _ ← comprehension (.ListComp elt [⟨.Name x px, iter, ifs, 0⟩] scope pos) scope φ.env _ (newList []) false (eval iter φ.env) (some (PySem.assign (.Name y py) φ.env))) _ _ s
  refine wpAny_bind (wpAny_mono (wpAny_comprehension_free (use := some (PySem.assign (Expr.Name y py) φ.env)) (Q := fun _ s' => ∃ σ' h tk, s' = { s with heap := h, toks := tk } ∧ Rel φ R σ' h ∧ Q .next σ') (E := fun _ _ => False) rfl hs hclos hkind hnames
    (wpAny_mono (h R s hR) (fun xv s₁ ⟨σ₁, h₁, tk₁, e₁, r₁, q₁⟩ => ?_) fun _ _ e => e)) (fun _ s' hq => wpAny_pure (wpAny_pure hq)) fun _ _ e => e)
  subst e₁
  obtain ⟨xs, need0, need, J, hsrc, hn0, hJ, hJn, hlen, step, fin⟩ := q₁
  refine hsrc R σ₁ _ hn0 r₁ _ _ fun I o ob h' tk hit ho hA hRel => ?_
  refine comp_core (RR := fun acc C => compPost (model W.prog W.w) φ.A (fun _ _ => False) (some (PySem.assign (Expr.Name y py) φ.env)) (fun _ s' => ∃ σ' h tk, s' = { s with heap := h, toks := tk } ∧ Rel φ R σ' h ∧ Q .next σ') acc C) hok hcell hkind hx J hit ho hA hRel hJ hJn hlen step ?_
  intro D C ys σ' h' tk oC vs c es ep hR' hCD aC aD hd hk hv hJ'
  show wpAny (model W.prog W.w) φ.A (PySem.assign (.Name y py) φ.env (.ref D)) _ _ _
  refine wpAny_assign_Name ?_
  refine wpAny_mono (Tr.store hok (Q := fun _ σ₂ => σ₂ = σ'.set y (.ref D)) hy rfl _ _ hR') (fun _ s₃ ⟨σ₃, h₄, tk₄, e₃, r₃, q₃⟩ => ?_) fun _ _ x => x.elim
  subst e₃; subst q₃
  refine ⟨nsFind es, ⟨oC, es, ep, r₃.get (.head _), hd, hk, fun _ => rfl⟩, fun h'' hs'' => ?_⟩
  have R₁ : Rel φ ((D, listOf (List.toArray vs) c) :: R) (σ'.set y (.ref D)) h'' := r₃.but (fun b ob hb e => (hs''.2 b hb).trans e) ⟨fun p hp => by
    rcases List.mem_cons.mp hp with rfl | hp
    · exact Ne.symm hCD
    · exact aC.1 p hp, fun p hp => .tail _ (aC.2 p hp)⟩
  refine ⟨_, h'', _, rfl, R₁.adopt aD, ?_⟩
  rw [hv]
  exact fin ys σ' hJ' D (hR'.noneH (.tail _ (.head _)))
end
theorem keep {G T : Prop} (g : G) (t : T) : G := g
/-- says nothing (it leans on False): it has the kit write out the view and the heap behind the top, as constants -/
theorem hd (no : False) (said : PySem.Challenge.rw_xw0225_01.row.wellSaid = true) : PySem.Challenge.rw_xw0225_01.row.Holds := by
  refine' keep (keep (keep ?main ?hl) ?hc) ?hw
  case' main => k_head
  case hl => exact no.elim
  case hc => exact no.elim
  case hw => exact no.elim
noncomputable def HK : Hook := kHook hd.heap_1 [2, 3, 15, 17, 18, 20, 21, 22, 24, 25, 27, 28, 29, 31, 32, 34, 35, 36, 38, 39, 41, 42, 43, 45, 46, 48, 49, 50, 51, 53, 54, 56, 57, 58, 60, 61, 63, 64, 65, 67, 68, 70, 71, 72, 74, 75, 77, 78, 79, 81, 82, 84, 85, 86, 88, 89, 91, 92, 93, 95, 96, 98, 99, 100, 102, 103, 105, 106, 114, 116, 117, 119, 120, 121, 122, 123, 124, 125, 135, 137, 138, 140, 141, 142, 143, 144, 145, 146, 156, 158, 159, 161, 162, 163, 164, 166, 167, 169, 170, 171, 173, 174, 176, 177, 178, 179, 180, 181, 182, 185, 187, 188, 190, 191, 192, 194, 195, 197, 198, 199, 201, 202, 204, 205, 206, 208, 209, 211, 212, 213, 215, 216, 218, 219, 220, 222, 223, 225, 226, 227, 230, 231] (fun _ => by kernel_rfl)
/-- the top's run -/
theorem left : LeftO PySem.Challenge.rw_xw0225_01.row.prog hd.view_1 [Str.ofString "place_globals"] (fun s => xlAt hd.view_1 [] s && recOk (RowW.records (OpenRow.toRowW PySem.Challenge.rw_xw0225_01.row)) s) (Hook.obs HK) (Hook.val HK) 2984 := fun w => by
  unfold openEnds topFrom
  rw [PySem.W.Fast.te14082659384304107361, PySem.W.Fast.te14364793385576792824, PySem.W.Fast.te4187177175401517315]
  kernel_rfl
noncomputable abbrev WX (w : World) (mean : ExcName → Option Value) (mg mb : Str → Option Value) : Wd :=
  { prog := PySem.Challenge.rw_xw0225_01.row.prog, w := w, K := hd.heap_1 w.params, p := hd.view_1, loose := looseW hd.view_1 [Str.ofString "place_globals"], mean := mean, mg := mg, mb := mb }
theorem fill_once : (∀ prm, hd.heap_1 prm = hd.heap_1 prm) ∧ PySem.Challenge.rw_xw0225_01 = PySem.Challenge.rw_xw0225_01 := by
  k_fill
  exact ⟨fun _ => rfl, rfl⟩

theorem inter_of {φ : Fx} {c : Scope} (h : φ.cs = c) (hk : (c.kind == .module) = false) : interactive φ.env = false := by
  have e : φ.env.scope.kind = c.kind := by rw [← h]
  unfold interactive
  rw [e, hk, Bool.false_and]
theorem loc_of {φ : Fx} {sc : Scope} {x : Str} {k : NameKind} (h : φ.cs = sc) (e : sc.names.lookup x = some k) : φ.cs.names.lookup x = some k := by rw [h]; exact e
theorem kind_of {φ : Fx} {sc : Scope} {x : Str} {k : NameKind} (h : φ.cs = sc) (e : sc.names.lookup x = some k) : φ.env.kindOf x = some k := by show φ.cs.names.lookup x = some k; rw [h]; exact e
theorem thn_next {W : Wd} {φ : Fx} {rest : List Stmt} {Q : AF → St → Prop} {σ : St} (h : Exs W φ rest Q σ) : thn W φ rest Q .next σ := h
theorem thn_ret {W : Wd} {φ : Fx} {rest : List Stmt} {Q : AF → St → Prop} {v : AV} {σ : St} (h : Q (.ret v) σ) : thn W φ rest Q (.ret v) σ := h
theorem thn_brk {W : Wd} {φ : Fx} {rest : List Stmt} {Q : AF → St → Prop} {σ : St} (h : Q .brk σ) : thn W φ rest Q .brk σ := h
theorem turn_next {JN J B : St → Prop} {Q : AF → St → Prop} {σ : St} (e : JN = J) (h : J σ) : turnQ JN B Q .next σ := by rw [e]; exact h
theorem turn_brk {J B : St → Prop} {Q : AF → St → Prop} {σ : St} (h : B σ) : turnQ J B Q .brk σ := h
theorem turn_ret {J B : St → Prop} {Q : AF → St → Prop} {v : AV} {σ : St} (h : Q (.ret v) σ) : turnQ J B Q (.ret v) σ := h
theorem retQ_ret {P : AV → (Addr → Option AO) → Prop} {v : AV} {σ : St} (h : P v σ.H) : retQ P (.ret v) σ := h
theorem retQ_next {P : AV → (Addr → Option AO) → Prop} {σ : St} (h : P .none σ.H) : retQ P .next σ := h
theorem ite_b {b : Bool} {P P' : Prop} (h1 : b = true → P) (h2 : b = false → P') : if b = true then P else P' := by
  cases b
  · exact h2 rfl
  · exact h1 rfl

def lmap (l : List (Str × AV)) : Str → Option AV := fun n => l.reverse.lookup n
theorem lookup_map_er (y : Str) : ∀ l : List (Str × Value), (l.lookup y).map er = (l.map fun p => (p.1, er p.2)).lookup y
  | [] => rfl
  | (n, v) :: l => by
    simp only [List.lookup_cons, List.map_cons]
    cases h : y == n with
    | true => rfl
    | false => exact lookup_map_er y l
theorem amap_eq (l : List (Str × Value)) : amap l = lmap (l.map fun p => (p.1, er p.2)) := by
  funext y
  unfold amap lmap
  rw [lookup_map_er, List.map_reverse]
theorem args3 {vs : List Value} {x y z : AV} (h : vs.map er = [x, y, z]) : ∃ u v w, vs = [u, v, w] ∧ er u = x ∧ er v = y ∧ er w = z := by
  match vs with
  | [] => cases h
  | v :: r =>
    simp only [List.map_cons, List.cons.injEq] at h
    obtain ⟨a, b, rfl, h1, h2⟩ := args2 h.2
    exact ⟨v, a, b, rfl, h.1, h1, h2⟩
theorem args4 {vs : List Value} {x y z t : AV} (h : vs.map er = [x, y, z, t]) : ∃ u v w q, vs = [u, v, w, q] ∧ er u = x ∧ er v = y ∧ er w = z ∧ er q = t := by
  match vs with
  | [] => cases h
  | v :: r =>
    simp only [List.map_cons, List.cons.injEq] at h
    obtain ⟨a, b, c, rfl, h1, h2, h3⟩ := args3 h.2
    exact ⟨v, a, b, c, rfl, h.1, h1, h2, h3⟩
section
variable {W : Wd} {φ : Fx} {σ : St} {f : Addr} {name qual : Str} {params : Arguments} {body : List Stmt} {scope : Scope} {dV kV doc pm : Value} {an : Option Addr} {cdv ct oc : Value} {od : Option Addr} {osl : Array (Option Value)} {Q : AV → St → Prop}
theorem CallA.fn1 (x1 : Str) {a1 : AV} (hok : φ.Ok W) (hf : FnAt W f name qual params body scope dV kV doc pm an cdv ct oc od osl) (hroom : φ.dp < recursionLimit)
    (hbind : ∀ v1, ∀ s : Shared, W.K.In s.heap → BindsTo s (fnOf name qual params body scope dV kV doc pm an cdv ct) ⟨[v1], []⟩ [(x1, v1)]) (hloc : ([x1].all fun x => decide (scope.names.lookup x = some .local)) = true)
    (h : ∀ φ' : Fx, φ'.Ok W → φ'.cs = scope → φ'.cl = [] → φ'.dp = φ.dp + 1 → φ'.un = φ.un + 3 → Exs W φ' body (retQ fun r H' => Q r ⟨σ.m, H'⟩) ⟨lmap [(x1, a1)], σ.H⟩) : CallA W φ (.ref f) [a1] Q σ := fun vs hvs => by
  obtain ⟨v1, rfl, rfl⟩ := args1 hvs
  exact Tr.callFn hok hf hroom (hbind v1) (fun y hy => by rw [List.mem_singleton.mp hy]; simpa using hloc) (by rw [amap_eq]; exact h)
theorem CallA.fn2 (x1 x2 : Str) {a1 a2 : AV} (hok : φ.Ok W) (hf : FnAt W f name qual params body scope dV kV doc pm an cdv ct oc od osl) (hroom : φ.dp < recursionLimit)
    (hbind : ∀ v1 v2, ∀ s : Shared, W.K.In s.heap → BindsTo s (fnOf name qual params body scope dV kV doc pm an cdv ct) ⟨[v1, v2], []⟩ [(x1, v1), (x2, v2)]) (hloc : ([x1, x2].all fun x => decide (scope.names.lookup x = some .local)) = true)
    (h : ∀ φ' : Fx, φ'.Ok W → φ'.cs = scope → φ'.cl = [] → φ'.dp = φ.dp + 1 → φ'.un = φ.un + 3 → Exs W φ' body (retQ fun r H' => Q r ⟨σ.m, H'⟩) ⟨lmap [(x1, a1), (x2, a2)], σ.H⟩) : CallA W φ (.ref f) [a1, a2] Q σ := fun vs hvs => by
  obtain ⟨v1, v2, rfl, rfl, rfl⟩ := args2 hvs
  exact Tr.callFn hok hf hroom (hbind v1 v2) (fun y hy => by simp at hloc hy; rcases hy with rfl | rfl <;> simp [hloc]) (by rw [amap_eq]; exact h)
theorem CallA.fn4 (x1 x2 x3 x4 : Str) {a1 a2 a3 a4 : AV} (hok : φ.Ok W) (hf : FnAt W f name qual params body scope dV kV doc pm an cdv ct oc od osl) (hroom : φ.dp < recursionLimit)
    (hbind : ∀ v1 v2 v3 v4, ∀ s : Shared, W.K.In s.heap → BindsTo s (fnOf name qual params body scope dV kV doc pm an cdv ct) ⟨[v1, v2, v3, v4], []⟩ [(x1, v1), (x2, v2), (x3, v3), (x4, v4)]) (hloc : ([x1, x2, x3, x4].all fun x => decide (scope.names.lookup x = some .local)) = true)
    (h : ∀ φ' : Fx, φ'.Ok W → φ'.cs = scope → φ'.cl = [] → φ'.dp = φ.dp + 1 → φ'.un = φ.un + 3 → Exs W φ' body (retQ fun r H' => Q r ⟨σ.m, H'⟩) ⟨lmap [(x1, a1), (x2, a2), (x3, a3), (x4, a4)], σ.H⟩) : CallA W φ (.ref f) [a1, a2, a3, a4] Q σ := fun vs hvs => by
  obtain ⟨v1, v2, v3, v4, rfl, rfl, rfl, rfl, rfl⟩ := args4 hvs
  exact Tr.callFn hok hf hroom (hbind v1 v2 v3 v4) (fun y hy => by simp at hloc hy; rcases hy with rfl | rfl | rfl | rfl <;> simp [hloc]) (by rw [amap_eq]; exact h)
end

/-- where ways meet -/
def joinQ (P : St → Prop) : AF → St → Prop
  | .next, σ => P σ
  | _, _ => False
theorem Ex1.join {W : Wd} {φ : Fx} {σ : St} {st : Stmt} {Q : AF → St → Prop} (P : St → Prop) (h : ∀ PJ, PJ = P → Ex1 W φ st (joinQ PJ) σ) (k : ∀ σ', P σ' → Q .next σ') : Ex1 W φ st Q σ := Tr.mono (h P rfl) fun f σ' q => by
  cases f <;> first | exact k _ q | exact q.elim
theorem join_next {PJ P : St → Prop} {σ : St} (e : PJ = P) (h : P σ) : joinQ PJ .next σ := by rw [e]; exact h

def Room (φ : Fx) (n : Nat) : Prop := φ.dp + n ≤ 900 ∧ φ.un + 8 * n ≤ 9000
theorem Room.call {φ φ' : Fx} {n : Nat} (h : Room φ (n + 1)) (e1 : φ'.dp = φ.dp + 1) (e2 : φ'.un = φ.un + 3) : Room φ' n := by unfold Room at h ⊢; omega
theorem Room.cls {φ φ' : Fx} {n : Nat} (h : Room φ (n + 2)) (e1 : φ'.dp = φ.dp + 2) (e2 : φ'.un = φ.un + 4) : Room φ' n := by unfold Room at h ⊢; omega
theorem Room.lt {φ : Fx} {n : Nat} (h : Room φ n) : φ.dp < recursionLimit := by unfold Room at h; unfold recursionLimit; omega
theorem Room.lt1 {φ : Fx} {n : Nat} (h : Room φ n) : φ.dp + 1 < recursionLimit := by unfold Room at h; unfold recursionLimit; omega
theorem Room.un {φ : Fx} {n : Nat} (h : Room φ n) : φ.un + 64 < cLine := by unfold Room at h; unfold cLine; omega
theorem Room.mono {φ : Fx} {n k : Nat} (h : Room φ n) (e : k ≤ n) : Room φ k := by unfold Room at h ⊢; omega
theorem Room.fix {φ : Fx} {n : Nat} {f : List (Addr × Obj)} (h : Room φ n) : Room (φ.withFix f) n := h

-- the steps
local macro_rules | `(tactic| walk_at "mv") => `(tactic| first | with_reducible assumption | k_dflt rfl | k_dflt assumption)
local macro_rules | `(tactic| walk_at "lc") => `(tactic| exact loc_of (by with_reducible assumption) (by k_dflt rfl))
local macro_rules | `(tactic| walk_at "fn") => `(tactic| (refine' FnAt.mk ?k1 ?k2 ?k3 ?k4 ?k5 ?k6; (case k1 => (show List.lookup _ (hd.heap_1 _) = _; k_is)); (case k2 => (show codeIn (hd.heap_1 _) _ _ = _; k_is)); (case k3 => exact rfl); (case k4 => exact rfl); (case k5 => exact rfl); (case k6 => decide)))
local macro_rules | `(tactic| walk_at "bd") => `(tactic| (intros; exact BindsTo.of_eq rfl))
local macro_rules | `(tactic| walk_at "ev") => `(tactic| with_reducible first
  | refine Exs.cons ?_
  | refine Exs.nil ?_
  | refine thn_next ?_
  | refine turn_next (by assumption) ?_
  | refine join_next (by assumption) ?_
  | refine retQ_next ?_
  | refine turn_brk ?_
  | refine turn_ret ?_
  | refine thn_brk ?_
  | refine Ex1.brk ?_
  | refine thn_ret ?_
  | refine retQ_ret ?_
  | refine Ev.loc (by assumption) (by walk_at "lc") (by walk_at "mv") ?_ (by decide)
  | refine Ev.cInt ?_
  | refine Ev.cStr ?_
  | refine Ev.cNone ?_
  | refine Ev.cBool ?_
  | refine Ev.attr ?_ (by with_unfolding_all rfl)
  | refine Ev.bin ?_
  | refine Ev.cmp ?_ (by with_unfolding_all rfl)
  | refine Ev.sliceTo ?_ (by k_dflt (intro _ _; rfl))
  | refine Ev.sliceFrom ?_ (by k_dflt (intro _ _; rfl))
  | refine Ev.item ?_ (by intros; with_unfolding_all rfl)
  | refine Ev.neg (Ev.cInt ⟨_, rfl, ?_⟩)
  | refine Ev.ifx ?_
  | refine Ev.list ?_
  | refine Ev.tuple ?_
  | refine Evs.nil ?_
  | refine Evs.cons ?_ (by k_dflt rfl)
  | refine Bin.add ?_
  | refine Bin.sub ?_
  | refine Bin.fdiv (by decide) (PyProof.noPylong_small (by decide)) ?_
  | refine Bin.mod (by decide) ?_
  | refine Bin.mul (IntMulOk.of_right (by decide)) ?_
  | refine Bin.mul (IntMulOk.of_left (by decide)) ?_
  | refine Ipl.add ?_
  | refine Ipl.fdiv (by decide) (PyProof.noPylong_small (by decide)) ?_
  | refine Ipl.sub ?_
  | refine Cmp.eqI ?_
  | refine Cmp.neI ?_
  | refine Cmp.ltI ?_
  | refine Cmp.gtI ?_
  | refine Cmp.leI ?_
  | refine Cmp.geI ?_
  | refine Cmp.eqS ?_
  | refine Cmp.neS ?_
  | refine Cmp.isN ?_
  | refine Cmp.isNotN ?_
  | refine Ex1.ret ?_
  | refine Ex1.if_ ?_
  | refine Ex1.assign (by assumption) (by walk_at "lc") ?_ (by k_dflt rfl)
  | refine Ex1.aug (by assumption) (by walk_at "lc") (by walk_at "mv") ?_
  | refine Ex1.assignAttr ?_ (by k_dflt rfl)
  | refine Ex1.assignItem ?_ (by k_dflt rfl)
  | refine Ex1.augItem ?_ (by k_dflt (intros; rfl))
  | refine Ex1.augAttr ?_
  | refine Ex1.expr ?_ (inter_of (by assumption) (by k_dflt rfl)) (by k_dflt rfl)
  | refine listMeth PySem.F.slot_list_append PySem.F.type_list_append ?_ (by k_dflt rfl) (by k_dflt rfl)
  | refine listMeth PySem.F.slot_list_extend PySem.F.type_list_extend ?_ (by k_dflt rfl) (by k_dflt rfl)
  | refine Co.cmp ?_ (by with_unfolding_all rfl)
  | refine Co.and ?_
  | refine Co.or ?_
  | refine Co.not ?_
  | refine Ands.cons ?_
  | refine Ands.nil ?_
  | refine Ors.cons ?_
  | refine Ors.nil ?_
  | fail "ev: no step")
section
variable {w : World} {mean : ExcName → Option Value} {mg mb : Str → Option Value} {φ : Fx} {σ : St}

theorem whole_words_spec (hok : φ.Ok (WX w mean mg mb)) {n : Nat} (hroom : Room φ n) {i : Int} {Q : AV → St → Prop} (h : Q (.int ((i + 3).fdiv 4 * 4)) σ) : CallA (WX w mean mg mb) φ (.ref 35) [.int i] Q σ := by
  refine' CallA.fn1 "size" hok ⟨?ho, ?hcd, ?hco, ?hgen, ?hk, ?hcell⟩ hroom.lt ?hb ?hl ?h
  case ho => (show List.lookup _ (hd.heap_1 w.params) = _; k_is)
  case hcd => (show codeIn (hd.heap_1 w.params) _ _ = _; k_is)
  case hco => exact rfl
  case hgen => exact rfl
  case hk => exact rfl
  case hcell => decide
  case hb => exact fun _ s _ => BindsTo.of_eq rfl
  case hl => decide
  case h =>
    intro φ' o1 o2 o3 o4 o5
    repeat walk_at "ev"
    exact h
end
theorem fget_fput (a b : Str) (w : AV) : ∀ fs : List (Str × AV), fget a (fput b w fs) = if b == a then some w else fget a fs
  | [] => by
    unfold fput fget
    rfl
  | (n, u) :: r => by
    have ih := fget_fput a b w r
    unfold fput
    by_cases hn : (n == b) = true
    · rw [if_pos hn]
      obtain rfl := beq_iff_eq.mp hn
      unfold fget
      by_cases hb : (n == a) = true
      · rw [if_pos hb, if_pos hb]
      · rw [if_neg hb, if_neg hb, if_neg hb]
    · rw [if_neg hn]
      show (if n == a then some u else fget a (fput b w r)) = if b == a then some w else if n == a then some u else fget a r
      by_cases hna : (n == a) = true
      · rw [if_pos hna, if_pos hna]
        obtain rfl := beq_iff_eq.mp hna
        rw [if_neg]
        intro e; exact hn (by rw [beq_iff_eq.mp e]; exact beq_self_eq_true _)
      · rw [if_neg hna, if_neg hna, ih]
theorem fput_length (b : Str) (w : AV) : ∀ fs : List (Str × AV), (fget b fs).isSome = true → (fput b w fs).length = fs.length
  | [], h => by cases h
  | (n, u) :: r, h => by
    unfold fput
    by_cases hn : (n == b) = true
    · rw [if_pos hn]; rfl
    · rw [if_neg hn]
      unfold fget at h
      rw [if_neg hn] at h
      simp only [List.length_cons, fput_length b w r h]
theorem fget_put_eq {a : Str} {w : AV} {fs : List (Str × AV)} : fget a (fput a w fs) = some w := by rw [fget_fput, if_pos (beq_self_eq_true _)]
theorem fget_put_ne {a b : Str} {w : AV} {fs : List (Str × AV)} {v : Option AV} (hv : fget a fs = v) (h : (b == a) = false := by decide) : fget a (fput b w fs) = v := by rw [fget_fput, if_neg (by rw [h]; exact Bool.false_ne_true)]; exact hv

def opt : Option Addr → AV
  | none => .none
  | some a => .ref a
/-- what is read of a Type -/
structure TyV where
  form : Str
  size : Int
  base : Option Addr
  len : Int
  flds : Addr
  level : Int
  hid : Addr
structure IsTy (fs : List (Str × AV)) (v : TyV) : Prop where
  form : fget "form" fs = some (.str v.form)
  size : fget "size" fs = some (.int v.size)
  base : fget "base" fs = some (opt v.base)
  len : fget "length" fs = some (.int v.len)
  flds : fget "fields" fs = some (.ref v.flds)
  level : fget "level" fs = some (.int v.level)
  hid : fget "hidden" fs = some (.ref v.hid)
  short : fs.length ≤ 50
def TyAt (H : Addr → Option AO) (t : Addr) (v : TyV) : Prop := ∃ fs, H t = some (.ins 123 fs) ∧ IsTy fs v
/-- what is read of an Obj -/
structure ObV where
  kind : Str
  type : Addr
  slot : Int
  offset : Int
  isparam : Bool
structure IsOb (fs : List (Str × AV)) (v : ObV) : Prop where
  kind : fget "kind" fs = some (.str v.kind)
  type : fget "type" fs = some (.ref v.type)
  slot : fget "slot" fs = some (.int v.slot)
  offset : fget "offset" fs = some (.int v.offset)
  isparam : fget "isparam" fs = some (.bool v.isparam)
  short : fs.length ≤ 50
def ObAt (H : Addr → Option AO) (t : Addr) (v : ObV) : Prop := ∃ fs, H t = some (.ins 144 fs) ∧ IsOb fs v

section
variable {w : World} {mean : ExcName → Option Value} {mg mb : Str → Option Value}
theorem taker_none {K : Frag} {C : Addr} {name : Str} (h : findIn K (.ref C) name = some none) : takerIn K C name = some none := by unfold takerIn; rw [h]; rfl
theorem pg_T : plainGet (WX w mean mg mb).K 123 "form" = true := by show plainGet (hd.heap_1 w.params) _ _ = _; k_is
theorem hd_T : hasDictIn (WX w mean mg mb).K 123 = true := by show hasDictIn (hd.heap_1 w.params) _ = _; k_is
theorem sa_T : findIn (WX w mean mg mb).K (.ref 123) "__setattr__" = some (some (.builtin "object.__setattr__")) := by show findIn (hd.heap_1 w.params) _ _ = _; k_is
theorem po_T : plainOver (WX w mean mg mb).K 123 = true := by show plainOver (hd.heap_1 w.params) _ = _; k_is
theorem fi_T_form : findIn (WX w mean mg mb).K (.ref 123) "form" = some none := by show findIn (hd.heap_1 w.params) _ _ = _; k_is
theorem aOk_T_form : AttrOk (WX w mean mg mb) 123 "form" := ⟨pg_T, hd_T, none, fi_T_form, rfl⟩
theorem fi_T_size : findIn (WX w mean mg mb).K (.ref 123) "size" = some none := by show findIn (hd.heap_1 w.params) _ _ = _; k_is
theorem aOk_T_size : AttrOk (WX w mean mg mb) 123 "size" := ⟨pg_T, hd_T, none, fi_T_size, rfl⟩
theorem fi_T_base : findIn (WX w mean mg mb).K (.ref 123) "base" = some none := by show findIn (hd.heap_1 w.params) _ _ = _; k_is
theorem aOk_T_base : AttrOk (WX w mean mg mb) 123 "base" := ⟨pg_T, hd_T, none, fi_T_base, rfl⟩
theorem fi_T_length : findIn (WX w mean mg mb).K (.ref 123) "length" = some none := by show findIn (hd.heap_1 w.params) _ _ = _; k_is
theorem aOk_T_length : AttrOk (WX w mean mg mb) 123 "length" := ⟨pg_T, hd_T, none, fi_T_length, rfl⟩
theorem fi_T_fields : findIn (WX w mean mg mb).K (.ref 123) "fields" = some none := by show findIn (hd.heap_1 w.params) _ _ = _; k_is
theorem aOk_T_fields : AttrOk (WX w mean mg mb) 123 "fields" := ⟨pg_T, hd_T, none, fi_T_fields, rfl⟩
theorem fi_T_level : findIn (WX w mean mg mb).K (.ref 123) "level" = some none := by show findIn (hd.heap_1 w.params) _ _ = _; k_is
theorem aOk_T_level : AttrOk (WX w mean mg mb) 123 "level" := ⟨pg_T, hd_T, none, fi_T_level, rfl⟩
theorem fi_T_hidden : findIn (WX w mean mg mb).K (.ref 123) "hidden" = some none := by show findIn (hd.heap_1 w.params) _ _ = _; k_is
theorem aOk_T_hidden : AttrOk (WX w mean mg mb) 123 "hidden" := ⟨pg_T, hd_T, none, fi_T_hidden, rfl⟩
theorem pg_O : plainGet (WX w mean mg mb).K 144 "form" = true := by show plainGet (hd.heap_1 w.params) _ _ = _; k_is
theorem hd_O : hasDictIn (WX w mean mg mb).K 144 = true := by show hasDictIn (hd.heap_1 w.params) _ = _; k_is
theorem sa_O : findIn (WX w mean mg mb).K (.ref 144) "__setattr__" = some (some (.builtin "object.__setattr__")) := by show findIn (hd.heap_1 w.params) _ _ = _; k_is
theorem po_O : plainOver (WX w mean mg mb).K 144 = true := by show plainOver (hd.heap_1 w.params) _ = _; k_is
theorem fi_O_kind : findIn (WX w mean mg mb).K (.ref 144) "kind" = some none := by show findIn (hd.heap_1 w.params) _ _ = _; k_is
theorem aOk_O_kind : AttrOk (WX w mean mg mb) 144 "kind" := ⟨pg_O, hd_O, none, fi_O_kind, rfl⟩
theorem fi_O_type : findIn (WX w mean mg mb).K (.ref 144) "type" = some none := by show findIn (hd.heap_1 w.params) _ _ = _; k_is
theorem aOk_O_type : AttrOk (WX w mean mg mb) 144 "type" := ⟨pg_O, hd_O, none, fi_O_type, rfl⟩
theorem fi_O_slot : findIn (WX w mean mg mb).K (.ref 144) "slot" = some none := by show findIn (hd.heap_1 w.params) _ _ = _; k_is
theorem aOk_O_slot : AttrOk (WX w mean mg mb) 144 "slot" := ⟨pg_O, hd_O, none, fi_O_slot, rfl⟩
theorem fi_O_offset : findIn (WX w mean mg mb).K (.ref 144) "offset" = some none := by show findIn (hd.heap_1 w.params) _ _ = _; k_is
theorem aOk_O_offset : AttrOk (WX w mean mg mb) 144 "offset" := ⟨pg_O, hd_O, none, fi_O_offset, rfl⟩
theorem fi_O_isparam : findIn (WX w mean mg mb).K (.ref 144) "isparam" = some none := by show findIn (hd.heap_1 w.params) _ _ = _; k_is
theorem aOk_O_isparam : AttrOk (WX w mean mg mb) 144 "isparam" := ⟨pg_O, hd_O, none, fi_O_isparam, rfl⟩
theorem pg_S : plainGet (WX w mean mg mb).K 180 "form" = true := by show plainGet (hd.heap_1 w.params) _ _ = _; k_is
theorem hd_S : hasDictIn (WX w mean mg mb).K 180 = true := by show hasDictIn (hd.heap_1 w.params) _ = _; k_is
theorem sa_S : findIn (WX w mean mg mb).K (.ref 180) "__setattr__" = some (some (.builtin "object.__setattr__")) := by show findIn (hd.heap_1 w.params) _ _ = _; k_is
theorem po_S : plainOver (WX w mean mg mb).K 180 = true := by show plainOver (hd.heap_1 w.params) _ = _; k_is
theorem fi_S_counter : findIn (WX w mean mg mb).K (.ref 180) "counter" = some none := by show findIn (hd.heap_1 w.params) _ _ = _; k_is
theorem aOk_S_counter : AttrOk (WX w mean mg mb) 180 "counter" := ⟨pg_S, hd_S, none, fi_S_counter, rfl⟩
theorem fi_S_byte : findIn (WX w mean mg mb).K (.ref 180) "byte" = some none := by show findIn (hd.heap_1 w.params) _ _ = _; k_is
theorem aOk_S_byte : AttrOk (WX w mean mg mb) 180 "byte" := ⟨pg_S, hd_S, none, fi_S_byte, rfl⟩
theorem fi_S_integer : findIn (WX w mean mg mb).K (.ref 180) "integer" = some none := by show findIn (hd.heap_1 w.params) _ _ = _; k_is
theorem aOk_S_integer : AttrOk (WX w mean mg mb) 180 "integer" := ⟨pg_S, hd_S, none, fi_S_integer, rfl⟩
theorem fi_S_char : findIn (WX w mean mg mb).K (.ref 180) "char" = some none := by show findIn (hd.heap_1 w.params) _ _ = _; k_is
theorem aOk_S_char : AttrOk (WX w mean mg mb) 180 "char" := ⟨pg_S, hd_S, none, fi_S_char, rfl⟩
theorem fi_S_boolean : findIn (WX w mean mg mb).K (.ref 180) "boolean" = some none := by show findIn (hd.heap_1 w.params) _ _ = _; k_is
theorem aOk_S_boolean : AttrOk (WX w mean mg mb) 180 "boolean" := ⟨pg_S, hd_S, none, fi_S_boolean, rfl⟩
theorem fi_S_mask : findIn (WX w mean mg mb).K (.ref 180) "mask" = some none := by show findIn (hd.heap_1 w.params) _ _ = _; k_is
theorem aOk_S_mask : AttrOk (WX w mean mg mb) 180 "mask" := ⟨pg_S, hd_S, none, fi_S_mask, rfl⟩
theorem fi_S_known : findIn (WX w mean mg mb).K (.ref 180) "known" = some none := by show findIn (hd.heap_1 w.params) _ _ = _; k_is
theorem aOk_S_known : AttrOk (WX w mean mg mb) 180 "known" := ⟨pg_S, hd_S, none, fi_S_known, rfl⟩
theorem fi_T_number : findIn (WX w mean mg mb).K (.ref 123) "number" = some none := by show findIn (hd.heap_1 w.params) _ _ = _; k_is
theorem sOk_T_number : SetOk (WX w mean mg mb) 123 "number" := ⟨sa_T, po_T, taker_none fi_T_number, hd_T⟩
theorem sOk_T_form : SetOk (WX w mean mg mb) 123 "form" := ⟨sa_T, po_T, taker_none fi_T_form, hd_T⟩
theorem sOk_T_size : SetOk (WX w mean mg mb) 123 "size" := ⟨sa_T, po_T, taker_none fi_T_size, hd_T⟩
theorem sOk_T_base : SetOk (WX w mean mg mb) 123 "base" := ⟨sa_T, po_T, taker_none fi_T_base, hd_T⟩
theorem sOk_T_length : SetOk (WX w mean mg mb) 123 "length" := ⟨sa_T, po_T, taker_none fi_T_length, hd_T⟩
theorem sOk_T_fields : SetOk (WX w mean mg mb) 123 "fields" := ⟨sa_T, po_T, taker_none fi_T_fields, hd_T⟩
theorem sOk_T_level : SetOk (WX w mean mg mb) 123 "level" := ⟨sa_T, po_T, taker_none fi_T_level, hd_T⟩
theorem fi_T_params : findIn (WX w mean mg mb).K (.ref 123) "params" = some none := by show findIn (hd.heap_1 w.params) _ _ = _; k_is
theorem sOk_T_params : SetOk (WX w mean mg mb) 123 "params" := ⟨sa_T, po_T, taker_none fi_T_params, hd_T⟩
theorem fi_T_module : findIn (WX w mean mg mb).K (.ref 123) "module" = some none := by show findIn (hd.heap_1 w.params) _ _ = _; k_is
theorem sOk_T_module : SetOk (WX w mean mg mb) 123 "module" := ⟨sa_T, po_T, taker_none fi_T_module, hd_T⟩
theorem fi_T_label : findIn (WX w mean mg mb).K (.ref 123) "label" = some none := by show findIn (hd.heap_1 w.params) _ _ = _; k_is
theorem sOk_T_label : SetOk (WX w mean mg mb) 123 "label" := ⟨sa_T, po_T, taker_none fi_T_label, hd_T⟩
theorem sOk_T_hidden : SetOk (WX w mean mg mb) 123 "hidden" := ⟨sa_T, po_T, taker_none fi_T_hidden, hd_T⟩
theorem fi_T_exno : findIn (WX w mean mg mb).K (.ref 123) "exno" = some none := by show findIn (hd.heap_1 w.params) _ _ = _; k_is
theorem sOk_T_exno : SetOk (WX w mean mg mb) 123 "exno" := ⟨sa_T, po_T, taker_none fi_T_exno, hd_T⟩
theorem fi_O_name : findIn (WX w mean mg mb).K (.ref 144) "name" = some none := by show findIn (hd.heap_1 w.params) _ _ = _; k_is
theorem sOk_O_name : SetOk (WX w mean mg mb) 144 "name" := ⟨sa_O, po_O, taker_none fi_O_name, hd_O⟩
theorem sOk_O_kind : SetOk (WX w mean mg mb) 144 "kind" := ⟨sa_O, po_O, taker_none fi_O_kind, hd_O⟩
theorem sOk_O_type : SetOk (WX w mean mg mb) 144 "type" := ⟨sa_O, po_O, taker_none fi_O_type, hd_O⟩
theorem fi_O_place : findIn (WX w mean mg mb).K (.ref 144) "place" = some none := by show findIn (hd.heap_1 w.params) _ _ = _; k_is
theorem sOk_O_place : SetOk (WX w mean mg mb) 144 "place" := ⟨sa_O, po_O, taker_none fi_O_place, hd_O⟩
theorem fi_O_exported : findIn (WX w mean mg mb).K (.ref 144) "exported" = some none := by show findIn (hd.heap_1 w.params) _ _ = _; k_is
theorem sOk_O_exported : SetOk (WX w mean mg mb) 144 "exported" := ⟨sa_O, po_O, taker_none fi_O_exported, hd_O⟩
theorem fi_O_readonly : findIn (WX w mean mg mb).K (.ref 144) "readonly" = some none := by show findIn (hd.heap_1 w.params) _ _ = _; k_is
theorem sOk_O_readonly : SetOk (WX w mean mg mb) 144 "readonly" := ⟨sa_O, po_O, taker_none fi_O_readonly, hd_O⟩
theorem fi_O_level : findIn (WX w mean mg mb).K (.ref 144) "level" = some none := by show findIn (hd.heap_1 w.params) _ _ = _; k_is
theorem sOk_O_level : SetOk (WX w mean mg mb) 144 "level" := ⟨sa_O, po_O, taker_none fi_O_level, hd_O⟩
theorem fi_O_module : findIn (WX w mean mg mb).K (.ref 144) "module" = some none := by show findIn (hd.heap_1 w.params) _ _ = _; k_is
theorem sOk_O_module : SetOk (WX w mean mg mb) 144 "module" := ⟨sa_O, po_O, taker_none fi_O_module, hd_O⟩
theorem fi_O_value : findIn (WX w mean mg mb).K (.ref 144) "value" = some none := by show findIn (hd.heap_1 w.params) _ _ = _; k_is
theorem sOk_O_value : SetOk (WX w mean mg mb) 144 "value" := ⟨sa_O, po_O, taker_none fi_O_value, hd_O⟩
theorem sOk_O_slot : SetOk (WX w mean mg mb) 144 "slot" := ⟨sa_O, po_O, taker_none fi_O_slot, hd_O⟩
theorem sOk_O_offset : SetOk (WX w mean mg mb) 144 "offset" := ⟨sa_O, po_O, taker_none fi_O_offset, hd_O⟩
theorem fi_O_number : findIn (WX w mean mg mb).K (.ref 144) "number" = some none := by show findIn (hd.heap_1 w.params) _ _ = _; k_is
theorem sOk_O_number : SetOk (WX w mean mg mb) 144 "number" := ⟨sa_O, po_O, taker_none fi_O_number, hd_O⟩
theorem sOk_O_isparam : SetOk (WX w mean mg mb) 144 "isparam" := ⟨sa_O, po_O, taker_none fi_O_isparam, hd_O⟩
theorem fi_O_narrowed : findIn (WX w mean mg mb).K (.ref 144) "narrowed" = some none := by show findIn (hd.heap_1 w.params) _ _ = _; k_is
theorem sOk_O_narrowed : SetOk (WX w mean mg mb) 144 "narrowed" := ⟨sa_O, po_O, taker_none fi_O_narrowed, hd_O⟩
theorem sOk_S_counter : SetOk (WX w mean mg mb) 180 "counter" := ⟨sa_S, po_S, taker_none fi_S_counter, hd_S⟩
theorem sOk_S_known : SetOk (WX w mean mg mb) 180 "known" := ⟨sa_S, po_S, taker_none fi_S_known, hd_S⟩
theorem sOk_S_boolean : SetOk (WX w mean mg mb) 180 "boolean" := ⟨sa_S, po_S, taker_none fi_S_boolean, hd_S⟩
theorem sOk_S_char : SetOk (WX w mean mg mb) 180 "char" := ⟨sa_S, po_S, taker_none fi_S_char, hd_S⟩
theorem sOk_S_byte : SetOk (WX w mean mg mb) 180 "byte" := ⟨sa_S, po_S, taker_none fi_S_byte, hd_S⟩
theorem sOk_S_integer : SetOk (WX w mean mg mb) 180 "integer" := ⟨sa_S, po_S, taker_none fi_S_integer, hd_S⟩
theorem sOk_S_mask : SetOk (WX w mean mg mb) 180 "mask" := ⟨sa_S, po_S, taker_none fi_S_mask, hd_S⟩
theorem fi_S_nil : findIn (WX w mean mg mb).K (.ref 180) "nil" = some none := by show findIn (hd.heap_1 w.params) _ _ = _; k_is
theorem sOk_S_nil : SetOk (WX w mean mg mb) 180 "nil" := ⟨sa_S, po_S, taker_none fi_S_nil, hd_S⟩
theorem fi_S_none : findIn (WX w mean mg mb).K (.ref 180) "none" = some none := by show findIn (hd.heap_1 w.params) _ _ = _; k_is
theorem sOk_S_none : SetOk (WX w mean mg mb) 180 "none" := ⟨sa_S, po_S, taker_none fi_S_none, hd_S⟩
theorem mOk_new : MethOk (WX w mean mg mb) 180 "new" 170 := ⟨(by show plainGet (hd.heap_1 w.params) _ _ = _; k_is), (by show findIn (hd.heap_1 w.params) _ _ = _; k_is), (by show isFn (hd.heap_1 w.params) _ = _; k_is), (by show keepIn (hd.heap_1 w.params) _ = _; k_is)⟩
theorem kp_alignment : keepIn (WX w mean mg mb).K (.ref 21) = true := by show keepIn (hd.heap_1 w.params) _ = _; k_is
theorem ns_alignment : nsIn (WX w mean mg mb).K mainGlobals "alignment" = some (some (.ref 21)) := by show nsIn (hd.heap_1 w.params) _ _ = _; k_is
theorem kp_align : keepIn (WX w mean mg mb).K (.ref 28) = true := by show keepIn (hd.heap_1 w.params) _ = _; k_is
theorem ns_align : nsIn (WX w mean mg mb).K mainGlobals "align" = some (some (.ref 28)) := by show nsIn (hd.heap_1 w.params) _ _ = _; k_is
theorem kp_whole_words : keepIn (WX w mean mg mb).K (.ref 35) = true := by show keepIn (hd.heap_1 w.params) _ = _; k_is
theorem ns_whole_words : nsIn (WX w mean mg mb).K mainGlobals "whole_words" = some (some (.ref 35)) := by show nsIn (hd.heap_1 w.params) _ _ = _; k_is
theorem kp_array_size : keepIn (WX w mean mg mb).K (.ref 42) = true := by show keepIn (hd.heap_1 w.params) _ = _; k_is
theorem ns_array_size : nsIn (WX w mean mg mb).K mainGlobals "array_size" = some (some (.ref 42)) := by show nsIn (hd.heap_1 w.params) _ _ = _; k_is
theorem kp_place_fields : keepIn (WX w mean mg mb).K (.ref 49) = true := by show keepIn (hd.heap_1 w.params) _ = _; k_is
theorem ns_place_fields : nsIn (WX w mean mg mb).K mainGlobals "place_fields" = some (some (.ref 49)) := by show nsIn (hd.heap_1 w.params) _ _ = _; k_is
theorem kp_place_globals : keepIn (WX w mean mg mb).K (.ref 57) = true := by show keepIn (hd.heap_1 w.params) _ = _; k_is
theorem ns_place_globals : nsIn (WX w mean mg mb).K mainGlobals "place_globals" = some (some (.ref 57)) := by show nsIn (hd.heap_1 w.params) _ _ = _; k_is
theorem kp_param_words : keepIn (WX w mean mg mb).K (.ref 64) = true := by show keepIn (hd.heap_1 w.params) _ = _; k_is
theorem ns_param_words : nsIn (WX w mean mg mb).K mainGlobals "param_words" = some (some (.ref 64)) := by show nsIn (hd.heap_1 w.params) _ _ = _; k_is
theorem kp_place_params : keepIn (WX w mean mg mb).K (.ref 71) = true := by show keepIn (hd.heap_1 w.params) _ = _; k_is
theorem ns_place_params : nsIn (WX w mean mg mb).K mainGlobals "place_params" = some (some (.ref 71)) := by show nsIn (hd.heap_1 w.params) _ _ = _; k_is
theorem kp_place_locals : keepIn (WX w mean mg mb).K (.ref 78) = true := by show keepIn (hd.heap_1 w.params) _ = _; k_is
theorem ns_place_locals : nsIn (WX w mean mg mb).K mainGlobals "place_locals" = some (some (.ref 78)) := by show nsIn (hd.heap_1 w.params) _ _ = _; k_is
theorem kp_pointer_offsets : keepIn (WX w mean mg mb).K (.ref 85) = true := by show keepIn (hd.heap_1 w.params) _ = _; k_is
theorem ns_pointer_offsets : nsIn (WX w mean mg mb).K mainGlobals "pointer_offsets" = some (some (.ref 85)) := by show nsIn (hd.heap_1 w.params) _ _ = _; k_is
theorem kp_record_pointers : keepIn (WX w mean mg mb).K (.ref 92) = true := by show keepIn (hd.heap_1 w.params) _ = _; k_is
theorem ns_record_pointers : nsIn (WX w mean mg mb).K mainGlobals "record_pointers" = some (some (.ref 92)) := by show nsIn (hd.heap_1 w.params) _ _ = _; k_is
theorem kp_distinct : keepIn (WX w mean mg mb).K (.ref 99) = true := by show keepIn (hd.heap_1 w.params) _ = _; k_is
theorem ns_distinct : nsIn (WX w mean mg mb).K mainGlobals "distinct" = some (some (.ref 99)) := by show nsIn (hd.heap_1 w.params) _ _ = _; k_is
theorem kp_address_words : keepIn (WX w mean mg mb).K (.ref 106) = true := by show keepIn (hd.heap_1 w.params) _ = _; k_is
theorem ns_address_words : nsIn (WX w mean mg mb).K mainGlobals "address_words" = some (some (.ref 106)) := by show nsIn (hd.heap_1 w.params) _ _ = _; k_is
theorem kp_Type : keepIn (WX w mean mg mb).K (.ref 123) = true := by show keepIn (hd.heap_1 w.params) _ = _; k_is
theorem ns_Type : nsIn (WX w mean mg mb).K mainGlobals "Type" = some (some (.ref 123)) := by show nsIn (hd.heap_1 w.params) _ _ = _; k_is
theorem kp_Obj : keepIn (WX w mean mg mb).K (.ref 144) = true := by show keepIn (hd.heap_1 w.params) _ = _; k_is
theorem ns_Obj : nsIn (WX w mean mg mb).K mainGlobals "Obj" = some (some (.ref 144)) := by show nsIn (hd.heap_1 w.params) _ _ = _; k_is
theorem kp_Types : keepIn (WX w mean mg mb).K (.ref 180) = true := by show keepIn (hd.heap_1 w.params) _ = _; k_is
theorem ns_Types : nsIn (WX w mean mg mb).K mainGlobals "Types" = some (some (.ref 180)) := by show nsIn (hd.heap_1 w.params) _ _ = _; k_is
theorem kp_law_pool : keepIn (WX w mean mg mb).K (.ref 191) = true := by show keepIn (hd.heap_1 w.params) _ = _; k_is
theorem ns_law_pool : nsIn (WX w mean mg mb).K mainGlobals "_law_pool" = some (some (.ref 191)) := by show nsIn (hd.heap_1 w.params) _ _ = _; k_is
theorem kp_law_pick : keepIn (WX w mean mg mb).K (.ref 198) = true := by show keepIn (hd.heap_1 w.params) _ = _; k_is
theorem ns_law_pick : nsIn (WX w mean mg mb).K mainGlobals "_law_pick" = some (some (.ref 198)) := by show nsIn (hd.heap_1 w.params) _ _ = _; k_is
theorem kp_law_shape : keepIn (WX w mean mg mb).K (.ref 205) = true := by show keepIn (hd.heap_1 w.params) _ = _; k_is
theorem ns_law_shape : nsIn (WX w mean mg mb).K mainGlobals "_law_shape" = some (some (.ref 205)) := by show nsIn (hd.heap_1 w.params) _ _ = _; k_is
theorem kp_law_marks : keepIn (WX w mean mg mb).K (.ref 212) = true := by show keepIn (hd.heap_1 w.params) _ = _; k_is
theorem ns_law_marks : nsIn (WX w mean mg mb).K mainGlobals "_law_marks" = some (some (.ref 212)) := by show nsIn (hd.heap_1 w.params) _ _ = _; k_is
theorem kp_law_step : keepIn (WX w mean mg mb).K (.ref 219) = true := by show keepIn (hd.heap_1 w.params) _ = _; k_is
theorem ns_law_step : nsIn (WX w mean mg mb).K mainGlobals "_law_step" = some (some (.ref 219)) := by show nsIn (hd.heap_1 w.params) _ _ = _; k_is
theorem kp_law_packed : keepIn (WX w mean mg mb).K (.ref 226) = true := by show keepIn (hd.heap_1 w.params) _ = _; k_is
theorem ns_law_packed : nsIn (WX w mean mg mb).K mainGlobals "_law_packed" = some (some (.ref 226)) := by show nsIn (hd.heap_1 w.params) _ _ = _; k_is
theorem nb_len : nsIn (WX w mean mg mb).K mainGlobals "len" = some none := by show nsIn (hd.heap_1 w.params) _ _ = _; k_is
theorem bb_len : bootBuiltins "len" = some (.builtin "len") := by boot_fast
theorem nb_max : nsIn (WX w mean mg mb).K mainGlobals "max" = some none := by show nsIn (hd.heap_1 w.params) _ _ = _; k_is
theorem bb_max : bootBuiltins "max" = some (.builtin "max") := by boot_fast
theorem nb_min : nsIn (WX w mean mg mb).K mainGlobals "min" = some none := by show nsIn (hd.heap_1 w.params) _ _ = _; k_is
theorem bb_min : bootBuiltins "min" = some (.builtin "min") := by boot_fast
theorem nb_abs : nsIn (WX w mean mg mb).K mainGlobals "abs" = some none := by show nsIn (hd.heap_1 w.params) _ _ = _; k_is
theorem bb_abs : bootBuiltins "abs" = some (.builtin "abs") := by boot_fast
theorem nb_sorted : nsIn (WX w mean mg mb).K mainGlobals "sorted" = some none := by show nsIn (hd.heap_1 w.params) _ _ = _; k_is
theorem bb_sorted : bootBuiltins "sorted" = some (.builtin "sorted") := by boot_fast
theorem nb_range : nsIn (WX w mean mg mb).K mainGlobals "range" = some none := by show nsIn (hd.heap_1 w.params) _ _ = _; k_is
theorem bb_range : bootBuiltins "range" = some (.type "range") := by boot_fast
theorem nb_int : nsIn (WX w mean mg mb).K mainGlobals "int" = some none := by show nsIn (hd.heap_1 w.params) _ _ = _; k_is
theorem bb_int : bootBuiltins "int" = some (.type "int") := by boot_fast
theorem nb_list : nsIn (WX w mean mg mb).K mainGlobals "list" = some none := by show nsIn (hd.heap_1 w.params) _ _ = _; k_is
theorem bb_list : bootBuiltins "list" = some (.type "list") := by boot_fast
end
section
variable {w : World} {mean : ExcName → Option Value} {mg mb : Str → Option Value} {φ : Fx} {σ : St} {Q : AV → St → Prop}
theorem Att.t_form (hok : φ.Ok (WX w mean mg mb)) {t : Addr} {v : TyV} (hT : TyAt σ.H t v) (h : Q (.str v.form) σ) : Att (WX w mean mg mb) φ (.ref t) "form" Q σ := by
  obtain ⟨fs, h1, h2⟩ := hT
  exact Att.own hok h1 aOk_T_form h2.form (fun w h => by cases h) h
theorem Att.t_size (hok : φ.Ok (WX w mean mg mb)) {t : Addr} {v : TyV} (hT : TyAt σ.H t v) (h : Q (.int v.size) σ) : Att (WX w mean mg mb) φ (.ref t) "size" Q σ := by
  obtain ⟨fs, h1, h2⟩ := hT
  exact Att.own hok h1 aOk_T_size h2.size (fun w h => by cases h) h
theorem Att.t_base (hok : φ.Ok (WX w mean mg mb)) {t : Addr} {v : TyV} (hT : TyAt σ.H t v) (h : Q (opt v.base) σ) : Att (WX w mean mg mb) φ (.ref t) "base" Q σ := by
  obtain ⟨fs, h1, h2⟩ := hT
  exact Att.own hok h1 aOk_T_base h2.base (by cases v.base <;> (intro w h; cases h)) h
theorem Att.t_length (hok : φ.Ok (WX w mean mg mb)) {t : Addr} {v : TyV} (hT : TyAt σ.H t v) (h : Q (.int v.len) σ) : Att (WX w mean mg mb) φ (.ref t) "length" Q σ := by
  obtain ⟨fs, h1, h2⟩ := hT
  exact Att.own hok h1 aOk_T_length h2.len (fun w h => by cases h) h
theorem Att.t_fields (hok : φ.Ok (WX w mean mg mb)) {t : Addr} {v : TyV} (hT : TyAt σ.H t v) (h : Q (.ref v.flds) σ) : Att (WX w mean mg mb) φ (.ref t) "fields" Q σ := by
  obtain ⟨fs, h1, h2⟩ := hT
  exact Att.own hok h1 aOk_T_fields h2.flds (fun w h => by cases h) h
theorem Att.t_level (hok : φ.Ok (WX w mean mg mb)) {t : Addr} {v : TyV} (hT : TyAt σ.H t v) (h : Q (.int v.level) σ) : Att (WX w mean mg mb) φ (.ref t) "level" Q σ := by
  obtain ⟨fs, h1, h2⟩ := hT
  exact Att.own hok h1 aOk_T_level h2.level (fun w h => by cases h) h
theorem Att.t_hidden (hok : φ.Ok (WX w mean mg mb)) {t : Addr} {v : TyV} (hT : TyAt σ.H t v) (h : Q (.ref v.hid) σ) : Att (WX w mean mg mb) φ (.ref t) "hidden" Q σ := by
  obtain ⟨fs, h1, h2⟩ := hT
  exact Att.own hok h1 aOk_T_hidden h2.hid (fun w h => by cases h) h
theorem Att.o_kind (hok : φ.Ok (WX w mean mg mb)) {t : Addr} {v : ObV} (hT : ObAt σ.H t v) (h : Q (.str v.kind) σ) : Att (WX w mean mg mb) φ (.ref t) "kind" Q σ := by
  obtain ⟨fs, h1, h2⟩ := hT
  exact Att.own hok h1 aOk_O_kind h2.kind (fun w h => by cases h) h
theorem Att.o_type (hok : φ.Ok (WX w mean mg mb)) {t : Addr} {v : ObV} (hT : ObAt σ.H t v) (h : Q (.ref v.type) σ) : Att (WX w mean mg mb) φ (.ref t) "type" Q σ := by
  obtain ⟨fs, h1, h2⟩ := hT
  exact Att.own hok h1 aOk_O_type h2.type (fun w h => by cases h) h
theorem Att.o_slot (hok : φ.Ok (WX w mean mg mb)) {t : Addr} {v : ObV} (hT : ObAt σ.H t v) (h : Q (.int v.slot) σ) : Att (WX w mean mg mb) φ (.ref t) "slot" Q σ := by
  obtain ⟨fs, h1, h2⟩ := hT
  exact Att.own hok h1 aOk_O_slot h2.slot (fun w h => by cases h) h
theorem Att.o_offset (hok : φ.Ok (WX w mean mg mb)) {t : Addr} {v : ObV} (hT : ObAt σ.H t v) (h : Q (.int v.offset) σ) : Att (WX w mean mg mb) φ (.ref t) "offset" Q σ := by
  obtain ⟨fs, h1, h2⟩ := hT
  exact Att.own hok h1 aOk_O_offset h2.offset (fun w h => by cases h) h
theorem Att.o_isparam (hok : φ.Ok (WX w mean mg mb)) {t : Addr} {v : ObV} (hT : ObAt σ.H t v) (h : Q (.bool v.isparam) σ) : Att (WX w mean mg mb) φ (.ref t) "isparam" Q σ := by
  obtain ⟨fs, h1, h2⟩ := hT
  exact Att.own hok h1 aOk_O_isparam h2.isparam (fun w h => by cases h) h
theorem SetAtt.t_size (hok : φ.Ok (WX w mean mg mb)) {t : Addr} {v : TyV} (n : Int) {Q : St → Prop} (hT : TyAt σ.H t v) (h : ∀ H', TyAt H' t { v with size := n } → (∀ b, b ≠ t → H' b = σ.H b) → Q ⟨σ.m, H'⟩) : SetAtt (WX w mean mg mb) φ (.ref t) "size" (.int n) Q σ := by
  obtain ⟨fs, h1, h2⟩ := hT
  refine SetAtt.own hok h1 sOk_T_size (by have := h2.short; omega) (h _ ⟨_, hset_self, ⟨fget_put_ne h2.form, fget_put_eq, fget_put_ne h2.base, fget_put_ne h2.len, fget_put_ne h2.flds, fget_put_ne h2.level, fget_put_ne h2.hid, ?_⟩⟩ fun b hb => hset_ne hb)
  rw [fput_length _ _ _ (by rw [h2.size]; rfl)]; exact h2.short
theorem SetAtt.t_base (hok : φ.Ok (WX w mean mg mb)) {t : Addr} {v : TyV} (n : Option Addr) {Q : St → Prop} (hT : TyAt σ.H t v) (h : ∀ H', TyAt H' t { v with base := n } → (∀ b, b ≠ t → H' b = σ.H b) → Q ⟨σ.m, H'⟩) : SetAtt (WX w mean mg mb) φ (.ref t) "base" (opt n) Q σ := by
  obtain ⟨fs, h1, h2⟩ := hT
  refine SetAtt.own hok h1 sOk_T_base (by have := h2.short; omega) (h _ ⟨_, hset_self, ⟨fget_put_ne h2.form, fget_put_ne h2.size, fget_put_eq, fget_put_ne h2.len, fget_put_ne h2.flds, fget_put_ne h2.level, fget_put_ne h2.hid, ?_⟩⟩ fun b hb => hset_ne hb)
  rw [fput_length _ _ _ (by rw [h2.base]; rfl)]; exact h2.short
theorem SetAtt.t_length (hok : φ.Ok (WX w mean mg mb)) {t : Addr} {v : TyV} (n : Int) {Q : St → Prop} (hT : TyAt σ.H t v) (h : ∀ H', TyAt H' t { v with len := n } → (∀ b, b ≠ t → H' b = σ.H b) → Q ⟨σ.m, H'⟩) : SetAtt (WX w mean mg mb) φ (.ref t) "length" (.int n) Q σ := by
  obtain ⟨fs, h1, h2⟩ := hT
  refine SetAtt.own hok h1 sOk_T_length (by have := h2.short; omega) (h _ ⟨_, hset_self, ⟨fget_put_ne h2.form, fget_put_ne h2.size, fget_put_ne h2.base, fget_put_eq, fget_put_ne h2.flds, fget_put_ne h2.level, fget_put_ne h2.hid, ?_⟩⟩ fun b hb => hset_ne hb)
  rw [fput_length _ _ _ (by rw [h2.len]; rfl)]; exact h2.short
theorem SetAtt.t_fields (hok : φ.Ok (WX w mean mg mb)) {t : Addr} {v : TyV} (n : Addr) {Q : St → Prop} (hT : TyAt σ.H t v) (h : ∀ H', TyAt H' t { v with flds := n } → (∀ b, b ≠ t → H' b = σ.H b) → Q ⟨σ.m, H'⟩) : SetAtt (WX w mean mg mb) φ (.ref t) "fields" (.ref n) Q σ := by
  obtain ⟨fs, h1, h2⟩ := hT
  refine SetAtt.own hok h1 sOk_T_fields (by have := h2.short; omega) (h _ ⟨_, hset_self, ⟨fget_put_ne h2.form, fget_put_ne h2.size, fget_put_ne h2.base, fget_put_ne h2.len, fget_put_eq, fget_put_ne h2.level, fget_put_ne h2.hid, ?_⟩⟩ fun b hb => hset_ne hb)
  rw [fput_length _ _ _ (by rw [h2.flds]; rfl)]; exact h2.short
theorem SetAtt.t_level (hok : φ.Ok (WX w mean mg mb)) {t : Addr} {v : TyV} (n : Int) {Q : St → Prop} (hT : TyAt σ.H t v) (h : ∀ H', TyAt H' t { v with level := n } → (∀ b, b ≠ t → H' b = σ.H b) → Q ⟨σ.m, H'⟩) : SetAtt (WX w mean mg mb) φ (.ref t) "level" (.int n) Q σ := by
  obtain ⟨fs, h1, h2⟩ := hT
  refine SetAtt.own hok h1 sOk_T_level (by have := h2.short; omega) (h _ ⟨_, hset_self, ⟨fget_put_ne h2.form, fget_put_ne h2.size, fget_put_ne h2.base, fget_put_ne h2.len, fget_put_ne h2.flds, fget_put_eq, fget_put_ne h2.hid, ?_⟩⟩ fun b hb => hset_ne hb)
  rw [fput_length _ _ _ (by rw [h2.level]; rfl)]; exact h2.short
theorem SetAtt.t_hidden (hok : φ.Ok (WX w mean mg mb)) {t : Addr} {v : TyV} (n : Addr) {Q : St → Prop} (hT : TyAt σ.H t v) (h : ∀ H', TyAt H' t { v with hid := n } → (∀ b, b ≠ t → H' b = σ.H b) → Q ⟨σ.m, H'⟩) : SetAtt (WX w mean mg mb) φ (.ref t) "hidden" (.ref n) Q σ := by
  obtain ⟨fs, h1, h2⟩ := hT
  refine SetAtt.own hok h1 sOk_T_hidden (by have := h2.short; omega) (h _ ⟨_, hset_self, ⟨fget_put_ne h2.form, fget_put_ne h2.size, fget_put_ne h2.base, fget_put_ne h2.len, fget_put_ne h2.flds, fget_put_ne h2.level, fget_put_eq, ?_⟩⟩ fun b hb => hset_ne hb)
  rw [fput_length _ _ _ (by rw [h2.hid]; rfl)]; exact h2.short
theorem SetAtt.o_slot (hok : φ.Ok (WX w mean mg mb)) {t : Addr} {v : ObV} (n : Int) {Q : St → Prop} (hT : ObAt σ.H t v) (h : ∀ H', ObAt H' t { v with slot := n } → (∀ b, b ≠ t → H' b = σ.H b) → Q ⟨σ.m, H'⟩) : SetAtt (WX w mean mg mb) φ (.ref t) "slot" (.int n) Q σ := by
  obtain ⟨fs, h1, h2⟩ := hT
  refine SetAtt.own hok h1 sOk_O_slot (by have := h2.short; omega) (h _ ⟨_, hset_self, ⟨fget_put_ne h2.kind, fget_put_ne h2.type, fget_put_eq, fget_put_ne h2.offset, fget_put_ne h2.isparam, ?_⟩⟩ fun b hb => hset_ne hb)
  rw [fput_length _ _ _ (by rw [h2.slot]; rfl)]; exact h2.short
theorem SetAtt.o_offset (hok : φ.Ok (WX w mean mg mb)) {t : Addr} {v : ObV} (n : Int) {Q : St → Prop} (hT : ObAt σ.H t v) (h : ∀ H', ObAt H' t { v with offset := n } → (∀ b, b ≠ t → H' b = σ.H b) → Q ⟨σ.m, H'⟩) : SetAtt (WX w mean mg mb) φ (.ref t) "offset" (.int n) Q σ := by
  obtain ⟨fs, h1, h2⟩ := hT
  refine SetAtt.own hok h1 sOk_O_offset (by have := h2.short; omega) (h _ ⟨_, hset_self, ⟨fget_put_ne h2.kind, fget_put_ne h2.type, fget_put_ne h2.slot, fget_put_eq, fget_put_ne h2.isparam, ?_⟩⟩ fun b hb => hset_ne hb)
  rw [fput_length _ _ _ (by rw [h2.offset]; rfl)]; exact h2.short
theorem SetAtt.o_isparam (hok : φ.Ok (WX w mean mg mb)) {t : Addr} {v : ObV} (n : Bool) {Q : St → Prop} (hT : ObAt σ.H t v) (h : ∀ H', ObAt H' t { v with isparam := n } → (∀ b, b ≠ t → H' b = σ.H b) → Q ⟨σ.m, H'⟩) : SetAtt (WX w mean mg mb) φ (.ref t) "isparam" (.bool n) Q σ := by
  obtain ⟨fs, h1, h2⟩ := hT
  refine SetAtt.own hok h1 sOk_O_isparam (by have := h2.short; omega) (h _ ⟨_, hset_self, ⟨fget_put_ne h2.kind, fget_put_ne h2.type, fget_put_ne h2.slot, fget_put_ne h2.offset, fget_put_eq, ?_⟩⟩ fun b hb => hset_ne hb)
  rw [fput_length _ _ _ (by rw [h2.isparam]; rfl)]; exact h2.short
/-- calls of the program's own, by name -/
theorem GN.def_ (hok : φ.Ok (WX w mean mg mb)) {sc : Scope} {x : Str} {v : Value} (hs : φ.cs = sc) (e : nsIn (WX w mean mg mb).K mainGlobals x = some (some v)) (hx : sc.names.lookup x = some .globalImplicit) (hd : (x == ("__debug__" : Str)) = false := by decide) : GN (WX w mean mg mb) φ φ.env x v :=
  GN.K hok e rfl hok.k (kind_of hs hx) hd
theorem GN.blt (hok : φ.Ok (WX w mean mg mb)) {sc : Scope} {x : Str} {v : Value} (hs : φ.cs = sc) (e : nsIn (WX w mean mg mb).K mainGlobals x = some none) (hv : bootBuiltins x = some v) (hx : sc.names.lookup x = some .globalImplicit) (hn : x ≠ "__name__" := by decide) (hd : (x == ("__debug__" : Str)) = false := by decide) : GN (WX w mean mg mb) φ φ.env x v :=
  GN.B hok e hv rfl rfl hok.k (kind_of hs hx) hn hd
theorem Ev.callG {f : Str} {a : Addr} (e : nsIn (WX w mean mg mb).K mainGlobals f = some (some (.ref a))) (hk : keepIn (WX w mean mg mb).K (.ref a) = true) (hok : φ.Ok (WX w mean mg mb)) {sc : Scope} (hs : φ.cs = sc) (hx : sc.names.lookup f = some .globalImplicit) {p pos : Pos} {x : Expr} {rest : List Expr}
    (h : Evs (WX w mean mg mb) φ φ.env pos (x :: rest) (fun xs σ₁ => CallA (WX w mean mg mb) φ (.ref a) xs Q σ₁) σ) (hd : (f == ("__debug__" : Str)) = false)
    (he : starEach (x :: rest) φ.env = (false, eval x φ.env) :: starEach rest φ.env) (hplain : (backTo pos (starEach rest φ.env)).any (·.1) = false) : Ev (WX w mean mg mb) φ φ.env (.Call (.Name f p) (x :: rest) [] pos) Q σ :=
  Ev.callF hok (GN.def_ hok hs e hx hd) hk h he hplain
theorem Ev.callGB {f : Str} {id : String} (e : nsIn (WX w mean mg mb).K mainGlobals f = some none) (hb : bootBuiltins f = some (.builtin id)) (hok : φ.Ok (WX w mean mg mb)) {sc : Scope} (hs : φ.cs = sc) (hx : sc.names.lookup f = some .globalImplicit) {p pos : Pos} {x : Expr} {rest : List Expr}
    (h : Evs (WX w mean mg mb) φ φ.env pos (x :: rest) (fun xs σ₁ => CallA (WX w mean mg mb) φ (.builtin id) xs Q σ₁) σ) (hn : f ≠ "__name__") (hd : (f == ("__debug__" : Str)) = false)
    (he : starEach (x :: rest) φ.env = (false, eval x φ.env) :: starEach rest φ.env) (hplain : (backTo pos (starEach rest φ.env)).any (·.1) = false) : Ev (WX w mean mg mb) φ φ.env (.Call (.Name f p) (x :: rest) [] pos) Q σ :=
  Ev.callB (GN.blt hok hs e hb hx hn hd) h he hplain
theorem Ev.callGT {f : Str} {id : String} (e : nsIn (WX w mean mg mb).K mainGlobals f = some none) (hb : bootBuiltins f = some (.type id)) (hok : φ.Ok (WX w mean mg mb)) {sc : Scope} (hs : φ.cs = sc) (hx : sc.names.lookup f = some .globalImplicit) {p pos : Pos} {x : Expr} {rest : List Expr}
    (h : Evs (WX w mean mg mb) φ φ.env pos (x :: rest) (fun xs σ₁ => CallA (WX w mean mg mb) φ (.type id) xs Q σ₁) σ) (hn : f ≠ "__name__") (hd : (f == ("__debug__" : Str)) = false)
    (he : starEach (x :: rest) φ.env = (false, eval x φ.env) :: starEach rest φ.env) (hplain : (backTo pos (starEach rest φ.env)).any (·.1) = false) : Ev (WX w mean mg mb) φ φ.env (.Call (.Name f p) (x :: rest) [] pos) Q σ :=
  Ev.callT (GN.blt hok hs e hb hx hn hd) h he hplain
end
local macro_rules | `(tactic| walk_at "ns") => `(tactic| first | exact ns_alignment | exact ns_align | exact ns_whole_words | exact ns_array_size | exact ns_place_fields | exact ns_place_globals | exact ns_param_words | exact ns_place_params | exact ns_place_locals | exact ns_pointer_offsets | exact ns_record_pointers | exact ns_distinct | exact ns_address_words | exact ns_Type | exact ns_Obj | exact ns_Types | exact ns_law_pool | exact ns_law_pick | exact ns_law_shape | exact ns_law_marks | exact ns_law_step | exact ns_law_packed)
local macro_rules | `(tactic| walk_at "kp") => `(tactic| first | exact kp_alignment | exact kp_align | exact kp_whole_words | exact kp_array_size | exact kp_place_fields | exact kp_place_globals | exact kp_param_words | exact kp_place_params | exact kp_place_locals | exact kp_pointer_offsets | exact kp_record_pointers | exact kp_distinct | exact kp_address_words | exact kp_Type | exact kp_Obj | exact kp_Types | exact kp_law_pool | exact kp_law_pick | exact kp_law_shape | exact kp_law_marks | exact kp_law_step | exact kp_law_packed)
local macro_rules | `(tactic| walk_at "nb") => `(tactic| first | exact nb_len | exact nb_max | exact nb_min | exact nb_abs | exact nb_sorted | exact nb_range | exact nb_int | exact nb_list)
local macro_rules | `(tactic| walk_at "bb") => `(tactic| first | exact bb_len | exact bb_max | exact bb_min | exact bb_abs | exact bb_sorted | exact bb_range | exact bb_int | exact bb_list)
local macro_rules | `(tactic| walk_at "call") => `(tactic| with_reducible first
  | refine Ev.callG (by walk_at "ns") (by walk_at "kp") (by assumption) (by assumption) (by k_dflt rfl) ?_ (by decide) (by k_dflt rfl) (by k_dflt rfl)
  | refine Ev.callGB (by walk_at "nb") (by walk_at "bb") (by assumption) (by assumption) (by k_dflt rfl) ?_ (by decide) (by decide) (by k_dflt rfl) (by k_dflt rfl)
  | refine Ev.callGT (by walk_at "nb") (by walk_at "bb") (by assumption) (by assumption) (by k_dflt rfl) ?_ (by decide) (by decide) (by k_dflt rfl) (by k_dflt rfl)
  | refine Ev.method (by assumption) ?_ (by k_dflt rfl) (by k_dflt rfl) (by k_dflt rfl)
  | refine Ev.callF0 (by assumption) (GN.def_ (by assumption) (by assumption) ns_Types (by k_dflt rfl)) kp_Types ?_
  | fail "call: no step")
/-- a heap holds all that another holds -/
def Le (G H : Addr → Option AO) : Prop := ∀ a o, G a = some o → H a = some o
theorem Le.rfl' {G : Addr → Option AO} : Le G G := fun _ _ h => h
theorem Le.trans {G H K : Addr → Option AO} (h : Le G H) (k : Le H K) : Le G K := fun a o e => k a o (h a o e)
theorem Le.new {G H : Addr → Option AO} {a : Addr} {o : AO} (h : Le G H) (ha : H a = none) : Le G (hset H a o) := fun b x e => by
  have := h b x e
  rw [hset_ne]
  · exact this
  · intro e'; rw [e', ha] at this; cases this
theorem Le.ty {G H : Addr → Option AO} (h : Le G H) {t : Addr} {v : TyV} (x : TyAt G t v) : TyAt H t v := let ⟨fs, e, i⟩ := x; ⟨fs, h _ _ e, i⟩
theorem Le.ob {G H : Addr → Option AO} (h : Le G H) {t : Addr} {v : ObV} (x : ObAt G t v) : ObAt H t v := let ⟨fs, e, i⟩ := x; ⟨fs, h _ _ e, i⟩

/-- a record's field: the object, its place, its type -/
structure FI where
  o : Addr
  off : Nat
  ty : Addr
inductive TK where
  | prim
  | ptr
  | arr (b : Addr) (n : Nat)
  | rcd (b : Option Addr) (fs : List FI) (hid : List Nat) (cf : List (Nat × List Bool)) (ch : List Nat)
structure TI where
  form : Str
  size : Nat
  step : Nat
  marks : List Bool
  rank : Nat
  kind : TK

def TK.cf : TK → List (Nat × List Bool)
  | .rcd _ _ _ cf _ => cf
  | _ => []
def TK.ch : TK → List Nat
  | .rcd _ _ _ _ ch => ch
  | _ => []
def TK.isRec : TK → Bool
  | .rcd .. => true
  | _ => false

/-- one field's marks laid into the row -/
def place (row : List Bool) (p : Nat × List Bool) : List Bool := row.take p.1 ++ p.2 ++ row.drop (p.1 + p.2.length)
def rowOf (size : Nat) (cf : List (Nat × List Bool)) (ch : List Nat) : List Bool := ch.foldl (fun r s => r.set s true) (cf.foldl place (List.replicate size false))
def posOf (mk : List Bool) : List Nat := (List.range mk.length).filter fun s => mk[s]? == some true

def small (form : Str) : Bool := form == ("boolean" : Str) || form == ("char" : Str) || form == ("byte" : Str)

/-- what holds of a type's marks -/
structure Gd (ti : TI) : Prop where
  len : ti.marks.length = ti.size
  st : ti.step = 1 ∨ ti.step = 4
  pos : ∀ s : Nat, ti.marks[s]? = some true → s % 4 = 0 ∧ ti.size % 4 = 0 ∧ ti.step = 4
  big : ti.size ≤ 100
  cnt : 4 * (posOf ti.marks).length ≤ ti.size
  rk : ti.rank ≤ 100

/-- a type in the frozen heap -/
structure TyOk (T : Addr → Option TI) (G : Addr → Option AO) (t : Addr) (ti : TI) : Prop where
  gd : Gd ti
  at_ : ∃ v : TyV, TyAt G t v ∧ v.form = ti.form ∧ v.size = ti.size ∧ (match ti.kind with
    | .prim => ti.form ≠ "array" ∧ ti.form ≠ "record" ∧ ti.form ≠ "pointer" ∧ ti.step = (if small ti.form = true then 1 else 4) ∧ ti.marks = List.replicate ti.size false
    | .ptr => ti.form = "pointer" ∧ ti.step = 4 ∧ ti.size = 4 ∧ ti.marks = [true, false, false, false]
    | .arr b n => ti.form = "array" ∧ v.base = some b ∧ v.len = n ∧ n ≤ 100 ∧ ∃ tb, T b = some tb ∧ tb.rank < ti.rank ∧ ti.size = n * tb.size ∧ ti.marks = (List.replicate n tb.marks).flatten ∧ ti.step = tb.step
    | .rcd b fs hid cf ch => ti.form = "record" ∧ v.base = b ∧ ti.step = 4 ∧ G v.flds = some (.lst (fs.map fun f => .ref f.o)) ∧ fs.length ≤ 100 ∧ G v.hid = some (.lst (hid.map fun s : Nat => AV.int s)) ∧
        (∀ f ∈ fs, (∃ ov : ObV, ObAt G f.o ov ∧ ov.type = f.ty ∧ ov.offset = f.off) ∧ ∃ tf, T f.ty = some tf ∧ tf.rank < ti.rank) ∧
        (∀ b', b = some b' → ∃ tb, T b' = some tb ∧ tb.rank < ti.rank ∧ tb.kind.isRec = true) ∧
        cf = (fs.map fun f => (f.off, ((T f.ty).map TI.marks).getD [])) ++ (match b with | some b' => ((T b').map fun tb => tb.kind.cf).getD [] | none => []) ∧
        ch = hid ++ (match b with | some b' => ((T b').map fun tb => tb.kind.ch).getD [] | none => []) ∧
        ti.marks = rowOf ti.size cf ch ∧ (∀ p ∈ cf, p.1 + p.2.length ≤ ti.size) ∧ cf.Pairwise (fun p q => p.1 + p.2.length ≤ q.1 ∨ q.1 + q.2.length ≤ p.1) ∧ (∀ s ∈ ch, s < ti.size) ∧
        4 * (cf.map fun p => (posOf p.2).length).sum ≤ ti.size ∧ ch.length ≤ 20)
def WF (T : Addr → Option TI) (G : Addr → Option AO) : Prop := ∀ t ti, T t = some ti → TyOk T G t ti

section
variable {w : World} {mean : ExcName → Option Value} {mg mb : Str → Option Value} {φ : Fx} {σ : St} {T : Addr → Option TI} {G : Addr → Option AO} {Q : AV → St → Prop}

/-- the walk down an array's elements, as two defs do it -/
theorem down_loop {sc : Scope} (hok : φ.Ok (WX w mean mg mb)) (hsc : φ.cs = sc) (hl : sc.names.lookup (Str.ofString "t") = some .local) (hW : WF T G) {t : Addr} {ti : TI} (hT : T t = some ti) (hG : Le G σ.H) (hm : σ.m "t" = some (.ref t)) {p1 p2 p3 p4 p5 p6 p7 p8 p9 : Pos} {rest : List Stmt} {Q : AF → St → Prop}
    (h : ∀ t' ti' σ', T t' = some ti' → ti'.step = ti.step → ti'.form ≠ "array" → σ'.m "t" = some (.ref t') → σ'.H = σ.H → Exs (WX w mean mg mb) φ rest Q σ') :
    Exs (WX w mean mg mb) φ (.While (.Compare (.Attribute (.Name "t" p1) "form" p2) [.Eq] [.Constant (.str "array") 0 p3] p4) [.Assign [.Name "t" p5] (.Attribute (.Name "t" p6) "base" p7) p8] [] p9 :: rest) Q σ := by
  refine Exs.cons (Ex1.while_ (fun n σ' => ∃ t' ti', T t' = some ti' ∧ ti'.step = ti.step ∧ σ'.m "t" = some (.ref t') ∧ σ'.H = σ.H ∧ n = ti'.rank) ?_ ti.rank ⟨t, ti, hT, rfl, hm, rfl, rfl⟩)
  rintro n σ' ⟨t', ti', hT', hs, hm', hH, rfl⟩
  intro JN hJN
  obtain ⟨gd, v, hv, hf, hz, hk⟩ := hW t' ti' hT'
  have hv' : TyAt σ'.H t' v := by rw [hH]; exact hG.ty hv
  refine Co.cmp (Ev.attr (Ev.loc hok (loc_of hsc hl) hm' (Att.t_form hok hv' (Ev.cStr (Cmp.eqS ⟨_, rfl, ?_⟩))) (by decide)) (by with_unfolding_all rfl)) (by with_unfolding_all rfl)
  rw [hf]
  refine ite_b (fun e => ?_) fun e => ?_
  · have e' : ti'.form = "array" := beq_iff_eq.mp e
    cases hkd : ti'.kind with
    | prim => rw [hkd] at hk; exact absurd e' hk.1
    | ptr => rw [hkd] at hk; rw [hk.1] at e'; exact absurd e' (by decide)
    | rcd b fs hid cf ch => rw [hkd] at hk; rw [hk.1] at e'; exact absurd e' (by decide)
    | arr b n =>
      rw [hkd] at hk
      obtain ⟨_, hb, hn, _, tb, hTb, hr, _, _, hst⟩ := hk
      refine Exs.cons (Ex1.assign hok (loc_of hsc hl) (Ev.attr (Ev.loc hok (loc_of hsc hl) hm' (Att.t_base hok hv' ?_) (by decide)) (by with_unfolding_all rfl)))
      rw [hb]
      exact thn_next (Exs.nil (turn_next hJN ⟨tb.rank, hr, b, tb, hTb, by rw [← hst]; exact hs, rfl, hH, rfl⟩))
  · refine thn_next (h t' ti' σ' hT' hs (fun e' => ?_) hm' hH)
    rw [e'] at e; revert e; decide

/-- the two forms' sizes of step -/
theorem step_of (hW : WF T G) {t : Addr} {ti : TI} (hT : T t = some ti) (hn : ti.form ≠ "array") : ti.step = if small ti.form = true then 1 else 4 := by
  obtain ⟨gd, v, hv, hf', hz, hk⟩ := hW t ti hT
  cases hkd : ti.kind with
  | prim => rw [hkd] at hk; exact hk.2.2.2.1
  | ptr => rw [hkd] at hk; rw [hk.1, hk.2.1]; rfl
  | arr b n => rw [hkd] at hk; exact absurd hk.1 hn
  | rcd b fs hid cf ch => rw [hkd] at hk; rw [hk.1, hk.2.2.1]; rfl

theorem alignment_spec (hok : φ.Ok (WX w mean mg mb)) {n : Nat} (hroom : Room φ (n + 1)) (hW : WF T G) {t : Addr} {ti : TI} (hT : T t = some ti) (hG : Le G σ.H) (h : ∀ H', Le σ.H H' → Q (.int ti.step) ⟨σ.m, H'⟩) : CallA (WX w mean mg mb) φ (.ref 21) [.ref t] Q σ := by
  refine' CallA.fn1 "t" hok (by walk_at "fn") hroom.lt (by walk_at "bd") (by decide) ?_
  intro φ' o1 o2 o3 o4 o5
  refine down_loop o1 o2 (by rfl) hW hT (by exact hG) (by rfl) ?_
  intro t' ti' σ' hT' hs hf hm' hH
  have hst := step_of hW hT' hf
  obtain ⟨gd, v, hv, hf', hz, hk⟩ := hW t' ti' hT'
  have hv' : TyAt σ'.H t' v := by rw [hH]; exact hG.ty hv
  repeat walk_at "ev"
  refine Att.t_form o1 hv' ?_
  repeat walk_at "ev"
  refine ⟨by decide, fun a ha => ?_⟩
  refine Cmp.inT (ys := ["boolean", "char", "byte"]) hset_self ⟨_, rfl, ?_⟩
  have e : ([("boolean" : Str), "char", "byte"].any fun x => x == v.form) = small ti'.form := by
    rw [hf']; simp only [small, List.any_cons, List.any_nil, Bool.or_false, Bool.beq_comm, Bool.or_assoc]
  rw [e]
  have hL : Le σ.H (hset σ'.H a (.tup [.str "boolean", .str "char", .str "byte"])) := by rw [hH]; exact Le.new Le.rfl' (by rw [← hH]; exact ha)
  refine ite_b (fun e => ?_) fun e => ?_
  · repeat walk_at "ev"
    rw [← hs, hst, if_pos e] at h
    exact h _ hL
  · repeat walk_at "ev"
    rw [← hs, hst, if_neg (by rw [e]; exact Bool.false_ne_true)] at h
    exact h _ hL

theorem law_step_spec (hok : φ.Ok (WX w mean mg mb)) {n : Nat} (hroom : Room φ (n + 1)) (hW : WF T G) {t : Addr} {ti : TI} (hT : T t = some ti) (hG : Le G σ.H) (h : ∀ H', Le σ.H H' → Q (.int ti.step) ⟨σ.m, H'⟩) : CallA (WX w mean mg mb) φ (.ref 219) [.ref t] Q σ := by
  refine' CallA.fn1 "t" hok (by walk_at "fn") hroom.lt (by walk_at "bd") (by decide) ?_
  intro φ' o1 o2 o3 o4 o5
  refine down_loop o1 o2 (by rfl) hW hT (by exact hG) (by rfl) ?_
  intro t' ti' σ' hT' hs hf hm' hH
  have hst := step_of hW hT' hf
  obtain ⟨gd, v, hv, hf', hz, hk⟩ := hW t' ti' hT'
  have hv' : TyAt σ'.H t' v := by rw [hH]; exact hG.ty hv
  repeat walk_at "ev"
  refine Att.t_form o1 hv' ?_
  repeat walk_at "ev"
  refine ⟨by decide, fun a ha => ?_⟩
  refine Cmp.inL (ys := ["byte", "char", "boolean"]) hset_self ⟨_, rfl, ?_⟩
  have e : ([("byte" : Str), "char", "boolean"].any fun x => x == v.form) = small ti'.form := by
    rw [hf']; simp only [small, List.any_cons, List.any_nil, Bool.or_false]
    rw [Bool.beq_comm (a := ("byte" : Str)), Bool.beq_comm (a := ("char" : Str)), Bool.beq_comm (a := ("boolean" : Str))]
    cases ti'.form == ("byte" : Str) <;> cases ti'.form == ("char" : Str) <;> cases ti'.form == ("boolean" : Str) <;> rfl
  rw [e]
  have hL : Le σ.H (hset σ'.H a (.lst [.str "byte", .str "char", .str "boolean"])) := by rw [hH]; exact Le.new Le.rfl' (by rw [← hH]; exact ha)
  refine ite_b (fun e => ?_) fun e => ?_
  · repeat walk_at "ev"
    rw [← hs, hst, if_pos e] at h
    exact h _ hL
  · repeat walk_at "ev"
    rw [← hs, hst, if_neg (by rw [e]; exact Bool.false_ne_true)] at h
    exact h _ hL

/-- up to the next step -/
def alignI (o : Int) (s : Nat) : Int := (o + s - 1).fdiv s * s
theorem align_spec (hok : φ.Ok (WX w mean mg mb)) {n : Nat} (hroom : Room φ (n + 2)) (hW : WF T G) {t : Addr} {ti : TI} {o : Int} (hT : T t = some ti) (hG : Le G σ.H) (h : ∀ H', Le σ.H H' → Q (.int (alignI o ti.step)) ⟨σ.m, H'⟩) : CallA (WX w mean mg mb) φ (.ref 28) [.int o, .ref t] Q σ := by
  refine' CallA.fn2 "offset" "t" hok (by walk_at "fn") hroom.lt (by walk_at "bd") (by decide) ?_
  intro φ' o1 o2 o3 o4 o5
  have r1 : Room φ' (n + 1) := hroom.call o4 o5
  walk_at "ev"
  walk_at "ev"
  walk_at "call"
  repeat walk_at "ev"
  refine alignment_spec o1 r1 hW hT hG fun H' hL => ?_
  have st := (hW t ti hT).gd.st
  have hne : (ti.step : Int) ≠ 0 := by omega
  have hb : Builtin.Int.intBits ti.step ≤ 64 := PySem.intBits_le_64 (by omega) (by omega)
  repeat walk_at "ev"
  refine Bin.fdiv hne (PyProof.noPylong_small (by omega)) ?_
  repeat walk_at "ev"
  refine Bin.mul (IntMulOk.of_right hb) ?_
  repeat walk_at "ev"
  exact h H' hL
end
theorem WF.ty {T : Addr → Option TI} {G : Addr → Option AO} (hW : WF T G) {t : Addr} {ti : TI} (hT : T t = some ti) : ∃ v : TyV, TyAt G t v ∧ v.form = ti.form ∧ v.size = ti.size := by
  obtain ⟨gd, v, hv, hf, hz, hk⟩ := hW t ti hT
  exact ⟨v, hv, hf, hz⟩
theorem Le.upd {G H H' : Addr → Option AO} {x : Addr} (h : Le G H) (hx : G x = none) (hs : ∀ b, b ≠ x → H' b = H b) : Le G H' := fun a o e => by
  rw [hs a (fun e' => by rw [e', hx] at e; cases e)]; exact h a o e
theorem TyAt.ne_ob {H : Addr → Option AO} {a b : Addr} {v : TyV} {u : ObV} (h : TyAt H a v) (k : ObAt H b u) : a ≠ b := fun e => by
  obtain ⟨fs, h1, _⟩ := h
  obtain ⟨gs, h2, _⟩ := k
  rw [e, h2] at h1
  cases h1
theorem TyAt.ne_lst {H : Addr → Option AO} {a b : Addr} {v : TyV} {xs : List AV} (h : TyAt H a v) (k : H b = some (.lst xs)) : a ≠ b := fun e => by
  obtain ⟨fs, h1, _⟩ := h
  rw [e, k] at h1; cases h1
theorem ObAt.ne_lst {H : Addr → Option AO} {a b : Addr} {v : ObV} {xs : List AV} (h : ObAt H a v) (k : H b = some (.lst xs)) : a ≠ b := fun e => by
  obtain ⟨fs, h1, _⟩ := h
  rw [e, k] at h1; cases h1
theorem TyAt.keep {H H' : Addr → Option AO} {a : Addr} {v : TyV} (h : TyAt H a v) (e : H' a = H a) : TyAt H' a v := let ⟨fs, h1, h2⟩ := h; ⟨fs, e.trans h1, h2⟩
theorem ObAt.keep {H H' : Addr → Option AO} {a : Addr} {v : ObV} (h : ObAt H a v) (e : H' a = H a) : ObAt H' a v := let ⟨fs, h1, h2⟩ := h; ⟨fs, e.trans h1, h2⟩

/-- up to the next step, below nought nothing -/
def alignN (o s : Nat) : Nat := (o + s - 1) / s * s
theorem alignI_nat (o s : Nat) (hs : s = 1 ∨ s = 4) : alignI (o : Int) s = (alignN o s : Nat) := by
  unfold alignI alignN
  rcases hs with rfl | rfl
  · rw [Int.fdiv_eq_ediv_of_nonneg _ (by omega)]; omega
  · rw [Int.fdiv_eq_ediv_of_nonneg _ (by omega)]; omega
/-- places one behind the other: (size, step) each -/
def lay : Nat → List (Nat × Nat) → List Nat
  | _, [] => []
  | o, (z, s) :: r => alignN o s :: lay (alignN o s + z) r
def endL : Nat → List (Nat × Nat) → Nat
  | o, [] => o
  | o, (z, s) :: r => endL (alignN o s + z) r
theorem lay_length : ∀ (o : Nat) (l : List (Nat × Nat)), (lay o l).length = l.length
  | _, [] => rfl
  | o, (z, s) :: r => by simp only [lay, List.length_cons, lay_length]
theorem endL_append : ∀ (o : Nat) (l k : List (Nat × Nat)), endL o (l ++ k) = endL (endL o l) k
  | _, [], _ => rfl
  | o, (z, s) :: r, k => by simp only [List.cons_append, endL, endL_append]
theorem endL_snoc (o : Nat) (l : List (Nat × Nat)) (z s : Nat) : endL o (l ++ [(z, s)]) = alignN (endL o l) s + z := by rw [endL_append]; rfl
theorem endL_take_succ {o : Nat} {l : List (Nat × Nat)} {i z s : Nat} (h : l[i]? = some (z, s)) : endL o (l.take (i + 1)) = alignN (endL o (l.take i)) s + z := by
  rw [List.take_add_one, h]; exact endL_snoc ..
theorem lay_get : ∀ (o : Nat) (l : List (Nat × Nat)) (i z s : Nat), l[i]? = some (z, s) → (lay o l)[i]? = some (alignN (endL o (l.take i)) s)
  | o, (z0, s0) :: r, 0, z, s, h => by
    simp only [List.getElem?_cons_zero, Option.some.injEq, Prod.mk.injEq] at h
    obtain ⟨rfl, rfl⟩ := h
    rfl
  | o, (z0, s0) :: r, i + 1, z, s, h => by
    simp only [List.getElem?_cons_succ] at h
    simp only [lay, List.getElem?_cons_succ, List.take_succ_cons, endL]
    exact lay_get _ r i z s h
def wwN (n : Nat) : Nat := (n + 3) / 4 * 4
theorem wwN_int (n : Nat) : ((n : Int) + 3).fdiv 4 * 4 = (wwN n : Nat) := by
  unfold wwN
  rw [Int.fdiv_eq_ediv_of_nonneg _ (by omega)]; omega

/-- an object to be placed -/
structure FE where
  o : Addr
  ov : ObV
  ti : TI
def FE.zs (f : FE) : Nat × Nat := (f.ti.size, f.ti.step)

section
variable {w : World} {mean : ExcName → Option Value} {mg mb : Str → Option Value} {φ : Fx} {σ : St} {T : Addr → Option TI} {G : Addr → Option AO} {Q : AV → St → Prop}

theorem place_fields_spec (hok : φ.Ok (WX w mean mg mb)) {n : Nat} (hroom : Room φ (n + 4)) (hW : WF T G) (hG : Le G σ.H) {r : Addr} {v : TyV} {L : List FE} {o0 : Nat} {lv : Int}
    (hr : TyAt σ.H r v) (hb : (v.base = none ∧ o0 = 0 ∧ lv = 0) ∨ ∃ b vb, v.base = some b ∧ TyAt G b vb ∧ vb.size = o0 ∧ vb.level + 1 = lv)
    (hf : σ.H v.flds = some (.lst (L.map fun f => .ref f.o))) (hL : ∀ f ∈ L, ObAt σ.H f.o f.ov ∧ T f.ov.type = some f.ti ∧ G f.o = none) (hnd : (L.map FE.o).Nodup) (hGr : G r = none) (hlen : L.length ≤ 100)
    (h : ∀ H', TyAt H' r { v with level := lv, size := ((Max.max 4 (wwN (endL o0 (L.map FE.zs))) : Nat) : Int) } → (∀ (i : Nat) (f : FE), L[i]? = some f → ∃ a : Nat, (lay o0 (L.map FE.zs))[i]? = some a ∧ ObAt H' f.o { f.ov with offset := a }) →
      (∀ b, b ≠ r → b ∉ L.map FE.o → ∀ o, σ.H b = some o → H' b = some o) → Q .none ⟨σ.m, H'⟩) : CallA (WX w mean mg mb) φ (.ref 49) [.ref r] Q σ := by
  refine' CallA.fn1 "record" hok (by walk_at "fn") hroom.lt (by walk_at "bd") (by decide) ?_
  intro φ' o1 o2 o3 o4 o5
  have r1 : Room φ' (n + 3) := hroom.call o4 o5
  -- offset = 0; record.level = 0
  repeat walk_at "ev"
  refine SetAtt.t_level o1 (n := 0) hr fun H1 t1 k1 => ?_
  have g1 : Le G H1 := hG.upd hGr k1
  have kp1 : ∀ b, b ≠ r → ∀ o, σ.H b = some o → H1 b = some o := fun b hb o e => (k1 b hb).trans e
  walk_at "ev"
  -- the base
  refine Exs.cons (Ex1.join (fun σ1 => σ1.m "record" = some (.ref r) ∧ σ1.m "offset" = some (.int (o0 : Nat)) ∧ TyAt σ1.H r { v with level := lv } ∧ (∀ b, b ≠ r → ∀ o, σ.H b = some o → σ1.H b = some o)) (fun PJ hPJ => Ex1.if_ ?_) ?_)
  · repeat walk_at "ev"
    refine Att.t_base o1 t1 ?_
    repeat walk_at "ev"
    refine ⟨_, rfl, ?_⟩
    rcases hb with ⟨hb, rfl, rfl⟩ | ⟨b, vb, hb, hvb, hsz, hlv⟩
    · show if (!(opt v.base).isNone) = true then _ else _
      have eb : (!(opt v.base).isNone) = false := by rw [hb]; rfl
      rw [eb, if_neg Bool.false_ne_true]
      repeat walk_at "ev"
      exact ⟨rfl, rfl, t1, kp1⟩
    · show if (!(opt v.base).isNone) = true then _ else _
      have eb : (!(opt v.base).isNone) = true := by rw [hb]; rfl
      have eo : opt v.base = .ref b := by rw [hb]; rfl
      rw [eb, if_pos rfl]
      have hvb1 : TyAt H1 b vb := g1.ty hvb
      repeat walk_at "ev"
      refine Att.t_base o1 t1 ?_
      show Att _ _ (opt v.base) _ _ _
      rw [eo]
      refine Att.t_size o1 hvb1 ?_
      repeat walk_at "ev"
      refine Att.t_base o1 t1 ?_
      show Att _ _ (opt v.base) _ _ _
      rw [eo]
      refine Att.t_level o1 hvb1 ?_
      repeat walk_at "ev"
      refine SetAtt.t_level o1 (n := vb.level + 1) t1 fun H2 t2 k2 => ?_
      walk_at "ev"
      walk_at "ev"
      walk_at "ev"
      refine ⟨rfl, by rw [← hsz]; rfl, by rw [← hlv]; exact t2, fun b hb o e => (k2 b hb).trans (kp1 b hb o e)⟩
  -- the fields
  rintro σ1 ⟨m1, m2, t2, kp2⟩
  have nfl : v.flds ≠ r := fun e => by
    obtain ⟨fs, e1, _⟩ := hr
    rw [← e, hf] at e1; cases e1
  have g2 : Le G σ1.H := fun a o e => kp2 a (fun e' => by rw [e', hGr] at e; cases e) o (hG a o e)
  have hne : ∀ f ∈ L, f.o ≠ r := fun f hf' => (hr.ne_ob (hL f hf').1).symm
  have hfl : ∀ f ∈ L, f.o ≠ v.flds := fun f hf' => (hL f hf').1.ne_lst hf
  walk_at "ev"
  refine Exs.cons (Ex1.for_ o1 (loc_of o2 (by rfl)) ?_)
  refine Ev.attr (Q := fun x σ' => ∃ a, x = .ref a ∧ a = v.flds ∧ σ' = σ1) (Ev.loc o1 (loc_of o2 (by rfl)) m1 (Att.t_fields o1 t2 ⟨_, rfl, rfl, rfl⟩) (by decide)) (by with_unfolding_all rfl) |>.mono ?_
  rintro u σ' ⟨a, hu, rfl, rfl⟩
  obtain rfl := er_ref hu
  refine ⟨L.map (fun f => .ref f.o), _, _, fun i σ' => σ'.m "record" = some (.ref r) ∧ σ'.m "offset" = some (.int (endL o0 ((L.map FE.zs).take i) : Nat)) ∧ TyAt σ'.H r { v with level := lv } ∧
      (∀ b, b ≠ r → b ∉ L.map FE.o → ∀ o, σ.H b = some o → σ'.H b = some o) ∧
      (∀ (j : Nat) (f : FE), L[j]? = some f → (j < i → ∃ a : Nat, (lay o0 (L.map FE.zs))[j]? = some a ∧ ObAt σ'.H f.o { f.ov with offset := a }) ∧ (i ≤ j → ObAt σ'.H f.o f.ov)), Src.list, kp2 _ nfl _ hf,
      ⟨m1, m2, t2, fun b hb _ => kp2 b hb, fun j f hj => ⟨fun h => absurd h (Nat.not_lt_zero _), fun _ => let ⟨fs, e1, e2⟩ := (hL f (List.mem_of_getElem? hj)).1; ⟨fs, kp2 _ (hne f (List.mem_of_getElem? hj)) _ e1, e2⟩⟩⟩, ?_, ?_, ?_⟩
  · rintro i σ' ⟨_, _, _, kp, _⟩
    exact kp _ nfl (fun hm => by obtain ⟨f, hf', e⟩ := List.mem_map.mp hm; exact hfl f hf' e) _ hf
  · rintro i a σ' ha ⟨m1, m2, t3, kp, ob⟩
    intro JN hJN
    rw [List.getElem?_map] at ha
    cases hi : L[i]? with
    | none => rw [hi] at ha; cases ha
    | some f =>
      rw [hi] at ha
      obtain rfl := Option.some.inj ha
      have hmem := List.mem_of_getElem? hi
      obtain ⟨_, hTf, hGf⟩ := hL f hmem
      have obf := (ob i f hi).2 (Nat.le_refl _)
      have g3 : Le G σ'.H := fun a o e => by
        refine kp a (fun e' => by rw [e', hGr] at e; cases e) (fun hm => ?_) o (hG a o e)
        obtain ⟨f', hf', rfl⟩ := List.mem_map.mp hm
        rw [(hL f' hf').2.2] at e; cases e
      obtain ⟨vt, hvt, hvf, hvz⟩ := hW.ty hTf
      have hzs : (L.map FE.zs)[i]? = some (f.ti.size, f.ti.step) := by rw [List.getElem?_map, hi]; rfl
      walk_at "ev"
      walk_at "ev"
      walk_at "call"
      repeat walk_at "ev"
      refine Att.o_type o1 obf ?_
      repeat walk_at "ev"
      refine align_spec o1 (r1.mono (by omega) : Room φ' (n + 2)) hW hTf g3 fun H4 l4 => ?_
      rw [alignI_nat _ _ (hW _ _ hTf).gd.st]
      have obf4 : ObAt H4 f.o f.ov := l4.ob obf
      repeat walk_at "ev"
      refine SetAtt.o_offset o1 _ obf4 fun H5 ob5 k5 => ?_
      have g5 : Le G H5 := (g3.trans l4).upd hGf k5
      walk_at "ev"
      walk_at "ev"
      walk_at "ev"
      walk_at "ev"
      walk_at "ev"
      walk_at "ev"
      refine Att.o_type o1 ob5 ?_
      refine Att.t_size o1 (g5.ty hvt) ?_
      rw [hvz]
      repeat walk_at "ev"
      have e1 : ((alignN (endL o0 ((L.map FE.zs).take i)) f.ti.step : Nat) : Int) + (f.ti.size : Nat) = (endL o0 ((L.map FE.zs).take (i + 1)) : Nat) := by
        rw [endL_take_succ hzs]; omega
      refine ⟨by exact m1, by rw [← e1]; rfl, ?_, ?_, ?_⟩
      · exact (l4.ty t3).keep (k5 r (hne f hmem).symm)
      · intro b hb hbm o e
        exact (k5 b (fun e' => hbm (by rw [e']; exact List.mem_map_of_mem hmem))).trans (l4 _ _ (kp b hb hbm o e))
      · intro j f' hj
        have hmem' := List.mem_of_getElem? hj
        have hdiff : j ≠ i → f'.o ≠ f.o := fun hji e => hji (by
          have hjl : j < (L.map FE.o).length := by
            rw [List.length_map]
            exact (List.getElem?_eq_some_iff.mp hj).1
          refine (List.getElem?_inj hjl hnd).mp ?_
          rw [List.getElem?_map, List.getElem?_map, hj, hi]
          exact congrArg some e)
        refine ⟨fun hlt => ?_, fun hle => ?_⟩
        · by_cases hji : j = i
          · subst hji
            rw [hi] at hj
            obtain rfl := Option.some.inj hj
            exact ⟨_, lay_get _ _ _ _ _ hzs, ob5⟩
          · obtain ⟨a, h1, h2⟩ := (ob j f' hj).1 (by omega)
            exact ⟨a, h1, (l4.ob h2).keep (k5 _ (hdiff hji))⟩
        · exact (l4.ob ((ob j f' hj).2 (by omega))).keep (k5 _ (hdiff (by omega)))
  · rintro σ' ⟨m1, m2, t3, kp, ob⟩
    rw [List.length_map] at m2 ob
    have et : (L.map FE.zs).take L.length = L.map FE.zs := List.take_of_length_le (by simp)
    rw [et] at m2
    repeat walk_at "ev"
    walk_at "call"
    repeat walk_at "ev"
    walk_at "call"
    repeat walk_at "ev"
    refine whole_words_spec o1 (r1.mono (by omega) : Room φ' 1) ?_
    rw [wwN_int]
    repeat walk_at "ev"
    refine CallA.max ?_
    rw [show (Max.max (4 : Int) (wwN (endL o0 (L.map FE.zs)) : Nat)) = ((Max.max 4 (wwN (endL o0 (L.map FE.zs))) : Nat) : Int) by omega]
    repeat walk_at "ev"
    refine SetAtt.t_size o1 _ t3 fun H6 t6 k6 => ?_
    repeat walk_at "ev"
    refine h H6 t6 (fun i f hi => ?_) fun b hb hbm o e => (k6 b hb).trans (kp b hb hbm o e)
    obtain ⟨a, h1, h2⟩ := (ob i f hi).1 (List.getElem?_eq_some_iff.mp hi).1
    exact ⟨a, h1, h2.keep (k6 _ (hne f (List.mem_of_getElem? hi)))⟩
end
theorem fmod_nat (a b : Nat) : (a : Int).fmod (b : Int) = ((a % b : Nat) : Int) := by
  rw [Int.fmod_eq_emod_of_nonneg _ (by omega)]; omega
theorem alignN_le (s st : Nat) (h : st = 1 ∨ st = 4) : s ≤ alignN s st := by
  unfold alignN; rcases h with rfl | rfl <;> omega
theorem alignN_hit (s st l : Nat) (h : st = 1 ∨ st = 4) (h1 : s ≤ l) (h2 : l ≤ alignN s st) : l % st = 0 ↔ l = alignN s st := by
  unfold alignN at *; rcases h with rfl | rfl <;> omega

section
variable {w : World} {mean : ExcName → Option Value} {mg mb : Str → Option Value} {φ : Fx} {σ : St} {T : Addr → Option TI} {G : Addr → Option AO} {Q : AV → St → Prop}

theorem law_packed_spec (hok : φ.Ok (WX w mean mg mb)) {n : Nat} (hroom : Room φ (n + 4)) (hW : WF T G) (hG : Le G σ.H) {rl : Addr} {L : List FE} {s0 : Nat}
    (hf : σ.H rl = some (.lst (L.map fun f => .ref f.o))) (hL : ∀ (i : Nat) (f : FE), L[i]? = some f → ObAt σ.H f.o f.ov ∧ T f.ov.type = some f.ti ∧ ∃ a : Nat, (lay s0 (L.map FE.zs))[i]? = some a ∧ f.ov.offset = a) (hlen : L.length ≤ 100)
    (h : ∀ H', Le σ.H H' → Q (.int (wwN (endL s0 (L.map FE.zs)) : Nat)) ⟨σ.m, H'⟩) : CallA (WX w mean mg mb) φ (.ref 226) [.ref rl, .int s0] Q σ := by
  refine' CallA.fn2 "rows" "start" hok (by walk_at "fn") hroom.lt (by walk_at "bd") (by decide) ?_
  intro φ' o1 o2 o3 o4 o5
  have r1 : Room φ' (n + 3) := hroom.call o4 o5
  repeat walk_at "ev"
  refine Ex1.for_ o1 (loc_of o2 (by rfl)) ?_
  refine (Ev.loc (Q := fun x σ' => x = .ref rl ∧ σ' = _) o1 (loc_of o2 (by rfl)) (by rfl) ⟨rfl, rfl⟩ (by decide)).mono ?_
  rintro u σ' ⟨hu, rfl⟩
  obtain rfl := er_ref hu
  refine ⟨L.map (fun f : FE => AV.ref f.o), _, _, fun i σ' => σ'.m "spot" = some (.int (endL s0 ((L.map FE.zs).take i) : Nat)) ∧ Le σ.H σ'.H, Src.list, hf, ⟨rfl, Le.rfl'⟩, fun i σ' h => h.2 _ _ hf, ?_, ?_⟩
  · rintro i a σ1 ha ⟨m1, l1⟩
    intro JN hJN
    rw [List.getElem?_map] at ha
    cases hi : L[i]? with
    | none => rw [hi] at ha; cases ha
    | some f =>
      rw [hi] at ha
      obtain rfl := Option.some.inj ha
      obtain ⟨ob, hTf, a, hla, hoff⟩ := hL i f hi
      obtain ⟨vt, hvt, hvf, hvz⟩ := hW.ty hTf
      have hst := (hW _ _ hTf).gd.st
      have hzs : (L.map FE.zs)[i]? = some (f.ti.size, f.ti.step) := by rw [List.getElem?_map, hi]; rfl
      have ea : a = alignN (endL s0 ((L.map FE.zs).take i)) f.ti.step := by
        rw [lay_get _ _ _ _ _ hzs] at hla; exact (Option.some.inj hla).symm
      generalize hsp : endL s0 ((L.map FE.zs).take i) = sp at m1 ea
      repeat walk_at "ev"
      -- low up to the step
      refine Ex1.while_ (fun k σ' => ∃ l : Nat, σ'.m "low" = some (.int l) ∧ σ'.m "made" = some (.ref f.o) ∧ Le σ.H σ'.H ∧ sp ≤ l ∧ l ≤ a ∧ k = a - l) ?_ (a - sp) ⟨sp, rfl, rfl, l1, Nat.le_refl _, by rw [ea]; exact alignN_le _ _ hst, rfl⟩
      rintro k σ2 ⟨l, n1, n2, l2, h1, h2, rfl⟩
      intro JN hJN
      repeat walk_at "ev"
      walk_at "call"
      repeat walk_at "ev"
      refine Att.o_type o1 (l2.ob ob) ?_
      repeat walk_at "ev"
      refine law_step_spec o1 (r1.mono (by omega) : Room φ' 1) hW hTf (hG.trans l2) fun H3 l3 => ?_
      have hne : (f.ti.step : Int) ≠ 0 := by omega
      refine Bin.mod hne ?_
      rw [fmod_nat]
      repeat walk_at "ev"
      refine ⟨_, rfl, ite_b (fun e => ?_) fun e => ?_⟩
      · have e' : l % f.ti.step ≠ 0 := by
          intro e'; rw [e'] at e; revert e; decide
        have hlt : l < a := by
          rw [ea] at h2 ⊢
          exact Nat.lt_of_le_of_ne h2 fun e2 => e' ((alignN_hit sp _ l hst h1 h2).mpr e2)
        repeat walk_at "ev"
        exact ⟨a - (l + 1), by omega, l + 1, rfl, n2, l2.trans l3, by omega, hlt, rfl⟩
      · have e' : l % f.ti.step = 0 := by
          have : ((l % f.ti.step : Nat) : Int) = 0 := by simpa using e
          omega
        have hla' : l = a := by rw [ea]; exact (alignN_hit sp _ l hst h1 (by rw [← ea]; exact h2)).mp e'
        subst hla'
        have l4 := l2.trans l3
        repeat walk_at "ev"
        refine Att.o_offset o1 (l4.ob ob) ?_
        rw [hoff]
        repeat walk_at "ev"
        refine ⟨_, rfl, ?_⟩
        rw [show ((l : Int) != (l : Int)) = false by simp, if_neg Bool.false_ne_true]
        repeat walk_at "ev"
        walk_at "call"
        repeat walk_at "ev"
        refine Att.o_type o1 (l4.ob ob) ?_
        repeat walk_at "ev"
        refine alignment_spec o1 (r1.mono (by omega) : Room φ' 1) hW hTf (hG.trans l4) fun H5 l5 => ?_
        walk_at "call"
        repeat walk_at "ev"
        refine Att.o_type o1 ((l4.trans l5).ob ob) ?_
        repeat walk_at "ev"
        refine law_step_spec o1 (r1.mono (by omega) : Room φ' 1) hW hTf (hG.trans (l4.trans l5)) fun H6 l6 => ?_
        repeat walk_at "ev"
        refine ⟨_, rfl, ?_⟩
        rw [show ((f.ti.step : Int) != (f.ti.step : Int)) = false by simp, if_neg Bool.false_ne_true]
        repeat walk_at "ev"
        rw [if_neg Bool.false_ne_true]
        have l7 := (l4.trans l5).trans l6
        repeat walk_at "ev"
        refine Att.o_type o1 (l7.ob ob) ?_
        refine Att.t_size o1 ((hG.trans l7).ty hvt) ?_
        rw [hvz]
        repeat walk_at "ev"
        refine ⟨?_, l7⟩
        rw [endL_take_succ hzs, hsp, ← ea]
        exact congrArg some (congrArg AV.int (by omega))
  · rintro σ1 ⟨m1, l1⟩
    have et : (L.map FE.zs).take (L.map fun f => AV.ref f.o).length = L.map FE.zs := List.take_of_length_le (by simp)
    rw [et] at m1
    generalize endL s0 (L.map FE.zs) = sp at m1 h
    repeat walk_at "ev"
    refine Ex1.while_ (fun k σ' => ∃ l : Nat, σ'.m "spot" = some (.int l) ∧ Le σ.H σ'.H ∧ sp ≤ l ∧ l ≤ wwN sp ∧ k = wwN sp - l) ?_ (wwN sp - sp) ⟨sp, m1, l1, Nat.le_refl _, by unfold wwN; omega, rfl⟩
    rintro k σ2 ⟨l, n1, l2, h1, h2, rfl⟩
    intro JN hJN
    repeat walk_at "ev"
    rw [show ((l : Int).fmod 4) = ((l % 4 : Nat) : Int) from fmod_nat l 4]
    refine ⟨_, rfl, ite_b (fun e => ?_) fun e => ?_⟩
    · have e' : l % 4 ≠ 0 := by intro e'; rw [e'] at e; revert e; decide
      repeat walk_at "ev"
      exact ⟨wwN sp - (l + 1), by unfold wwN at *; omega, l + 1, rfl, l2, by omega, by unfold wwN at *; omega, rfl⟩
    · have e' : l % 4 = 0 := by
        have : ((l % 4 : Nat) : Int) = 0 := by simpa using e
        omega
      repeat walk_at "ev"
      have : l = wwN sp := by unfold wwN at *; omega
      rw [this]
      exact h _ l2
end
theorem lay_append : ∀ (o : Nat) (l k : List (Nat × Nat)), lay o (l ++ k) = lay o l ++ lay (endL o l) k
  | _, [], _ => rfl
  | o, (z, s) :: r, k => by simp only [List.cons_append, lay, endL, lay_append]
def isVar (f : FE) : Bool := f.ov.kind == ("var" : Str)
theorem nodup_ne {L : List FE} (hnd : (L.map FE.o).Nodup) {i j : Nat} {f g : FE} (hi : L[i]? = some f) (hj : L[j]? = some g) (hne : i ≠ j) : f.o ≠ g.o := fun e => hne (by
  have hil : i < (L.map FE.o).length := by
    rw [List.length_map]
    exact (List.getElem?_eq_some_iff.mp hi).1
  refine (List.getElem?_inj hil hnd).mp ?_
  rw [List.getElem?_map, List.getElem?_map, hi, hj]
  exact congrArg some e)
theorem nodup_ne_mem {L : List FE} (hnd : (L.map FE.o).Nodup) {i : Nat} {f g : FE} (hi : L[i]? = some f) (hg : g ∈ L.take i) : g.o ≠ f.o := by
  obtain ⟨j, hj⟩ := List.getElem?_of_mem hg
  have hlt : j < i := by
    have := (List.getElem?_eq_some_iff.mp hj).1
    rw [List.length_take] at this; omega
  rw [List.getElem?_take_of_lt hlt] at hj
  exact nodup_ne hnd hj hi (by omega)

section
variable {w : World} {mean : ExcName → Option Value} {mg mb : Str → Option Value} {φ : Fx} {σ : St} {T : Addr → Option TI} {G : Addr → Option AO} {Q : AV → St → Prop}

theorem array_size_spec (hok : φ.Ok (WX w mean mg mb)) {n : Nat} (hroom : Room φ (n + 1)) {e : Addr} {v : TyV} {k : Int} (he : TyAt σ.H e v) (hz : -(2 ^ 64) < v.size ∧ v.size < 2 ^ 64) (h : Q (.int (Max.max k 0 * v.size)) σ) : CallA (WX w mean mg mb) φ (.ref 42) [.int k, .ref e] Q σ := by
  refine' CallA.fn2 "length" "element" hok (by walk_at "fn") hroom.lt (by walk_at "bd") (by decide) ?_
  intro φ' o1 o2 o3 o4 o5
  repeat walk_at "ev"
  walk_at "call"
  repeat walk_at "ev"
  refine CallA.max ?_
  repeat walk_at "ev"
  refine Att.t_size o1 he ?_
  refine Bin.mul (IntMulOk.of_right (PySem.intBits_le_64 hz.1 hz.2)) ?_
  repeat walk_at "ev"
  exact h

theorem place_globals_spec (hok : φ.Ok (WX w mean mg mb)) {n : Nat} (hroom : Room φ (n + 4)) (hW : WF T G) (hG : Le G σ.H) {rl : Addr} {L : List FE} {s0 : Nat}
    (hf : σ.H rl = some (.lst (L.map fun f => .ref f.o))) (hL : ∀ f ∈ L, ObAt σ.H f.o f.ov ∧ T f.ov.type = some f.ti ∧ G f.o = none) (hnd : (L.map FE.o).Nodup) (hlen : L.length ≤ 100)
    (h : ∀ H', Le G H' → (∀ b, b ∉ L.map FE.o → ∀ o, σ.H b = some o → H' b = some o) →
      (∀ (j : Nat) (f : FE), (L.filter isVar)[j]? = some f → ∃ a : Nat, (lay s0 ((L.filter isVar).map FE.zs))[j]? = some a ∧ ObAt H' f.o { f.ov with offset := a }) → (∀ f ∈ L, isVar f = false → ObAt H' f.o f.ov) →
      Q (.int (wwN (endL s0 ((L.filter isVar).map FE.zs)) : Nat)) ⟨σ.m, H'⟩) : CallA (WX w mean mg mb) φ (.ref 57) [.ref rl, .int s0] Q σ := by
  refine' CallA.fn2 "objs" "start" hok (by walk_at "fn") hroom.lt (fun v1 v2 s K => by exact binds_K K rfl (by show List.lookup _ (hd.heap_1 _) = _; k_is) rfl rfl rfl) (by decide) ?_
  intro φ' o1 o2 o3 o4 o5
  have r1 : Room φ' (n + 3) := hroom.call o4 o5
  repeat walk_at "ev"
  refine Ex1.for_ o1 (loc_of o2 (by rfl)) ?_
  refine (Ev.loc (Q := fun x σ' => x = .ref rl ∧ σ' = _) o1 (loc_of o2 (by rfl)) (by rfl) ⟨rfl, rfl⟩ (by decide)).mono ?_
  rintro u σ' ⟨hu, rfl⟩
  obtain rfl := er_ref hu
  have hrl : rl ∉ L.map FE.o := fun hm => by
    obtain ⟨f, hf', e⟩ := List.mem_map.mp hm
    exact (hL f hf').1.ne_lst hf e
  refine ⟨L.map (fun f : FE => AV.ref f.o), _, _, fun i σ' => σ'.m "offset" = some (.int (endL s0 (((L.take i).filter isVar).map FE.zs) : Nat)) ∧ (∀ b, b ∉ L.map FE.o → ∀ o, σ.H b = some o → σ'.H b = some o) ∧
      (∀ (j : Nat) (f : FE), ((L.take i).filter isVar)[j]? = some f → ∃ a : Nat, (lay s0 (((L.take i).filter isVar).map FE.zs))[j]? = some a ∧ ObAt σ'.H f.o { f.ov with offset := a }) ∧ (∀ f ∈ L.take i, isVar f = false → ObAt σ'.H f.o f.ov) ∧
      (∀ (j : Nat) (f : FE), i ≤ j → L[j]? = some f → ObAt σ'.H f.o f.ov), Src.list, hf, ⟨rfl, fun b _ o e => e, fun j f hj => by simp at hj, fun f hf' => by simp at hf', fun j f _ hj => (hL f (List.mem_of_getElem? hj)).1⟩, fun i σ' h => h.2.1 _ hrl _ hf, ?_, ?_⟩
  · rintro i a σ1 ha ⟨m1, kp, d1, d2, d3⟩
    intro JN hJN
    rw [List.getElem?_map] at ha
    cases hi : L[i]? with
    | none => rw [hi] at ha; cases ha
    | some f =>
      rw [hi] at ha
      obtain rfl := Option.some.inj ha
      have hmem := List.mem_of_getElem? hi
      obtain ⟨_, hTf, hGf⟩ := hL f hmem
      obtain ⟨vt, hvt, hvf, hvz⟩ := hW.ty hTf
      have ob := d3 i f (Nat.le_refl _) hi
      have g3 : Le G σ1.H := fun a o e => by
        refine kp a (fun hm => ?_) o (hG a o e)
        obtain ⟨f', hf', rfl⟩ := List.mem_map.mp hm
        rw [(hL f' hf').2.2] at e; cases e
      have et : L.take (i + 1) = L.take i ++ [f] := by rw [List.take_add_one, hi]; rfl
      repeat walk_at "ev"
      refine Att.o_kind o1 ob ?_
      repeat walk_at "ev"
      refine ⟨_, rfl, ite_b (fun e => ?_) fun e => ?_⟩
      · have hv : isVar f = true := e
        have ef : (L.take (i + 1)).filter isVar = (L.take i).filter isVar ++ [f] := by rw [et, List.filter_append]; simp [hv]
        repeat walk_at "ev"
        walk_at "call"
        repeat walk_at "ev"
        refine Att.o_type o1 ob ?_
        repeat walk_at "ev"
        refine align_spec o1 (r1.mono (by omega) : Room φ' (n + 2)) hW hTf g3 fun H4 l4 => ?_
        rw [alignI_nat _ _ (hW _ _ hTf).gd.st]
        repeat walk_at "ev"
        refine SetAtt.o_offset o1 _ (l4.ob ob) fun H5 ob5 k5 => ?_
        have g5 : Le G H5 := (g3.trans l4).upd hGf k5
        repeat walk_at "ev"
        refine Att.o_type o1 ob5 ?_
        refine Att.t_size o1 (g5.ty hvt) ?_
        rw [hvz]
        repeat walk_at "ev"
        refine ⟨?_, ?_, ?_, ?_, ?_⟩
        · rw [ef, List.map_append, List.map_singleton, FE.zs, endL_snoc]
          exact congrArg some (congrArg AV.int (by omega))
        · intro b hb o e
          exact (k5 b (fun e' => hb (by rw [e']; exact List.mem_map_of_mem hmem))).trans (l4 _ _ (kp b hb o e))
        · intro j g hg
          rw [ef] at hg ⊢
          by_cases hj : j < ((L.take i).filter isVar).length
          · rw [List.getElem?_append_left hj] at hg
            obtain ⟨a, h1, h2⟩ := d1 j g hg
            have hgm : g ∈ L.take i := (List.mem_filter.mp (List.mem_of_getElem? hg)).1
            refine ⟨a, ?_, (l4.ob h2).keep (k5 _ (nodup_ne_mem hnd hi hgm))⟩
            rw [List.map_append, lay_append, List.getElem?_append_left (by rw [lay_length, List.length_map]; exact hj)]
            exact h1
          · have hj' : j = ((L.take i).filter isVar).length := by
              have := (List.getElem?_eq_some_iff.mp hg).1
              simp only [List.length_append, List.length_singleton] at this; omega
            subst hj'
            rw [List.getElem?_append_right (Nat.le_refl _), Nat.sub_self] at hg
            obtain rfl := Option.some.inj hg
            refine ⟨_, ?_, ob5⟩
            rw [List.map_append, lay_append, List.getElem?_append_right (by rw [lay_length, List.length_map]; exact Nat.le_refl _), lay_length, List.length_map, Nat.sub_self]
            rfl
        · intro g hg hgv
          rw [et] at hg
          rcases List.mem_append.mp hg with hg | hg
          · exact (l4.ob (d2 g hg hgv)).keep (k5 _ (nodup_ne_mem hnd hi hg))
          · rw [List.mem_singleton.mp hg, hv] at hgv; cases hgv
        · intro j g hle hj
          exact (l4.ob (d3 j g (by omega) hj)).keep (k5 _ (nodup_ne hnd hj hi (by omega)))
      · have hv : isVar f = false := e
        have ef : (L.take (i + 1)).filter isVar = (L.take i).filter isVar := by rw [et, List.filter_append]; simp [hv]
        repeat walk_at "ev"
        refine ⟨by rw [ef]; exact m1, kp, by rw [ef]; exact d1, ?_, fun j g hle => d3 j g (by omega)⟩
        intro g hg hgv
        rw [et] at hg
        rcases List.mem_append.mp hg with hg | hg
        · exact d2 g hg hgv
        · rw [List.mem_singleton.mp hg]; exact ob
  · rintro σ1 ⟨m1, kp, d1, d2, d3⟩
    have et : L.take (L.map fun f => AV.ref f.o).length = L := List.take_of_length_le (by simp)
    rw [et] at m1 d1 d2
    have g3 : Le G σ1.H := fun a o e => by
      refine kp a (fun hm => ?_) o (hG a o e)
      obtain ⟨f', hf', rfl⟩ := List.mem_map.mp hm
      rw [(hL f' hf').2.2] at e; cases e
    repeat walk_at "ev"
    walk_at "call"
    repeat walk_at "ev"
    refine whole_words_spec o1 (r1.mono (by omega) : Room φ' 1) ?_
    rw [wwN_int]
    repeat walk_at "ev"
    exact h _ g3 kp d1 d2
end
section
variable {W : Wd} {φ : Fx} {σ : St} {Q : AF → St → Prop}
theorem Ex1.forL (hok : φ.Ok W) {x : Str} {px pos : Pos} {iter : Expr} {body : List Stmt} (hx : φ.cs.names.lookup x = some .local) (J : Nat → St → Prop)
    (h : Ev W φ φ.env iter (fun v σ₁ => ∃ l xs, v = .ref l ∧ σ₁.H l = some (.lst xs) ∧ J 0 σ₁ ∧ (∀ i σ', J i σ' → σ'.H l = some (.lst xs)) ∧
      (∀ i a σ', xs[i]? = some a → J i σ' → ∀ JN, JN = J (i + 1) → Exs W φ body (turnQ JN (Q .next) Q) (σ'.set x a)) ∧ ∀ σ', J xs.length σ' → Q .next σ') σ)
    (hs : ∀ x, foldedSetIterable iter φ.env x = Pure.pure x) : Ex1 W φ (.For (.Name x px) iter body [] pos) Q σ :=
  Ex1.for_ hok hx (Tr.mono h fun v σ₁ ⟨l, xs, e, hH, h0, hn, ht, hf⟩ => by
    obtain rfl := er_ref e
    exact ⟨xs, _, _, J, Src.list, hH, h0, hn, ht, hf⟩) hs
theorem rngL_get {n : Int} {i : Nat} {a : AV} (h : (rngL 0 n)[i]? = some a) : a = .int i ∧ (i : Int) < n := by
  simp only [rngL, List.getElem?_map] at h
  by_cases hlt : i < (n - 0).toNat
  · rw [List.getElem?_range hlt] at h
    obtain rfl := Option.some.inj h
    exact ⟨congrArg AV.int (by omega), by omega⟩
  · rw [List.getElem?_eq_none (by simpa using hlt)] at h; cases h
theorem rngL_length (n : Int) : (rngL 0 n).length = n.toNat := by simp [rngL]
theorem Ex1.forR (hok : φ.Ok W) {x : Str} {px pos : Pos} {iter : Expr} {body : List Stmt} (hx : φ.cs.names.lookup x = some .local) (J : Nat → St → Prop)
    (h : Ev W φ φ.env iter (fun v σ₁ => ∃ r n, v = .ref r ∧ σ₁.H r = some (.rng 0 n) ∧ -(2 ^ 62) ≤ n ∧ n < 2 ^ 62 ∧ J 0 σ₁ ∧
      (∀ (i : Nat) σ', (i : Int) < n → J i σ' → ∀ JN, JN = J (i + 1) → Exs W φ body (turnQ JN (Q .next) Q) (σ'.set x (.int i))) ∧ ∀ σ', J n.toNat σ' → Q .next σ') σ)
    (hs : ∀ x, foldedSetIterable iter φ.env x = Pure.pure x) : Ex1 W φ (.For (.Name x px) iter body [] pos) Q σ :=
  Ex1.for_ hok hx (Tr.mono h fun v σ₁ ⟨r, n, e, hH, b1, b2, h0, ht, hf⟩ => by
    obtain rfl := er_ref e
    refine ⟨rngL 0 n, _, _, J, Src.rng (by omega) (by omega) b1 b2, hH, h0, fun _ _ _ => trivial, ?_, ?_⟩
    · intro i a σ' ha hJ
      obtain ⟨rfl, hlt⟩ := rngL_get ha
      exact ht i σ' hlt hJ
    · rw [rngL_length]; exact hf) hs
end

def usedL : Nat → List (Nat × Nat) → Nat
  | u, [] => u
  | u, (z, s) :: r => usedL (alignN (u + z) s) r
theorem usedL_append : ∀ (o : Nat) (l k : List (Nat × Nat)), usedL o (l ++ k) = usedL (usedL o l) k
  | _, [], _ => rfl
  | o, (z, s) :: r, k => by simp only [List.cons_append, usedL, usedL_append]
theorem usedL_take_succ {o : Nat} {l : List (Nat × Nat)} {i z s : Nat} (h : l[i]? = some (z, s)) : usedL o (l.take (i + 1)) = alignN (usedL o (l.take i) + z) s := by
  rw [List.take_add_one, h]; exact usedL_append ..

/-- a parameter -/
structure PE where
  o : Addr
  ov : ObV
  tv : TyV
def pwN (p : PE) : Nat := if (p.ov.kind == ("par" : Str) && (p.tv.form == ("record" : Str) || (p.tv.form == ("array" : Str) && decide (p.tv.len < 0)))) = true then 2 else 1
def wordsN (w0 : Nat) (L : List PE) : Nat := w0 + (L.map pwN).sum
theorem wordsN_take_succ {w0 : Nat} {L : List PE} {i : Nat} {p : PE} (h : L[i]? = some p) : wordsN w0 (L.take (i + 1)) = wordsN w0 (L.take i) + pwN p := by
  unfold wordsN
  rw [List.take_add_one, h, List.map_append, List.sum_append]
  simp; omega
theorem nodup_neP {L : List PE} (hnd : (L.map PE.o).Nodup) {i j : Nat} {f g : PE} (hi : L[i]? = some f) (hj : L[j]? = some g) (hne : i ≠ j) : f.o ≠ g.o := fun e => hne (by
  have hil : i < (L.map PE.o).length := by
    rw [List.length_map]
    exact (List.getElem?_eq_some_iff.mp hi).1
  refine (List.getElem?_inj hil hnd).mp ?_
  rw [List.getElem?_map, List.getElem?_map, hi, hj]
  exact congrArg some e)
/-- the words at which an address lies -/
def dueL : Nat → List PE → List Int
  | _, [] => []
  | w, p :: r => (if (p.ov.kind == ("par" : Str) || p.tv.form == ("pointer" : Str)) = true then [4 * (w : Int)] else []) ++ dueL (w + pwN p) r
theorem dueL_append : ∀ (w : Nat) (l k : List PE), dueL w (l ++ k) = dueL w l ++ dueL (wordsN w l) k
  | w, [], k => rfl
  | w, p :: r, k => by
    have e : wordsN w (p :: r) = wordsN (w + pwN p) r := by unfold wordsN; simp; omega
    simp only [List.cons_append, dueL, dueL_append, List.append_assoc, e]
theorem dueL_length : ∀ (w : Nat) (l : List PE), (dueL w l).length ≤ l.length
  | _, [] => Nat.le_refl _
  | w, p :: r => by
    have := dueL_length (w + pwN p) r
    simp only [dueL, List.length_append, List.length_cons]
    split <;> simp <;> omega

section
variable {w : World} {mean : ExcName → Option Value} {mg mb : Str → Option Value} {φ : Fx} {σ : St} {T : Addr → Option TI} {G : Addr → Option AO} {Q : AV → St → Prop}

theorem place_locals_spec (hok : φ.Ok (WX w mean mg mb)) {n : Nat} (hroom : Room φ (n + 4)) (hW : WF T G) (hG : Le G σ.H) {rl : Addr} {L : List FE}
    (hf : σ.H rl = some (.lst (L.map fun f => .ref f.o))) (hL : ∀ f ∈ L, ObAt σ.H f.o f.ov ∧ T f.ov.type = some f.ti ∧ G f.o = none ∧ f.ov.kind = "var" ∧ f.ov.isparam = false) (hnd : (L.map FE.o).Nodup) (hlen : L.length ≤ 100)
    (h : ∀ H', Le G H' → (∀ b, b ∉ L.map FE.o → ∀ o, σ.H b = some o → H' b = some o) →
      (∀ (j : Nat) (f : FE), L[j]? = some f → ObAt H' f.o { f.ov with offset := -8 - (usedL 0 ((L.map FE.zs).take (j + 1)) : Nat) }) →
      Q (.int (wwN (usedL 0 (L.map FE.zs)) : Nat)) ⟨σ.m, H'⟩) : CallA (WX w mean mg mb) φ (.ref 78) [.ref rl] Q σ := by
  refine' CallA.fn1 "objs" hok (by walk_at "fn") hroom.lt (by walk_at "bd") (by decide) ?_
  intro φ' o1 o2 o3 o4 o5
  have r1 : Room φ' (n + 3) := hroom.call o4 o5
  have hrl : rl ∉ L.map FE.o := fun hm => by
    obtain ⟨f, hf', e⟩ := List.mem_map.mp hm
    exact (hL f hf').1.ne_lst hf e
  repeat walk_at "ev"
  refine Ex1.forL o1 (loc_of o2 (by rfl)) (fun i σ' => σ'.m "used" = some (.int (usedL 0 ((L.map FE.zs).take i) : Nat)) ∧ (∀ b, b ∉ L.map FE.o → ∀ o, σ.H b = some o → σ'.H b = some o) ∧
      (∀ (j : Nat) (f : FE), L[j]? = some f → (j < i → ObAt σ'.H f.o { f.ov with offset := -8 - (usedL 0 ((L.map FE.zs).take (j + 1)) : Nat) }) ∧ (i ≤ j → ObAt σ'.H f.o f.ov))) ?_ (by intro _; rfl)
  walk_at "ev"
  refine ⟨rl, L.map (fun f : FE => AV.ref f.o), rfl, hf, ⟨rfl, fun b _ o e => e, fun j f hj => ⟨fun h => absurd h (Nat.not_lt_zero _), fun _ => (hL f (List.mem_of_getElem? hj)).1⟩⟩, fun i σ' h => h.2.1 _ hrl _ hf, ?_, ?_⟩
  · rintro i a σ1 ha ⟨m1, kp, d1⟩
    intro JN hJN
    rw [List.getElem?_map] at ha
    cases hi : L[i]? with
    | none => rw [hi] at ha; cases ha
    | some f =>
      rw [hi] at ha
      obtain rfl := Option.some.inj ha
      have hmem := List.mem_of_getElem? hi
      obtain ⟨_, hTf, hGf, hkd, hip⟩ := hL f hmem
      obtain ⟨vt, hvt, hvf, hvz⟩ := hW.ty hTf
      have ob := (d1 i f hi).2 (Nat.le_refl _)
      have hzs : (L.map FE.zs)[i]? = some (f.ti.size, f.ti.step) := by rw [List.getElem?_map, hi]; rfl
      have g3 : Le G σ1.H := fun a o e => by
        refine kp a (fun hm => ?_) o (hG a o e)
        obtain ⟨f', hf', rfl⟩ := List.mem_map.mp hm
        rw [(hL f' hf').2.2.1] at e; cases e
      repeat walk_at "ev"
      refine Att.o_kind o1 ob ?_
      rw [hkd]
      repeat walk_at "ev"
      refine ⟨_, rfl, ?_⟩
      rw [if_pos (by decide)]
      repeat walk_at "ev"
      refine Co.val ?_ (by with_unfolding_all rfl)
      repeat walk_at "ev"
      refine Att.o_isparam o1 ob ?_
      rw [hip]
      refine ⟨_, rfl, ?_⟩
      rw [if_pos (by decide)]
      repeat walk_at "ev"
      rw [if_pos rfl]
      repeat walk_at "ev"
      walk_at "call"
      repeat walk_at "ev"
      refine Att.o_type o1 ob ?_
      refine Att.t_size o1 (g3.ty hvt) ?_
      rw [hvz]
      repeat walk_at "ev"
      refine Att.o_type o1 ob ?_
      repeat walk_at "ev"
      refine align_spec o1 (r1.mono (by omega) : Room φ' (n + 2)) hW hTf g3 fun H4 l4 => ?_
      rw [show ((usedL 0 ((L.map FE.zs).take i) : Nat) : Int) + (f.ti.size : Nat) = ((usedL 0 ((L.map FE.zs).take i) + f.ti.size : Nat) : Int) by omega, alignI_nat _ _ (hW _ _ hTf).gd.st, ← usedL_take_succ hzs]
      repeat walk_at "ev"
      refine SetAtt.o_offset o1 _ (l4.ob ob) fun H5 ob5 k5 => ?_
      repeat walk_at "ev"
      refine ⟨rfl, ?_, ?_⟩
      · intro b hb o e
        exact (k5 b (fun e' => hb (by rw [e']; exact List.mem_map_of_mem hmem))).trans (l4 _ _ (kp b hb o e))
      · intro j g hj
        refine ⟨fun hlt => ?_, fun hle => (l4.ob ((d1 j g hj).2 (by omega))).keep (k5 _ (nodup_ne hnd hj hi (by omega)))⟩
        by_cases hji : j = i
        · subst hji
          rw [hi] at hj
          obtain rfl := Option.some.inj hj
          exact ob5
        · exact (l4.ob ((d1 j g hj).1 (by omega))).keep (k5 _ (nodup_ne hnd hj hi hji))
  · rintro σ1 ⟨m1, kp, d1⟩
    rw [List.length_map] at m1 d1
    have et : (L.map FE.zs).take L.length = L.map FE.zs := List.take_of_length_le (by simp)
    rw [et] at m1
    have g3 : Le G σ1.H := fun a o e => by
      refine kp a (fun hm => ?_) o (hG a o e)
      obtain ⟨f', hf', rfl⟩ := List.mem_map.mp hm
      rw [(hL f' hf').2.2.1] at e; cases e
    repeat walk_at "ev"
    walk_at "call"
    repeat walk_at "ev"
    refine whole_words_spec o1 (r1.mono (by omega) : Room φ' 1) ?_
    rw [wwN_int]
    repeat walk_at "ev"
    exact h _ g3 kp fun j f hj => (d1 j f hj).1 (List.getElem?_eq_some_iff.mp hj).1

theorem param_words_spec (hok : φ.Ok (WX w mean mg mb)) {n : Nat} (hroom : Room φ (n + 1)) {p : PE} (hp : ObAt σ.H p.o p.ov) (ht : TyAt σ.H p.ov.type p.tv) (h : Q (.int (pwN p : Nat)) σ) : CallA (WX w mean mg mb) φ (.ref 64) [.ref p.o] Q σ := by
  refine' CallA.fn1 "par" hok (by walk_at "fn") hroom.lt (by walk_at "bd") (by decide) ?_
  intro φ' o1 o2 o3 o4 o5
  unfold pwN at h
  repeat walk_at "ev"
  refine Att.o_kind o1 hp ?_
  repeat walk_at "ev"
  refine ⟨_, rfl, ite_b (fun e => ?_) fun e => ?_⟩
  · rw [e] at h
    repeat walk_at "ev"
    refine Att.o_type o1 hp ?_
    refine Att.t_form o1 ht ?_
    repeat walk_at "ev"
    refine ⟨_, rfl, ite_b (fun e2 => ?_) fun e2 => ?_⟩
    · rw [e2] at h
      rw [if_pos rfl]
      repeat walk_at "ev"
      exact h
    · rw [e2] at h
      repeat walk_at "ev"
      refine Att.o_type o1 hp ?_
      refine Att.t_form o1 ht ?_
      repeat walk_at "ev"
      refine ⟨_, rfl, ite_b (fun e3 => ?_) fun e3 => ?_⟩
      · rw [e3] at h
        repeat walk_at "ev"
        refine Att.o_type o1 hp ?_
        refine Att.t_length o1 ht ?_
        repeat walk_at "ev"
        refine ⟨_, rfl, ite_b (fun e4 => ?_) fun e4 => ?_⟩
        · rw [e4] at h
          repeat walk_at "ev"
          rw [if_pos rfl, if_pos rfl]
          repeat walk_at "ev"
          exact h
        · rw [e4] at h
          rw [if_neg Bool.false_ne_true]
          repeat walk_at "ev"
          rw [if_neg Bool.false_ne_true]
          repeat walk_at "ev"
          exact h
      · rw [e3] at h
        rw [if_neg Bool.false_ne_true]
        repeat walk_at "ev"
        rw [if_neg Bool.false_ne_true]
        repeat walk_at "ev"
        exact h
  · rw [e] at h
    repeat walk_at "ev"
    exact h
end
theorem lget_nat {xs : List AV} {i : Nat} {v : AV} (h : xs[i]? = some v) : lget xs (i : Int) = some v := by
  unfold lget
  rw [if_pos (by omega)]
  exact h
theorem map_get {α : Type} {L : List α} {i : Nat} {x : α} (f : α → AV) (h : L[i]? = some x) : (L.map f)[i]? = some (f x) := by rw [List.getElem?_map, h]; rfl

section
variable {w : World} {mean : ExcName → Option Value} {mg mb : Str → Option Value} {φ : Fx} {σ : St} {T : Addr → Option TI} {G : Addr → Option AO} {Q : AV → St → Prop}
def PE.placed (p : PE) (i : Nat) (o : Int) : ObV := { p.ov with slot := i, isparam := true, offset := o }
def w0N (b : Bool) : Nat := if b then 1 else 0

theorem place_params_spec (hok : φ.Ok (WX w mean mg mb)) {n : Nat} (hroom : Room φ (n + 2)) {rl : Addr} {L : List PE} {b : Bool}
    (hf : σ.H rl = some (.lst (L.map fun f => .ref f.o))) (hL : ∀ p ∈ L, ObAt σ.H p.o p.ov ∧ TyAt σ.H p.ov.type p.tv) (hnd : (L.map PE.o).Nodup) (hlen : L.length ≤ 100)
    (h : ∀ H', (∀ b, b ∉ L.map PE.o → ∀ o, σ.H b = some o → H' b = some o) →
      (∀ (j : Nat) (p : PE), L[j]? = some p → ObAt H' p.o (p.placed j (4 * (wordsN (w0N b) (L.take j) : Nat)))) →
      Q (.int (wordsN (w0N b) L : Nat)) ⟨σ.m, H'⟩) : CallA (WX w mean mg mb) φ (.ref 71) [.ref rl, .bool b] Q σ := by
  refine' CallA.fn2 "params" "linked" hok (by walk_at "fn") hroom.lt (by walk_at "bd") (by decide) ?_
  intro φ' o1 o2 o3 o4 o5
  have r1 : Room φ' (n + 1) := hroom.call o4 o5
  have hrl : rl ∉ L.map PE.o := fun hm => by
    obtain ⟨f, hf', e⟩ := List.mem_map.mp hm
    exact (hL f hf').1.ne_lst hf e
  have hty : ∀ p ∈ L, p.ov.type ∉ L.map PE.o := fun p hp hm => by
    obtain ⟨f, hf', e⟩ := List.mem_map.mp hm
    exact (hL p hp).2.ne_ob (hL f hf').1 e.symm
  refine Exs.cons (Ex1.join (fun σ1 => σ1 = St.set ⟨lmap [("params", .ref rl), ("linked", .bool b)], σ.H⟩ "words" (.int (w0N b : Nat))) ?_ ?_)
  · intro PJ hPJ
    repeat walk_at "ev"
    refine Co.val ?_ (by with_unfolding_all rfl)
    repeat walk_at "ev"
    refine ⟨b, rfl, ite_b (fun e => ?_) fun e => ?_⟩
    · repeat walk_at "ev"
      rw [e]; rfl
    · repeat walk_at "ev"
      rw [e]; rfl
  rintro _ rfl
  repeat walk_at "ev"
  refine Ex1.forR o1 (loc_of o2 (by rfl)) (fun i σ' => σ'.m "params" = some (.ref rl) ∧ σ'.m "words" = some (.int (wordsN (w0N b) (L.take i) : Nat)) ∧ (∀ b, b ∉ L.map PE.o → ∀ o, σ.H b = some o → σ'.H b = some o) ∧
      (∀ (j : Nat) (p : PE), L[j]? = some p → (j < i → ObAt σ'.H p.o (p.placed j (4 * (wordsN (w0N b) (L.take j) : Nat)))) ∧ (i ≤ j → ObAt σ'.H p.o p.ov))) ?_ (by intro _; rfl)
  walk_at "call"
  repeat walk_at "ev"
  walk_at "call"
  repeat walk_at "ev"
  refine CallA.len hf (by simp; omega) ?_
  repeat walk_at "ev"
  refine CallA.range fun a ha => ?_
  have hrln : (L.map fun f : PE => AV.ref f.o).length = L.length := List.length_map ..
  rw [hrln]
  refine ⟨a, (L.length : Nat), rfl, hset_self, by omega, by omega, ⟨rfl, rfl, fun b hb o e => ?_, fun j p hj => ⟨fun h => absurd h (Nat.not_lt_zero _), fun _ => ?_⟩⟩, ?_, ?_⟩
  · exact (Le.new Le.rfl' ha) _ _ e
  · exact (Le.new Le.rfl' ha).ob (hL p (List.mem_of_getElem? hj)).1
  · rintro i σ1 hlt ⟨m0, m1, kp, d1⟩
    intro JN hJN
    obtain ⟨p, hi⟩ : ∃ p, L[i]? = some p := ⟨L[i]'(by omega), by simp⟩
    have hmem := List.mem_of_getElem? hi
    have ob := (d1 i p hi).2 (Nat.le_refl _)
    have hlst := kp _ hrl _ hf
    have tya : TyAt σ1.H p.ov.type p.tv := by
      obtain ⟨fs, e1, e2⟩ := (hL p hmem).2
      exact ⟨fs, kp _ (hty p hmem) _ e1, e2⟩
    have hne : rl ≠ p.o := fun e => hrl (by rw [e]; exact List.mem_map_of_mem hmem)
    have hne2 : p.ov.type ≠ p.o := fun e => hty p hmem (by rw [e]; exact List.mem_map_of_mem hmem)
    repeat walk_at "ev"
    refine ⟨rl, _, _, .ref p.o, rfl, rfl, hlst, lget_nat (map_get _ hi), by simp; omega, ?_⟩
    refine SetAtt.o_slot o1 _ ob fun H2 ob2 k2 => ?_
    have hl2 := (k2 _ hne).trans hlst
    repeat walk_at "ev"
    refine ⟨rl, _, _, .ref p.o, rfl, rfl, hl2, lget_nat (map_get _ hi), by simp; omega, ?_⟩
    refine SetAtt.o_isparam o1 _ ob2 fun H3 ob3 k3 => ?_
    have hl3 := (k3 _ hne).trans hl2
    repeat walk_at "ev"
    refine ⟨rl, _, _, .ref p.o, rfl, rfl, hl3, lget_nat (map_get _ hi), by simp; omega, ?_⟩
    refine SetAtt.o_offset o1 _ ob3 fun H4 ob4 k4 => ?_
    have hl4 := (k4 _ hne).trans hl3
    have ty4 : TyAt H4 p.ov.type p.tv := ((tya.keep (k2 _ hne2)).keep (k3 _ hne2)).keep (k4 _ hne2)
    repeat walk_at "ev"
    walk_at "call"
    repeat walk_at "ev"
    refine ⟨rl, _, _, .ref p.o, rfl, rfl, hl4, lget_nat (map_get _ hi), by simp; omega, ?_⟩
    repeat walk_at "ev"
    refine param_words_spec o1 (r1.mono (by omega) : Room φ' 1) (p := ⟨p.o, p.placed i (4 * (wordsN (w0N b) (L.take i) : Nat)), p.tv⟩) (by exact ob4) (by exact ty4) ?_
    repeat walk_at "ev"
    refine ⟨m0, ?_, ?_, ?_⟩
    · rw [wordsN_take_succ hi]; rfl
    · intro b hb o e
      have hbp : b ≠ p.o := fun e' => hb (by rw [e']; exact List.mem_map_of_mem hmem)
      exact (k4 _ hbp).trans ((k3 _ hbp).trans ((k2 _ hbp).trans (kp b hb o e)))
    · intro j q hj
      by_cases hji : j = i
      · subst hji
        rw [hi] at hj
        obtain rfl := Option.some.inj hj
        exact ⟨fun _ => ob4, fun h => absurd h (by omega)⟩
      · have hq := nodup_neP hnd hj hi hji
        exact ⟨fun h => (((((d1 j q hj).1 (by omega)).keep (k2 _ hq)).keep (k3 _ hq)).keep (k4 _ hq)), fun h => (((((d1 j q hj).2 (by omega)).keep (k2 _ hq)).keep (k3 _ hq)).keep (k4 _ hq))⟩
  · rintro σ1 ⟨m0, m1, kp, d1⟩
    have et : L.take ((L.length : Nat) : Int).toNat = L := List.take_of_length_le (by omega)
    rw [et] at m1
    repeat walk_at "ev"
    exact h _ kp fun j p hj => (d1 j p hj).1 (by have := (List.getElem?_eq_some_iff.mp hj).1; omega)

theorem address_words_spec (hok : φ.Ok (WX w mean mg mb)) {n : Nat} (hroom : Room φ (n + 2)) {rl : Addr} {L : List PE} {b : Bool}
    (hf : σ.H rl = some (.lst (L.map fun f => .ref f.o))) (hL : ∀ p ∈ L, ObAt σ.H p.o p.ov ∧ TyAt σ.H p.ov.type p.tv) (hlen : L.length ≤ 100)
    (h : ∀ r H', Le σ.H H' → H' r = some (.lst ((dueL (w0N b) L).map AV.int)) → Q (.ref r) ⟨σ.m, H'⟩) : CallA (WX w mean mg mb) φ (.ref 106) [.ref rl, .bool b] Q σ := by
  refine' CallA.fn2 "params" "linked" hok (by walk_at "fn") hroom.lt (by walk_at "bd") (by decide) ?_
  intro φ' o1 o2 o3 o4 o5
  have r1 : Room φ' (n + 1) := hroom.call o4 o5
  repeat walk_at "ev"
  refine ⟨by decide, fun fa hfa => ?_⟩
  walk_at "ev"
  refine Exs.cons (Ex1.join (fun σ1 => σ1 = St.set (St.set (St.put ⟨lmap [("params", .ref rl), ("linked", .bool b)], σ.H⟩ fa (.lst [])) "found" (.ref fa)) "words" (.int (w0N b : Nat))) ?_ ?_)
  · intro PJ hPJ
    repeat walk_at "ev"
    refine Co.val ?_ (by with_unfolding_all rfl)
    repeat walk_at "ev"
    refine ⟨b, rfl, ite_b (fun e => ?_) fun e => ?_⟩
    · repeat walk_at "ev"
      rw [e]; rfl
    · repeat walk_at "ev"
      rw [e]; rfl
  rintro _ rfl
  repeat walk_at "ev"
  have l0 : Le σ.H (hset σ.H fa (.lst [])) := Le.new Le.rfl' hfa
  have hfr : ∀ {a o}, σ.H a = some o → a ≠ fa := fun e e' => by rw [e', hfa] at e; cases e
  refine Ex1.forL o1 (loc_of o2 (by rfl)) (fun i σ' => σ'.m "found" = some (.ref fa) ∧ σ'.m "words" = some (.int (wordsN (w0N b) (L.take i) : Nat)) ∧ Le σ.H σ'.H ∧ σ'.H fa = some (.lst ((dueL (w0N b) (L.take i)).map AV.int))) ?_ (by intro _; rfl)
  walk_at "ev"
  refine ⟨rl, L.map (fun f : PE => AV.ref f.o), rfl, l0 _ _ hf, ⟨rfl, rfl, l0, hset_self⟩, fun i σ' h => h.2.2.1 _ _ hf, ?_, ?_⟩
  · rintro i a σ1 ha ⟨m0, m1, kp, d1⟩
    intro JN hJN
    rw [List.getElem?_map] at ha
    cases hi : L[i]? with
    | none => rw [hi] at ha; cases ha
    | some p =>
      rw [hi] at ha
      obtain rfl := Option.some.inj ha
      have hmem := List.mem_of_getElem? hi
      have ob := kp.ob (hL p hmem).1
      have ty := kp.ty (hL p hmem).2
      have et : L.take (i + 1) = L.take i ++ [p] := by rw [List.take_add_one, hi]; rfl
      have ed : dueL (w0N b) (L.take (i + 1)) = dueL (w0N b) (L.take i) ++ dueL (wordsN (w0N b) (L.take i)) [p] := by rw [et, dueL_append]
      have hdl := dueL_length (w0N b) (L.take i)
      have htl : (L.take i).length ≤ L.length := by rw [List.length_take]; omega
      refine Exs.cons (Ex1.join (fun σ2 => σ2.m "found" = some (.ref fa) ∧ σ2.m "words" = some (.int (wordsN (w0N b) (L.take i) : Nat)) ∧ σ2.m "par" = some (.ref p.o) ∧ Le σ.H σ2.H ∧ σ2.H fa = some (.lst ((dueL (w0N b) (L.take (i + 1))).map AV.int))) ?_ ?_)
      · intro PJ hPJ
        have fin1 : (p.ov.kind == ("par" : Str) || p.tv.form == ("pointer" : Str)) = true → ∀ H', H' = hset σ1.H fa (.lst ((dueL (w0N b) (L.take i)).map AV.int ++ [.int (4 * (wordsN (w0N b) (L.take i) : Nat))])) → Le σ.H H' ∧ H' fa = some (.lst ((dueL (w0N b) (L.take (i + 1))).map AV.int)) := by
          rintro e H' rfl
          refine ⟨fun a o e' => (hset_ne (hfr e')).trans (kp a o e'), ?_⟩
          rw [hset_self, ed]
          simp only [dueL, e, if_true, List.append_nil, List.map_append, List.map_cons, List.map_nil]
        repeat walk_at "ev"
        refine Att.o_kind o1 ob ?_
        repeat walk_at "ev"
        refine ⟨_, rfl, ite_b (fun e => ?_) fun e => ?_⟩
        · rw [if_pos rfl]
          repeat walk_at "ev"
          refine ⟨fa, _, rfl, d1, ?_⟩
          repeat walk_at "ev"
          refine CallA.append d1 (by simp; omega) ⟨rfl, ?_⟩
          repeat walk_at "ev"
          have := fin1 (by rw [e]; rfl) _ rfl
          exact ⟨m0, m1, rfl, this.1, this.2⟩
        · repeat walk_at "ev"
          refine Att.o_type o1 ob ?_
          refine Att.t_form o1 ty ?_
          repeat walk_at "ev"
          refine ⟨_, rfl, ite_b (fun e2 => ?_) fun e2 => ?_⟩
          · rw [if_pos rfl]
            repeat walk_at "ev"
            refine ⟨fa, _, rfl, d1, ?_⟩
            repeat walk_at "ev"
            refine CallA.append d1 (by simp; omega) ⟨rfl, ?_⟩
            repeat walk_at "ev"
            have := fin1 (by rw [e2, Bool.or_true]) _ rfl
            exact ⟨m0, m1, rfl, this.1, this.2⟩
          · repeat walk_at "ev"
            rw [if_neg Bool.false_ne_true]
            repeat walk_at "ev"
            refine ⟨m0, m1, rfl, kp, ?_⟩
            rw [ed]
            simp only [dueL, e, e2, Bool.or_self, Bool.false_eq_true, if_false, List.append_nil]
            exact d1
      · rintro σ2 ⟨n0, n1, n2, l2, d2⟩
        repeat walk_at "ev"
        walk_at "call"
        repeat walk_at "ev"
        refine param_words_spec o1 (r1.mono (by omega) : Room φ' 1) (l2.ob (hL p hmem).1) (l2.ty (hL p hmem).2) ?_
        repeat walk_at "ev"
        exact ⟨n0, by rw [wordsN_take_succ hi]; rfl, l2, d2⟩
  · rintro σ1 ⟨m0, m1, kp, d1⟩
    have et : L.take (L.map fun f => AV.ref f.o).length = L := List.take_of_length_le (by simp)
    rw [et] at d1
    repeat walk_at "ev"
    exact h fa _ kp d1
end
-- the plain law of marks
def nl (xs : List Nat) : List AV := xs.map fun n : Nat => AV.int n
theorem nl_append (xs ys : List Nat) : nl (xs ++ ys) = nl xs ++ nl ys := List.map_append ..
theorem nl_length (xs : List Nat) : (nl xs).length = xs.length := List.length_map ..
def offs (cf : List (Nat × List Bool)) : List Nat := cf.flatMap fun p => (posOf p.2).map (p.1 + ·)
theorem offs_append (a b : List (Nat × List Bool)) : offs (a ++ b) = offs a ++ offs b := by unfold offs; rw [List.flatMap_append]
theorem offs_length (cf : List (Nat × List Bool)) : (offs cf).length = (cf.map fun p => (posOf p.2).length).sum := by
  induction cf with
  | nil => rfl
  | cons p cf ih =>
    show (((posOf p.2).map (p.1 + ·)) ++ offs cf).length = _
    rw [List.length_append, ih, List.length_map, List.map_cons, List.sum_cons]
theorem place_len {row : List Bool} {p : Nat × List Bool} (h : p.1 + p.2.length ≤ row.length) : (place row p).length = row.length := by
  unfold place
  simp only [List.length_append, List.length_take, List.length_drop]
  omega
theorem place_get {row : List Bool} {p : Nat × List Bool} (h : p.1 + p.2.length ≤ row.length) (s : Nat) : (place row p)[s]? = if p.1 ≤ s ∧ s < p.1 + p.2.length then p.2[s - p.1]? else row[s]? := by
  unfold place
  have h1 : (row.take p.1).length = p.1 := by rw [List.length_take]; omega
  have h2 : (row.take p.1 ++ p.2).length = p.1 + p.2.length := by rw [List.length_append, h1]
  by_cases c1 : s < p.1
  · rw [if_neg (by omega), List.getElem?_append_left (by omega), List.getElem?_append_left (by omega), List.getElem?_take_of_lt c1]
  · by_cases c2 : s < p.1 + p.2.length
    · rw [if_pos ⟨by omega, c2⟩, List.getElem?_append_left (by omega), List.getElem?_append_right (by omega), h1]
    · rw [if_neg (by omega), List.getElem?_append_right (by omega), h2, List.getElem?_drop]
      congr 1; omega
theorem foldl_place_len : ∀ (cf : List (Nat × List Bool)) (row : List Bool), (∀ p ∈ cf, p.1 + p.2.length ≤ row.length) → (cf.foldl place row).length = row.length
  | [], _, _ => rfl
  | p :: cf, row, h => by
    have e := place_len (h p (.head _))
    rw [List.foldl_cons, foldl_place_len cf _ (by rw [e]; exact fun q hq => h q (.tail _ hq)), e]
theorem foldl_place_get (s : Nat) : ∀ (cf : List (Nat × List Bool)) (row : List Bool), (∀ p ∈ cf, p.1 + p.2.length ≤ row.length) → cf.Pairwise (fun p q => p.1 + p.2.length ≤ q.1 ∨ q.1 + q.2.length ≤ p.1) →
    ((cf.foldl place row)[s]? = some true ↔ (∃ p ∈ cf, p.1 ≤ s ∧ p.2[s - p.1]? = some true) ∨ (row[s]? = some true ∧ ∀ p ∈ cf, ¬ (p.1 ≤ s ∧ s < p.1 + p.2.length)))
  | [], row, _, _ => by simp
  | p :: cf, row, h, hd => by
    obtain ⟨hd1, hd2⟩ := List.pairwise_cons.mp hd
    have hp := h p (.head _)
    have e := place_len hp
    have ih := foldl_place_get s cf (place row p) (by rw [e]; exact fun q hq => h q (.tail _ hq)) hd2
    rw [List.foldl_cons, ih, place_get hp]
    constructor
    · rintro (⟨q, hq, h1, h2⟩ | ⟨h1, h2⟩)
      · exact .inl ⟨q, .tail _ hq, h1, h2⟩
      · by_cases c : p.1 ≤ s ∧ s < p.1 + p.2.length
        · rw [if_pos c] at h1
          exact .inl ⟨p, .head _, c.1, h1⟩
        · rw [if_neg c] at h1
          refine .inr ⟨h1, fun q hq => ?_⟩
          rcases List.mem_cons.mp hq with rfl | hq
          · exact c
          · exact h2 q hq
    · rintro (⟨q, hq, h1, h2⟩ | ⟨h1, h2⟩)
      · rcases List.mem_cons.mp hq with rfl | hq
        · have hlt := (List.getElem?_eq_some_iff.mp h2).1
          refine .inr ⟨by rw [if_pos ⟨h1, by omega⟩]; exact h2, fun r hr => ?_⟩
          have := hd1 r hr
          omega
        · exact .inl ⟨q, hq, h1, h2⟩
      · exact .inr ⟨by rw [if_neg (h2 p (.head _))]; exact h1, fun r hr => h2 r (.tail _ hr)⟩
theorem foldl_set_len : ∀ (ch : List Nat) (row : List Bool), (ch.foldl (fun r s => r.set s true) row).length = row.length
  | [], _ => rfl
  | c :: ch, row => by rw [List.foldl_cons, foldl_set_len ch, List.length_set]
theorem foldl_set_get (s : Nat) : ∀ (ch : List Nat) (row : List Bool), (∀ c ∈ ch, c < row.length) → ((ch.foldl (fun r s => r.set s true) row)[s]? = some true ↔ s ∈ ch ∨ row[s]? = some true)
  | [], row, _ => by simp
  | c :: ch, row, h => by
    rw [List.foldl_cons, foldl_set_get s ch _ (fun x hx => by rw [List.length_set]; exact h x (.tail _ hx)), List.getElem?_set, List.mem_cons]
    have hc := h c (.head _)
    by_cases e : c = s
    · subst e
      rw [if_pos rfl, if_pos hc]
      simp
    · rw [if_neg e]
      constructor
      · rintro (h | h)
        · exact .inl (.inr h)
        · exact .inr h
      · rintro ((h | h) | h)
        · exact absurd h.symm e
        · exact .inl h
        · exact .inr h
theorem mem_posOf {mk : List Bool} {s : Nat} : s ∈ posOf mk ↔ mk[s]? = some true := by
  unfold posOf
  rw [List.mem_filter, List.mem_range]
  constructor
  · rintro ⟨_, h⟩; exact beq_iff_eq.mp h
  · intro h; exact ⟨(List.getElem?_eq_some_iff.mp h).1, beq_iff_eq.mpr h⟩
theorem posOf_sorted (mk : List Bool) : (posOf mk).Pairwise (· < ·) := List.Pairwise.filter _ List.pairwise_lt_range
theorem mem_offs {cf : List (Nat × List Bool)} {s : Nat} : s ∈ offs cf ↔ ∃ p ∈ cf, p.1 ≤ s ∧ p.2[s - p.1]? = some true := by
  unfold offs
  simp only [List.mem_flatMap, List.mem_map, mem_posOf]
  constructor
  · rintro ⟨p, hp, q, hq, rfl⟩
    exact ⟨p, hp, by omega, by rw [Nat.add_sub_cancel_left]; exact hq⟩
  · rintro ⟨p, hp, h1, h2⟩
    exact ⟨p, hp, s - p.1, h2, by omega⟩
theorem rowOf_len {size : Nat} {cf : List (Nat × List Bool)} {ch : List Nat} (h : ∀ p ∈ cf, p.1 + p.2.length ≤ size) : (rowOf size cf ch).length = size := by
  unfold rowOf
  rw [foldl_set_len, foldl_place_len _ _ (by rw [List.length_replicate]; exact h), List.length_replicate]
theorem rowOf_get {size : Nat} {cf : List (Nat × List Bool)} {ch : List Nat} (h : ∀ p ∈ cf, p.1 + p.2.length ≤ size) (hd : cf.Pairwise (fun p q => p.1 + p.2.length ≤ q.1 ∨ q.1 + q.2.length ≤ p.1)) (hc : ∀ s ∈ ch, s < size) (s : Nat) :
    (rowOf size cf ch)[s]? = some true ↔ s ∈ offs cf ∨ s ∈ ch := by
  have h' : ∀ p ∈ cf, p.1 + p.2.length ≤ (List.replicate size false).length := by rw [List.length_replicate]; exact h
  unfold rowOf
  rw [foldl_set_get s ch _ (by rw [foldl_place_len _ _ h', List.length_replicate]; exact hc), foldl_place_get s cf _ h' hd, mem_offs]
  constructor
  · rintro (h | h | ⟨h, _⟩)
    · exact .inr h
    · exact .inl h
    · obtain ⟨_, h2⟩ := List.getElem?_eq_some_iff.mp h
      rw [List.getElem_replicate] at h2
      cases h2
  · rintro (h | h)
    · exact .inr (.inl h)
    · exact .inl h
theorem posOf_append (a b : List Bool) : posOf (a ++ b) = posOf a ++ (posOf b).map (a.length + ·) := by
  unfold posOf
  rw [List.length_append, List.range_add, List.filter_append, List.filter_map]
  congr 1
  · refine List.filter_congr fun x hx => ?_
    rw [List.getElem?_append_left (List.mem_range.mp hx)]
  · congr 1
    refine List.filter_congr fun x hx => ?_
    show ((a ++ b)[a.length + x]? == some true) = _
    rw [List.getElem?_append_right (by omega), Nat.add_sub_cancel_left]
theorem posOf_false (n : Nat) : posOf (List.replicate n false) = [] := by
  refine List.eq_nil_iff_forall_not_mem.mpr fun s hs => ?_
  obtain ⟨_, h2⟩ := List.getElem?_eq_some_iff.mp (mem_posOf.mp hs)
  rw [List.getElem_replicate] at h2
  cases h2
theorem flat_succ (n : Nat) (mk : List Bool) : (List.replicate (n + 1) mk).flatten = (List.replicate n mk).flatten ++ mk := by
  rw [List.replicate_succ', List.flatten_append]; simp
theorem flat_len (n : Nat) (mk : List Bool) : (List.replicate n mk).flatten.length = n * mk.length := by
  induction n with
  | zero => simp
  | succ n ih => rw [flat_succ, List.length_append, ih, Nat.succ_mul]
/-- one of each, in a row -/
def dstep (acc : List Int) (x : Int) : List Int := if acc.getLast? = some x then acc else acc ++ [x]
def dd (ms : List Int) : List Int := ms.foldl dstep []
theorem dd_snoc (ms : List Int) (x : Int) : dd (ms ++ [x]) = dstep (dd ms) x := by unfold dd; rw [List.foldl_append]; rfl
theorem dd_facts : ∀ (n : Nat) (ms : List Int), ms.length = n → ms.Pairwise (· ≤ ·) → (dd ms).Pairwise (· < ·) ∧ (∀ x, x ∈ dd ms ↔ x ∈ ms) ∧ (dd ms).getLast? = ms.getLast?
  | 0, ms, h, _ => by
    obtain rfl := List.length_eq_zero_iff.mp h
    exact ⟨.nil, fun _ => Iff.rfl, rfl⟩
  | n + 1, ms, h, hp => by
    obtain ⟨l, x, rfl⟩ : ∃ l x, ms = l ++ [x] := ⟨ms.dropLast, ms.getLast (by intro e; rw [e] at h; cases h), (List.dropLast_concat_getLast _).symm⟩
    obtain ⟨p1, p2, p3⟩ := List.pairwise_append.mp hp
    obtain ⟨i1, i2, i3⟩ := dd_facts n l (by simpa using h) p1
    rw [dd_snoc]
    unfold dstep
    by_cases c : (dd l).getLast? = some x
    · rw [if_pos c]
      refine ⟨i1, fun y => ?_, by rw [c]; simp⟩
      rw [i2, List.mem_append, List.mem_singleton]
      refine ⟨.inl, ?_⟩
      rintro (h | rfl)
      · exact h
      · exact (i2 _).mp (List.mem_of_getLast? c)
    · rw [if_neg c]
      refine ⟨List.pairwise_append.mpr ⟨i1, List.pairwise_singleton .., fun a ha b hb => ?_⟩, fun y => by rw [List.mem_append, List.mem_append, i2], by simp⟩
      obtain rfl := List.mem_singleton.mp hb
      have hle := p3 a ((i2 a).mp ha) b (List.mem_singleton.mpr rfl)
      refine Int.lt_iff_le_and_ne.mpr ⟨hle, fun e => c ?_⟩
      -- a = b is the greatest of them: it must be the last
      subst e
      have hne : dd l ≠ [] := List.ne_nil_of_mem ha
      obtain ⟨l', z, hz⟩ : ∃ l' z, dd l = l' ++ [z] := ⟨(dd l).dropLast, (dd l).getLast hne, (List.dropLast_concat_getLast _).symm⟩
      rw [hz, List.getLast?_append]
      rw [hz] at ha
      have hzl : z ∈ l := (i2 z).mp (by rw [hz]; simp)
      have hza := p3 z hzl a (List.mem_singleton.mpr rfl)
      rcases List.mem_append.mp ha with h | h
      · have := (List.pairwise_append.mp (hz ▸ i1)).2.2 a h z (List.mem_singleton.mpr rfl)
        omega
      · obtain rfl := List.mem_singleton.mp h
        simp
theorem sorted_ext : ∀ (a b : List Int), a.Pairwise (· < ·) → b.Pairwise (· < ·) → (∀ x, x ∈ a ↔ x ∈ b) → a = b
  | [], [], _, _, _ => rfl
  | [], y :: b, _, _, h => absurd ((h y).mpr (.head _)) (by simp)
  | x :: a, [], _, _, h => absurd ((h x).mp (.head _)) (by simp)
  | x :: a, y :: b, ha, hb, h => by
    obtain ⟨a1, a2⟩ := List.pairwise_cons.mp ha
    obtain ⟨b1, b2⟩ := List.pairwise_cons.mp hb
    have e : x = y := by
      rcases List.mem_cons.mp ((h x).mp (.head _)) with e | e
      · exact e
      · rcases List.mem_cons.mp ((h y).mpr (.head _)) with e' | e'
        · exact e'.symm
        · have := a1 y e'
          have := b1 x e
          omega
    subst e
    refine congrArg (x :: ·) (sorted_ext a b a2 b2 fun z => ⟨fun hz => ?_, fun hz => ?_⟩)
    · rcases List.mem_cons.mp ((h z).mp (.tail _ hz)) with e | e
      · have := a1 z hz; omega
      · exact e
    · rcases List.mem_cons.mp ((h z).mpr (.tail _ hz)) with e | e
      · have := b1 z hz; omega
      · exact e
/-- the law of a record's marks -/
theorem dd_rowOf {size : Nat} {cf : List (Nat × List Bool)} {ch : List Nat} (h : ∀ p ∈ cf, p.1 + p.2.length ≤ size) (hd : cf.Pairwise (fun p q => p.1 + p.2.length ≤ q.1 ∨ q.1 + q.2.length ≤ p.1)) (hc : ∀ s ∈ ch, s < size)
    {xs : List Nat} {ms : List Int} (hx : xs.Perm (offs cf ++ ch)) (hm : ms.Perm (xs.map Int.ofNat)) (hs : ms.Pairwise (· ≤ ·)) : dd ms = (posOf (rowOf size cf ch)).map Int.ofNat := by
  obtain ⟨d1, d2, _⟩ := dd_facts _ ms rfl hs
  refine sorted_ext _ _ d1 ?_ fun x => ?_
  · exact List.Pairwise.map _ (fun a b hab => Int.ofNat_lt.mpr hab) (posOf_sorted _)
  · rw [d2, hm.mem_iff, List.mem_map, List.mem_map]
    constructor
    · rintro ⟨s, hs, rfl⟩
      exact ⟨s, mem_posOf.mpr ((rowOf_get h hd hc s).mpr (List.mem_append.mp (hx.mem_iff.mp hs))), rfl⟩
    · rintro ⟨s, hs, rfl⟩
      exact ⟨s, hx.mem_iff.mpr (List.mem_append.mpr ((rowOf_get h hd hc s).mp (mem_posOf.mp hs))), rfl⟩
section
variable {w : World} {mean : ExcName → Option Value} {mg mb : Str → Option Value} {φ : Fx} {σ : St} {T : Addr → Option TI} {G : Addr → Option AO} {Q : AV → St → Prop}
theorem lget_last {xs : List AV} {v : AV} (h : xs.getLast? = some v) : lget xs (-1) = some v := by
  have hne : xs ≠ [] := by intro e; rw [e] at h; cases h
  have hp : 0 < xs.length := List.length_pos_iff.mpr hne
  rw [List.getLast?_eq_getElem?] at h
  unfold lget
  rw [if_neg (by omega), if_pos (by omega)]
  rw [← h]
  congr 1
  omega
theorem dd_short (ms : List Int) : (dd ms).length ≤ ms.length := by
  suffices ∀ (n : Nat) (ms : List Int), ms.length = n → (dd ms).length ≤ n from this _ ms rfl
  intro n
  induction n with
  | zero => intro ms h; obtain rfl := List.length_eq_zero_iff.mp h; exact Nat.le_refl _
  | succ n ih =>
    intro ms h
    obtain ⟨l, x, rfl⟩ : ∃ l x, ms = l ++ [x] := ⟨ms.dropLast, ms.getLast (by intro e; rw [e] at h; cases h), (List.dropLast_concat_getLast _).symm⟩
    have := ih l (by simpa using h)
    rw [dd_snoc]; unfold dstep
    split
    · omega
    · rw [List.length_append]; simp; omega
theorem distinct_spec (hok : φ.Ok (WX w mean mg mb)) {n : Nat} (hroom : Room φ (n + 1)) {rl : Addr} {ms : List Int} (hf : σ.H rl = some (.lst (ms.map AV.int))) (hlen : ms.length ≤ 100)
    (h : ∀ r H', σ.H r = none → Le σ.H H' → H' r = some (.lst ((dd ms).map AV.int)) → Q (.ref r) ⟨σ.m, H'⟩) : CallA (WX w mean mg mb) φ (.ref 99) [.ref rl] Q σ := by
  refine' CallA.fn1 "row" hok (by walk_at "fn") hroom.lt (by walk_at "bd") (by decide) ?_
  intro φ' o1 o2 o3 o4 o5
  repeat walk_at "ev"
  refine ⟨by decide, fun fa hfa => ?_⟩
  repeat walk_at "ev"
  have l0 : Le σ.H (hset σ.H fa (.lst [])) := Le.new Le.rfl' hfa
  have hfr : ∀ {a o}, σ.H a = some o → a ≠ fa := fun e e' => by rw [e', hfa] at e; cases e
  refine Ex1.forL o1 (loc_of o2 (by rfl)) (fun i σ' => σ'.m "found" = some (.ref fa) ∧ Le σ.H σ'.H ∧ σ'.H fa = some (.lst ((dd (ms.take i)).map AV.int))) ?_ (by intro _; rfl)
  walk_at "ev"
  refine ⟨rl, ms.map AV.int, rfl, l0 _ _ hf, ⟨rfl, l0, hset_self⟩, fun i σ' h => h.2.1 _ _ hf, ?_, ?_⟩
  · rintro i a σ1 ha ⟨m0, kp, d1⟩
    intro JN hJN
    rw [List.getElem?_map] at ha
    cases hi : ms[i]? with
    | none => rw [hi] at ha; cases ha
    | some x =>
      rw [hi] at ha
      obtain rfl := Option.some.inj ha
      have et : ms.take (i + 1) = ms.take i ++ [x] := by rw [List.take_add_one, hi]; rfl
      have htl : (ms.take i).length ≤ ms.length := by rw [List.length_take]; omega
      have hdl := dd_short (ms.take i)
      have hgo : (dd (ms.take i)).getLast? ≠ some x → ∀ H', H' = hset σ1.H fa (.lst ((dd (ms.take i)).map AV.int ++ [.int x])) → Le σ.H H' ∧ H' fa = some (.lst ((dd (ms.take (i + 1))).map AV.int)) := by
        rintro e H' rfl
        refine ⟨fun a o e' => (hset_ne (hfr e')).trans (kp a o e'), ?_⟩
        rw [hset_self, et, dd_snoc]
        unfold dstep
        rw [if_neg e, List.map_append]; rfl
      repeat walk_at "ev"
      walk_at "call"
      repeat walk_at "ev"
      refine CallA.len d1 (by simp; omega) ?_
      repeat walk_at "ev"
      refine ⟨_, rfl, ite_b (fun e => ?_) fun e => ?_⟩
      · rw [if_pos rfl]
        have e0 : dd (ms.take i) = [] := by
          have e := beq_iff_eq.mp e
          rw [List.length_map] at e
          exact List.length_eq_zero_iff.mp (by omega)
        repeat walk_at "ev"
        refine ⟨fa, _, rfl, d1, ?_⟩
        repeat walk_at "ev"
        refine CallA.append d1 (by simp; omega) ⟨rfl, ?_⟩
        repeat walk_at "ev"
        exact ⟨m0, hgo (by rw [e0]; simp) _ rfl⟩
      · have hne : dd (ms.take i) ≠ [] := by
          intro e'
          rw [e'] at e
          revert e; decide
        obtain ⟨z, hz⟩ : ∃ z, (dd (ms.take i)).getLast? = some z := ⟨_, List.getLast?_eq_some_getLast hne⟩
        repeat walk_at "ev"
        refine ⟨fa, _, _, .int z, rfl, rfl, d1, lget_last (by rw [List.getLast?_map, hz]; rfl), by simp; omega, ?_⟩
        repeat walk_at "ev"
        refine ⟨_, rfl, ite_b (fun e => ?_) fun e => ?_⟩
        · rw [if_pos rfl]
          repeat walk_at "ev"
          refine ⟨fa, _, rfl, d1, ?_⟩
          repeat walk_at "ev"
          refine CallA.append d1 (by simp; omega) ⟨rfl, ?_⟩
          repeat walk_at "ev"
          refine ⟨m0, hgo (fun e' => ?_) _ rfl⟩
          rw [hz] at e'
          obtain rfl := Option.some.inj e'
          simp at e
        · repeat walk_at "ev"
          rw [if_neg Bool.false_ne_true]
          repeat walk_at "ev"
          refine ⟨m0, kp, ?_⟩
          have ezx : z = x := by simpa using e
          rw [et, dd_snoc]
          unfold dstep
          rw [if_pos (by rw [hz, ezx])]
          exact d1
  · rintro σ1 ⟨m0, kp, d1⟩
    have et : ms.take (ms.map AV.int).length = ms := List.take_of_length_le (by simp)
    rw [et] at d1
    repeat walk_at "ev"
    exact h fa _ hfa kp d1

theorem Le.none {G H : Addr → Option AO} {a : Addr} (h : Le G H) (e : H a = none) : G a = none := by
  cases hg : G a with
  | none => rfl
  | some o => rw [h a o hg] at e; cases e
theorem Ex1.forK (hok : φ.Ok (WX w mean mg mb)) {Q : AF → St → Prop} {x : Str} {px pos : Pos} {iter : Expr} {body : List Stmt} (hx : φ.cs.names.lookup x = some .local)
    (h : Ev (WX w mean mg mb) φ φ.env iter (fun v σ₁ => ∃ (l : Addr) (xs : List AV) (J : Nat → St → Prop), v = .ref l ∧ σ₁.H l = some (.lst xs) ∧ J 0 σ₁ ∧ (∀ i σ', J i σ' → σ'.H l = some (.lst xs)) ∧
      (∀ i a σ', xs[i]? = some a → J i σ' → ∀ JN, JN = J (i + 1) → Exs (WX w mean mg mb) φ body (turnQ JN (Q .next) Q) (σ'.set x a)) ∧ ∀ σ', J xs.length σ' → Q .next σ') σ)
    (hs : ∀ x, foldedSetIterable iter φ.env x = Pure.pure x) : Ex1 (WX w mean mg mb) φ (.For (.Name x px) iter body [] pos) Q σ :=
  Ex1.for_ hok hx (Tr.mono h fun v σ₁ ⟨l, xs, J, e, hH, h0, hn, ht, hf⟩ => by
    obtain rfl := er_ref e
    exact ⟨xs, _, _, J, Src.list, hH, h0, hn, ht, hf⟩) hs

/-- a record's fields laid out: where, and the marks -/
def cfOf (T : Addr → Option TI) (fs : List FI) : List (Nat × List Bool) := fs.map fun f => (f.off, ((T f.ty).map TI.marks).getD [])
/-- the rest of a chain of records -/
def Chn (T : Addr → Option TI) (R : Nat) (o : Option Addr) (n : Nat) (cf : List (Nat × List Bool)) (ch : List Nat) : Prop := match o with
  | none => n = 0 ∧ cf = [] ∧ ch = []
  | some t => ∃ ti, T t = some ti ∧ ti.kind.isRec = true ∧ ti.rank ≤ R ∧ n = ti.rank + 1 ∧ cf = ti.kind.cf ∧ ch = ti.kind.ch
theorem rec_row (hW : WF T G) {t : Addr} {ti : TI} (hT : T t = some ti) (hr : ti.kind.isRec = true) : ti.form = "record" ∧ ti.marks = rowOf ti.size ti.kind.cf ti.kind.ch ∧ (∀ p ∈ ti.kind.cf, p.1 + p.2.length ≤ ti.size) ∧
    ti.kind.cf.Pairwise (fun p q => p.1 + p.2.length ≤ q.1 ∨ q.1 + q.2.length ≤ p.1) ∧ (∀ s ∈ ti.kind.ch, s < ti.size) ∧ 4 * (offs ti.kind.cf).length ≤ ti.size ∧ ti.kind.ch.length ≤ 20 := by
  obtain ⟨gd, v, hv, hf, hz, hk⟩ := hW t ti hT
  cases hkd : ti.kind with
  | prim => rw [hkd] at hr; cases hr
  | ptr => rw [hkd] at hr; cases hr
  | arr b n => rw [hkd] at hr; cases hr
  | rcd b fs hid cf ch =>
    rw [hkd] at hk
    obtain ⟨h1, _, _, _, _, _, _, _, _, _, h2, h3, h4, h5, h6, h7⟩ := hk
    exact ⟨h1, h2, h3, h4, h5, by rw [offs_length]; exact h6, h7⟩
theorem rec_open (hW : WF T G) {t : Addr} {ti : TI} (hT : T t = some ti) (hr : ti.kind.isRec = true) : ∃ (v : TyV) (fs : List FI) (hid : List Nat) (cf' : List (Nat × List Bool)) (ch' : List Nat), TyAt G t v ∧ v.size = ti.size ∧
    G v.flds = some (.lst (fs.map fun f => .ref f.o)) ∧ fs.length ≤ 100 ∧ G v.hid = some (.lst (nl hid)) ∧
    (∀ f ∈ fs, (∃ ov : ObV, ObAt G f.o ov ∧ ov.type = f.ty ∧ ov.offset = f.off) ∧ ∃ tf, T f.ty = some tf ∧ tf.rank < ti.rank) ∧
    ti.kind.cf = cfOf T fs ++ cf' ∧ ti.kind.ch = hid ++ ch' ∧ ∃ n', n' < ti.rank + 1 ∧ Chn T ti.rank v.base n' cf' ch' := by
  obtain ⟨gd, v, hv, hf, hz, hk⟩ := hW t ti hT
  cases hkd : ti.kind with
  | prim => rw [hkd] at hr; cases hr
  | ptr => rw [hkd] at hr; cases hr
  | arr b n => rw [hkd] at hr; cases hr
  | rcd b fs hid cf ch =>
    rw [hkd] at hk
    obtain ⟨h1, hb, _, hfl, hfn, hhid, hfs, hbb, hcf, hch, _⟩ := hk
    refine ⟨v, fs, hid, _, _, hv, hz, hfl, hfn, hhid, hfs, hcf, hch, ?_⟩
    rw [hb]
    cases b with
    | none => exact ⟨0, Nat.succ_pos _, rfl, rfl, rfl⟩
    | some b' =>
      obtain ⟨tb, e1, e2, e3⟩ := hbb b' rfl
      exact ⟨tb.rank + 1, by omega, tb, e1, e3, by omega, rfl, by simp only [e1]; rfl, by simp only [e1]; rfl⟩
end
def PoS (w : World) (mean : ExcName → Option Value) (mg mb : Str → Option Value) (T : Addr → Option TI) (G : Addr → Option AO) (R : Nat) : Prop :=
  ∀ (φ : Fx) (σ : St) (Q : AV → St → Prop) (t : Addr) (ti : TI), φ.Ok (WX w mean mg mb) → Room φ (2 * R + 4) → T t = some ti → ti.rank < R → Le G σ.H →
    (∀ r H', σ.H r = none → Le σ.H H' → H' r = some (.lst (nl (posOf ti.marks))) → Q (.ref r) ⟨σ.m, H'⟩) → CallA (WX w mean mg mb) φ (.ref 85) [.ref t] Q σ
section
variable {w : World} {mean : ExcName → Option Value} {mg mb : Str → Option Value} {φ : Fx} {σ : St} {T : Addr → Option TI} {G : Addr → Option AO} {Q : AV → St → Prop}
theorem nl_get {xs : List Nat} {i : Nat} {a : AV} (h : (nl xs)[i]? = some a) : ∃ n, xs[i]? = some n ∧ a = .int n := by
  unfold nl at h
  rw [List.getElem?_map] at h
  cases hi : xs[i]? with
  | none => rw [hi] at h; cases h
  | some n => rw [hi] at h; exact ⟨n, rfl, (Option.some.inj h).symm⟩
theorem nl_ints (xs : List Nat) : nl xs = (xs.map Int.ofNat).map AV.int := by unfold nl; rw [List.map_map]; rfl

theorem rp_spec (hW : WF T G) {R : Nat} (IH : PoS w mean mg mb T G R) (hok : φ.Ok (WX w mean mg mb)) (hroom : Room φ (2 * R + 5)) {t : Addr} {ti : TI} (hT : T t = some ti) (hrec : ti.kind.isRec = true) (hR : ti.rank ≤ R) (hG : Le G σ.H)
    (h : ∀ r H', σ.H r = none → Le σ.H H' → H' r = some (.lst (nl (posOf ti.marks))) → Q (.ref r) ⟨σ.m, H'⟩) : CallA (WX w mean mg mb) φ (.ref 92) [.ref t] Q σ := by
  obtain ⟨-, hmk, hin, hdis, hchb, hcnt, hchl⟩ := rec_row hW hT hrec
  have hbig := (hW t ti hT).gd.big
  refine' CallA.fn1 "t" hok (by walk_at "fn") hroom.lt (by walk_at "bd") (by decide) ?_
  intro φ' o1 o2 o3 o4 o5
  have r1 : Room φ' (2 * R + 4) := hroom.call o4 o5
  repeat walk_at "ev"
  refine ⟨by decide, fun fa hfa => ?_⟩
  repeat walk_at "ev"
  have l0 : Le σ.H (hset σ.H fa (.lst [])) := Le.new Le.rfl' hfa
  have hfr : ∀ {a o}, σ.H a = some o → a ≠ fa := fun e e' => by rw [e', hfa] at e; cases e
  refine Ex1.while_ (fun n σ' => ∃ (o : Option Addr) (pcf : List (Nat × List Bool)) (pch xs : List Nat) (cf' : List (Nat × List Bool)) (ch' : List Nat), σ'.m "t" = some (opt o) ∧ σ'.m "found" = some (.ref fa) ∧ Le σ.H σ'.H ∧ σ'.H fa = some (.lst (nl xs)) ∧
    xs.Perm (offs pcf ++ pch) ∧ ti.kind.cf = pcf ++ cf' ∧ ti.kind.ch = pch ++ ch' ∧ Chn T ti.rank o n cf' ch') ?_ (ti.rank + 1) ⟨some t, [], [], [], _, _, rfl, rfl, l0, hset_self, .refl _, rfl, rfl, ti, hT, hrec, Nat.le_refl _, rfl, rfl, rfl⟩
  rintro n σ1 ⟨o, pcf, pch, xs, cf', ch', m0, m1, kp, d1, pm, e1, e2, hc⟩
  intro JN hJN
  have hxl : xs.length ≤ 45 := by
    have q1 := pm.length_eq
    have q2 := congrArg List.length e2
    have q3 : (offs ti.kind.cf).length = (offs pcf).length + (offs cf').length := by rw [e1, offs_append, List.length_append]
    rw [List.length_append] at q1 q2
    omega
  cases o with
  | none =>
    obtain ⟨rfl, rfl, rfl⟩ := hc
    rw [List.append_nil] at e1 e2
    have m0' : σ1.m "t" = some .none := m0
    repeat walk_at "ev"
    refine ⟨_, rfl, ?_⟩
    rw [if_neg (by simp [AV.isNone])]
    repeat walk_at "ev"
    walk_at "call"
    repeat walk_at "ev"
    walk_at "call"
    repeat walk_at "ev"
    refine CallA.sorted (ns := xs.map Int.ofNat) (by rw [← nl_ints]; exact d1) (by rw [List.length_map]; omega) fun b ms hb hp hs => ?_
    repeat walk_at "ev"
    have hms := hp.length_eq
    rw [List.length_map] at hms
    refine distinct_spec o1 (r1.mono (by omega) : Room φ' 1) hset_self (by omega) fun r H' hr0 hL hr => ?_
    repeat walk_at "ev"
    have l2 : Le σ.H (hset σ1.H b (.lst (ms.map AV.int))) := Le.new kp hb
    refine h r H' (l2.none hr0) (l2.trans hL) ?_
    rw [hr, dd_rowOf hin hdis hchb (by rw [e1, e2]; exact pm) hp hs, ← hmk, nl_ints]
  | some t' =>
    obtain ⟨ti', hT', hr', hle, rfl, rfl, rfl⟩ := hc
    obtain ⟨v, fs, hid, cf2, ch2, hv, -, hfl, hfn, hhid, hfs, ecf, ech, n', hn', hc'⟩ := rec_open hW hT' hr'
    have m0' : σ1.m "t" = some (.ref t') := m0
    have hcl : (offs pcf).length + (offs (cfOf T fs)).length ≤ 25 := by
      have q : (offs ti.kind.cf).length = (offs pcf).length + ((offs (cfOf T fs)).length + (offs cf2).length) := by rw [e1, ecf, offs_append, offs_append, List.length_append, List.length_append]
      omega
    have hhl : pch.length + hid.length ≤ 20 := by
      have q := congrArg List.length e2
      rw [ech, List.length_append, List.length_append] at q
      omega
    have pml := pm.length_eq
    rw [List.length_append] at pml
    have hTG : Le G σ.H := hG
    repeat walk_at "ev"
    refine ⟨_, rfl, ?_⟩
    rw [if_pos (show (!(AV.ref t').isNone) = true from rfl)]
    repeat walk_at "ev"
    refine Ex1.forL o1 (loc_of o2 (by rfl)) (fun i σ' => σ'.m "t" = some (.ref t') ∧ σ'.m "found" = some (.ref fa) ∧ Le σ.H σ'.H ∧ σ'.H fa = some (.lst (nl (xs ++ offs ((cfOf T fs).take i))))) ?_ (by intro _; rfl)
    repeat walk_at "ev"
    refine Att.t_fields o1 ((hG.trans kp).ty hv) ?_
    refine ⟨v.flds, fs.map (fun f : FI => AV.ref f.o), rfl, (hG.trans kp) _ _ hfl, ⟨m0', m1, kp, by rw [List.take_zero]; show _ = some (AO.lst (nl (xs ++ []))); rw [List.append_nil]; exact d1⟩, fun i σ' hJ => (hG.trans hJ.2.2.1) _ _ hfl, ?_, ?_⟩
    · rintro i a σ2 ha ⟨n0, n1, k2, d2⟩
      intro JN hJN
      rw [List.getElem?_map] at ha
      cases hi : fs[i]? with
      | none => rw [hi] at ha; cases ha
      | some f =>
        rw [hi] at ha
        obtain rfl := Option.some.inj ha
        obtain ⟨⟨ov, hob, hoty, hoff⟩, tf, hTf, hrk⟩ := hfs f (List.mem_of_getElem? hi)
        have efi : (cfOf T fs)[i]? = some (f.off, tf.marks) := by unfold cfOf; rw [List.getElem?_map, hi]; simp [hTf]
        have etk : offs ((cfOf T fs).take (i + 1)) = offs ((cfOf T fs).take i) ++ (posOf tf.marks).map (f.off + ·) := by
          rw [List.take_add_one, efi, offs_append]; simp [offs]
        have htl : (offs ((cfOf T fs).take (i + 1))).length ≤ (offs (cfOf T fs)).length := by
          conv => rhs; rw [← List.take_append_drop (i + 1) (cfOf T fs)]
          rw [offs_append, List.length_append]; omega
        rw [etk, List.length_append, List.length_map] at htl
        repeat walk_at "ev"
        refine Ex1.forK o1 (loc_of o2 (by rfl)) ?_ (by intro _; rfl)
        walk_at "call"
        repeat walk_at "ev"
        refine Att.o_type o1 ((hG.trans k2).ob hob) ?_
        rw [hoty]
        repeat walk_at "ev"
        refine IH φ' _ _ f.ty tf o1 r1 hTf (by omega) (hG.trans k2) fun r H' hr0 hL hr => ?_
        have hne : fa ≠ r := fun e => by
          have : σ2.H r = none := hr0
          rw [← e, d2] at this; cases this
        refine ⟨r, nl (posOf tf.marks), fun j σ' => σ'.m "t" = some (.ref t') ∧ σ'.m "field" = some (.ref f.o) ∧ σ'.m "found" = some (.ref fa) ∧ Le σ.H σ'.H ∧ σ'.H r = some (.lst (nl (posOf tf.marks))) ∧
          σ'.H fa = some (.lst (nl ((xs ++ offs ((cfOf T fs).take i)) ++ ((posOf tf.marks).take j).map (f.off + ·)))), rfl, hr, ⟨n0, rfl, n1, k2.trans hL, hr, ?_⟩, fun j σ' hJ => hJ.2.2.2.2.1, ?_, ?_⟩
        · rw [List.take_zero, List.map_nil, List.append_nil]; exact hL _ _ d2
        · rintro j a σ3 ha ⟨p0, p1, p2, k3, pr, d3⟩
          intro JN hJN
          obtain ⟨q, hq, rfl⟩ := nl_get ha
          have etq : (posOf tf.marks).take (j + 1) = (posOf tf.marks).take j ++ [q] := by rw [List.take_add_one, hq]; rfl
          have htq : ((posOf tf.marks).take j).length ≤ (posOf tf.marks).length := by rw [List.length_take]; omega
          repeat walk_at "ev"
          refine ⟨fa, _, rfl, d3, ?_⟩
          repeat walk_at "ev"
          refine Att.o_offset o1 ((hG.trans k3).ob hob) ?_
          rw [hoff]
          repeat walk_at "ev"
          refine CallA.append d3 (by rw [nl_length, List.length_append, List.length_append, List.length_map]; omega) ⟨rfl, ?_⟩
          repeat walk_at "ev"
          refine ⟨p0, p1, p2, fun b o' e' => (hset_ne (hfr e')).trans (k3 b o' e'), (hset_ne hne.symm).trans pr, ?_⟩
          refine hset_self.trans ?_
          rw [etq, List.map_append, ← List.append_assoc, nl_append _ (List.map _ [q])]; rfl
        · rintro σ3 ⟨p0, p1, p2, k3, pr, d3⟩
          rw [nl_length, List.take_length] at d3
          repeat walk_at "ev"
          exact ⟨p0, p2, k3, by rw [etk, ← List.append_assoc]; exact d3⟩
    · rintro σ2 ⟨n0, n1, k2, d2⟩
      have eall : (cfOf T fs).take (fs.map (fun f : FI => AV.ref f.o)).length = cfOf T fs := List.take_of_length_le (by unfold cfOf; simp)
      rw [eall] at d2
      repeat walk_at "ev"
      refine ⟨fa, _, rfl, d2, ?_⟩
      repeat walk_at "ev"
      refine Att.t_hidden o1 ((hG.trans k2).ty hv) ?_
      repeat walk_at "ev"
      refine CallA.extend d2 ((hG.trans k2) _ _ hhid) (by rw [nl_length, List.length_append]; omega) (by rw [nl_length]; omega) ⟨rfl, ?_⟩
      have k3 : Le σ.H (hset σ2.H fa (.lst (nl (xs ++ offs (cfOf T fs)) ++ nl hid))) := fun b o' e' => (hset_ne (hfr e')).trans (k2 b o' e')
      repeat walk_at "ev"
      refine Att.t_base o1 ((hG.trans k3).ty hv) ?_
      repeat walk_at "ev"
      refine ⟨n', by omega, v.base, pcf ++ cfOf T fs, pch ++ hid, xs ++ offs (cfOf T fs) ++ hid, cf2, ch2, rfl, n1, k3, ?_, ?_, ?_, ?_, ?_⟩
      · rw [nl_append (xs ++ offs (cfOf T fs)) hid]; exact hset_self
      · rw [offs_append]
        refine ((pm.append_right _).append_right _).trans ?_
        simp only [List.append_assoc]
        refine List.Perm.append_left _ ?_
        rw [← List.append_assoc, ← List.append_assoc]
        exact List.perm_append_comm.append_right _
      · rw [e1, ecf, List.append_assoc]
      · rw [e2, ech, List.append_assoc]
      · revert hc'
        unfold Chn
        cases v.base with
        | none => exact fun x => x
        | some b => exact fun ⟨tb, h1, h2, h3, h4⟩ => ⟨tb, h1, h2, by omega, h4⟩
end
section
variable {w : World} {mean : ExcName → Option Value} {mg mb : Str → Option Value} {φ : Fx} {σ : St} {T : Addr → Option TI} {G : Addr → Option AO} {Q : AV → St → Prop}
theorem ite_f {b : Bool} {P P' : Prop} (e : b = false) (h : P') : if b = true then P else P' := by rw [e, if_neg Bool.false_ne_true]; exact h
theorem ite_t {b : Bool} {P P' : Prop} (e : b = true) (h : P) : if b = true then P else P' := by rw [e, if_pos rfl]; exact h
theorem sne {a b : Str} (h : a ≠ b) : (a == b) = false := beq_eq_false_iff_ne.mpr h
theorem seq {a b : Str} (h : a = b) : (a == b) = true := beq_iff_eq.mpr h
/-- what stands at a type, by its kind -/
theorem ty_kind (hW : WF T G) {t : Addr} {ti : TI} (hT : T t = some ti) : ∃ v : TyV, TyAt G t v ∧ v.form = ti.form ∧ v.size = ti.size ∧
    ((v.form ≠ "array" ∧ v.form ≠ "record" ∧ v.form ≠ "pointer" ∧ ti.marks = List.replicate ti.size false) ∨ (v.form = "pointer" ∧ ti.size = 4 ∧ ti.marks = [true, false, false, false]) ∨
      (∃ b n tb, v.form = "array" ∧ v.base = some b ∧ v.len = (n : Nat) ∧ T b = some tb ∧ tb.rank < ti.rank ∧ ti.size = n * tb.size ∧ ti.marks = (List.replicate n tb.marks).flatten ∧ n ≤ 100) ∨ (v.form = "record" ∧ ti.kind.isRec = true)) := by
  obtain ⟨gd, v, hv, hf, hz, hk⟩ := hW t ti hT
  refine ⟨v, hv, hf, hz, ?_⟩
  rw [hf]
  cases hkd : ti.kind with
  | prim => rw [hkd] at hk; exact .inl ⟨hk.1, hk.2.1, hk.2.2.1, hk.2.2.2.2⟩
  | ptr => rw [hkd] at hk; exact .inr (.inl ⟨hk.1, hk.2.2.1, hk.2.2.2⟩)
  | arr b n =>
    rw [hkd] at hk
    obtain ⟨h1, h2, h3, h0, tb, h4, h5, h6, h7, h8⟩ := hk
    exact .inr (.inr (.inl ⟨b, n, tb, h1, h2, h3, h4, h5, h6, h7, h0⟩))
  | rcd b fs hid cf ch => rw [hkd] at hk; exact .inr (.inr (.inr ⟨hk.1, rfl⟩))

theorem po_step (hW : WF T G) {R : Nat} (IH : PoS w mean mg mb T G R) : PoS w mean mg mb T G (R + 1) := by
  intro φ σ Q t ti hok hroom hT hR hG h
  obtain ⟨v, hv, hvf, hvz, hk⟩ := ty_kind hW hT
  have gd := (hW t ti hT).gd
  refine' CallA.fn1 "t" hok (by walk_at "fn") hroom.lt (by walk_at "bd") (by decide) ?_
  intro φ' o1 o2 o3 o4 o5
  have r1 : Room φ' (2 * R + 5) := hroom.call o4 o5
  have hvs := hG.ty hv
  repeat walk_at "ev"
  refine Att.t_form o1 hvs ?_
  repeat walk_at "ev"
  refine ⟨_, rfl, ?_⟩
  rcases hk with ⟨h1, h2, h3, hmk⟩ | ⟨h1, h2, hmk⟩ | ⟨b, n, tb, h1, hb, hn, hTb, hrb, hsz, hmk, hn1⟩ | ⟨h1, hrec⟩
  · refine ite_f (sne h3) ?_
    repeat walk_at "ev"
    refine Att.t_form o1 hvs ?_
    repeat walk_at "ev"
    refine ⟨_, rfl, ite_f (sne h1) ?_⟩
    repeat walk_at "ev"
    refine Att.t_form o1 hvs ?_
    repeat walk_at "ev"
    refine ⟨_, rfl, ite_f (sne h2) ?_⟩
    repeat walk_at "ev"
    refine ⟨by decide, fun a ha => ?_⟩
    repeat walk_at "ev"
    refine h a _ ha (Le.new Le.rfl' ha) ?_
    rw [hmk, posOf_false]; exact hset_self
  · refine ite_t (seq h1) ?_
    repeat walk_at "ev"
    refine ⟨by decide, fun a ha => ?_⟩
    repeat walk_at "ev"
    refine h a _ ha (Le.new Le.rfl' ha) ?_
    rw [hmk]; exact hset_self
  · refine ite_f (sne (by rw [h1]; decide)) ?_
    repeat walk_at "ev"
    refine Att.t_form o1 hvs ?_
    repeat walk_at "ev"
    refine ⟨_, rfl, ite_t (seq h1) ?_⟩
    repeat walk_at "ev"
    walk_at "call"
    repeat walk_at "ev"
    refine Att.t_base o1 hvs ?_
    rw [hb]
    repeat walk_at "ev"
    have gdb := (hW b tb hTb).gd
    have hlenb := gdb.len
    have hbigb := gdb.big
    have hbig := gd.big
    refine IH φ' _ _ b tb o1 (r1.mono (by omega)) hTb (by omega) hG fun r H1 hr0 hL1 hr => ?_
    repeat walk_at "ev"
    refine ⟨by decide, fun fa hfa => ?_⟩
    have hfr : ∀ {a o}, H1 a = some o → a ≠ fa := fun e e' => by
      have : H1 fa = none := hfa
      rw [e', this] at e; cases e
    have l0 : Le H1 (hset H1 fa (.lst [])) := Le.new Le.rfl' hfa
    have hfa0 : σ.H fa = none := hL1.none hfa
    repeat walk_at "ev"
    have cntb : ∀ k : Nat, k ≤ n → (posOf (List.replicate k tb.marks).flatten).length ≤ 100 := fun k hk => by
      have e1 : (posOf (List.replicate k tb.marks).flatten).length ≤ (List.replicate k tb.marks).flatten.length := Nat.le_trans (List.length_filter_le _ _) (by rw [List.length_range]; exact Nat.le_refl _)
      rw [flat_len] at e1
      have := Nat.mul_le_mul_right tb.marks.length hk
      rw [hlenb] at this e1
      omega
    refine Ex1.join (fun σ' => σ'.m "found" = some (.ref fa) ∧ Le H1 σ'.H ∧ σ'.H fa = some (.lst (nl (posOf ti.marks)))) ?_ ?_
    · intro PJ hPJ
      have hlen : (Max.max (n : Int) 0) = (n : Nat) := by omega
      have hn3 : n ≤ 2 ^ 61 := by omega
      refine Ex1.forR o1 (loc_of o2 (by rfl)) (fun i σ' => σ'.m "t" = some (.ref t) ∧ σ'.m "inner" = some (.ref r) ∧ σ'.m "found" = some (.ref fa) ∧ Le H1 σ'.H ∧ σ'.H fa = some (.lst (nl (posOf (List.replicate i tb.marks).flatten)))) ?_ (by intro _; rfl)
      walk_at "call"
      repeat walk_at "ev"
      walk_at "call"
      repeat walk_at "ev"
      refine Att.t_length o1 ((hG.trans hL1).trans l0 |>.ty hv) ?_
      rw [hn]
      repeat walk_at "ev"
      refine CallA.max ?_
      rw [hlen]
      repeat walk_at "ev"
      refine CallA.range fun ra hra => ?_
      refine ⟨ra, n, rfl, hset_self, by omega, by omega, ⟨rfl, rfl, rfl, l0.trans (Le.new Le.rfl' hra), ?_⟩, ?_, ?_⟩
      · exact (Le.new Le.rfl' hra) _ _ hset_self
      · rintro i σ1 hlt ⟨m0, m1, m2, kp, d1⟩
        intro JN hJN
        have hi : i < n := by omega
        have hr1 := kp _ _ hr
        repeat walk_at "ev"
        walk_at "call"
        repeat walk_at "ev"
        refine CallA.len hr1 (by rw [nl_length]; have := gdb.cnt; omega) ?_
        repeat walk_at "ev"
        refine ⟨_, rfl, ite_b (fun e => ?_) fun e => ?_⟩
        · have e0 : posOf tb.marks = [] := by
            have e := beq_iff_eq.mp e
            rw [nl_length] at e
            exact List.length_eq_zero_iff.mp (by omega)
          have eall : ∀ k, posOf (List.replicate k tb.marks).flatten = [] := fun k => by
            induction k with
            | zero => rfl
            | succ k ih => rw [flat_succ, posOf_append, ih, e0]; rfl
          repeat walk_at "ev"
          refine ⟨m2, kp, ?_⟩
          refine Eq.trans d1 ?_
          rw [hmk, eall, eall]
        · repeat walk_at "ev"
          have hne : fa ≠ r := (hfr hr).symm
          have esz : ∀ q : Nat, ((i : Int) * (tb.size : Nat) + (q : Int)) = ((i * tb.size + q : Nat) : Int) := fun q => by rw [Int.natCast_add, Int.natCast_mul]
          refine Ex1.forL o1 (loc_of o2 (by rfl)) (fun j σ' => σ'.m "t" = some (.ref t) ∧ σ'.m "inner" = some (.ref r) ∧ σ'.m "found" = some (.ref fa) ∧ σ'.m "place" = some (.int i) ∧ Le H1 σ'.H ∧
            σ'.H fa = some (.lst (nl (posOf (List.replicate i tb.marks).flatten ++ ((posOf tb.marks).take j).map (i * tb.size + ·))))) ?_ (by intro _; rfl)
          repeat walk_at "ev"
          refine ⟨r, nl (posOf tb.marks), rfl, hr1, ⟨m0, m1, m2, rfl, kp, by rw [List.take_zero, List.map_nil, List.append_nil]; exact d1⟩, fun j σ' hJ => hJ.2.2.2.2.1 _ _ hr, ?_, ?_⟩
          · rintro j a σ3 ha ⟨p0, p1, p2, p3, k3, d3⟩
            intro JN hJN
            obtain ⟨q, hq, rfl⟩ := nl_get ha
            have etq : (posOf tb.marks).take (j + 1) = (posOf tb.marks).take j ++ [q] := by rw [List.take_add_one, hq]; rfl
            have htq : ((posOf tb.marks).take j).length ≤ (posOf tb.marks).length := by rw [List.length_take]; omega
            obtain ⟨vb, hvb, hvbf, hvbz⟩ := hW.ty hTb
            repeat walk_at "ev"
            refine ⟨fa, _, rfl, d3, ?_⟩
            repeat walk_at "ev"
            refine Att.t_base o1 (((hG.trans hL1).trans k3).ty hv) ?_
            rw [hb]
            refine Att.t_size o1 (((hG.trans hL1).trans k3).ty hvb) ?_
            rw [hvbz]
            refine Bin.mul (IntMulOk.of_right (PySem.intBits_le_64 (by omega) (by omega))) ?_
            repeat walk_at "ev"
            rw [esz]
            have c1 := cntb i (by omega)
            have c2 := gdb.cnt
            refine CallA.append d3 (by rw [nl_length, List.length_append, List.length_map]; omega) ⟨rfl, ?_⟩
            repeat walk_at "ev"
            refine ⟨p0, p1, p2, p3, fun b o' e' => (hset_ne (hfr e')).trans (k3 b o' e'), ?_⟩
            refine hset_self.trans ?_
            rw [etq, List.map_append, ← List.append_assoc, nl_append _ (List.map _ [q])]; rfl
          · rintro σ3 ⟨p0, p1, p2, p3, k3, d3⟩
            rw [nl_length, List.take_length] at d3
            repeat walk_at "ev"
            refine ⟨p0, p1, p2, k3, ?_⟩
            rw [d3, flat_succ, posOf_append, flat_len, hlenb]
      · rintro σ1 ⟨m0, m1, m2, kp, d1⟩
        repeat walk_at "ev"
        refine ⟨m2, kp, ?_⟩
        rw [hmk]
        exact d1
    · rintro σ1 ⟨m0, kp, d1⟩
      repeat walk_at "ev"
      exact h fa _ hfa0 (hL1.trans kp) d1
  · refine ite_f (sne (by rw [h1]; decide)) ?_
    repeat walk_at "ev"
    refine Att.t_form o1 hvs ?_
    repeat walk_at "ev"
    refine ⟨_, rfl, ite_f (sne (by rw [h1]; decide)) ?_⟩
    repeat walk_at "ev"
    refine Att.t_form o1 hvs ?_
    repeat walk_at "ev"
    refine ⟨_, rfl, ite_t (seq h1) ?_⟩
    repeat walk_at "ev"
    walk_at "call"
    repeat walk_at "ev"
    refine rp_spec hW IH o1 r1 hT hrec (by omega) hG fun r H' hr0 hL hr => ?_
    repeat walk_at "ev"
    exact h r H' hr0 hL hr
theorem po_all (hW : WF T G) : ∀ R, PoS w mean mg mb T G R
  | 0 => fun _ _ _ _ _ _ _ _ h _ _ => absurd h (Nat.not_lt_zero _)
  | R + 1 => po_step hW (po_all hW R)
end
def mk1 (b : Bool) : AV := .str (if b = true then Str.ofString "p" else Str.ofString "-")
def ml (mk : List Bool) : List AV := mk.map mk1
theorem ml_length (mk : List Bool) : (ml mk).length = mk.length := List.length_map ..
theorem ml_place (row : List Bool) (p : Nat × List Bool) : (ml row).take p.1 ++ ml p.2 ++ (ml row).drop (p.1 + p.2.length) = ml (place row p) := by
  unfold ml place
  rw [List.map_append, List.map_append, List.map_take, List.map_drop]
theorem ml_set (row : List Bool) (s : Nat) : (ml row).set s (.str (Str.ofString "p")) = ml (row.set s true) := by unfold ml; rw [List.map_set]; rfl
theorem ml_flat (n : Nat) (mk : List Bool) : (List.replicate n (ml mk)).flatten = ml (List.replicate n mk).flatten := by
  induction n with
  | zero => rfl
  | succ n ih => rw [List.replicate_succ, List.flatten_cons, ih, List.replicate_succ, List.flatten_cons]; unfold ml; rw [List.map_append]
theorem ml_dash (n : Nat) : (List.replicate n [AV.str (Str.ofString "-")]).flatten = ml (List.replicate n false) := by
  induction n with
  | zero => rfl
  | succ n ih => rw [List.replicate_succ, List.flatten_cons, ih]; rfl
def MkS (w : World) (mean : ExcName → Option Value) (mg mb : Str → Option Value) (T : Addr → Option TI) (G : Addr → Option AO) (R : Nat) : Prop :=
  ∀ (φ : Fx) (σ : St) (Q : AV → St → Prop) (t : Addr) (ti : TI), φ.Ok (WX w mean mg mb) → Room φ (R + 2) → T t = some ti → ti.rank < R → Le G σ.H →
    (∀ r H', σ.H r = none → Le σ.H H' → H' r = some (.lst (ml ti.marks)) → Q (.ref r) ⟨σ.m, H'⟩) → CallA (WX w mean mg mb) φ (.ref 212) [.ref t] Q σ
section
variable {w : World} {mean : ExcName → Option Value} {mg mb : Str → Option Value} {φ : Fx} {σ : St} {T : Addr → Option TI} {G : Addr → Option AO} {Q : AV → St → Prop}

theorem mk_step (hW : WF T G) {R : Nat} (IH : MkS w mean mg mb T G R) : MkS w mean mg mb T G (R + 1) := by
  intro φ σ Q t ti hok hroom hT hR hG h
  obtain ⟨v, hv, hvf, hvz, hk⟩ := ty_kind hW hT
  have gd := (hW t ti hT).gd
  have hlen := gd.len
  have hbig := gd.big
  refine' CallA.fn1 "t" hok (by walk_at "fn") hroom.lt (by walk_at "bd") (by decide) ?_
  intro φ' o1 o2 o3 o4 o5
  have r1 : Room φ' (R + 2) := hroom.call o4 o5
  have hvs := hG.ty hv
  repeat walk_at "ev"
  refine Att.t_form o1 hvs ?_
  repeat walk_at "ev"
  refine ⟨_, rfl, ?_⟩
  rcases hk with ⟨h1, h2, h3, hmk⟩ | ⟨h1, h2, hmk⟩ | ⟨b, n, tb, h1, hb, hn, hTb, hrb, hsz, hmk, hn1⟩ | ⟨h1, hrec⟩
  · refine ite_f (sne h3) ?_
    repeat walk_at "ev"
    refine Att.t_form o1 hvs ?_
    repeat walk_at "ev"
    refine ⟨_, rfl, ite_f (sne h1) ?_⟩
    repeat walk_at "ev"
    refine ⟨by decide, fun a ha => ?_⟩
    repeat walk_at "ev"
    have l0 : Le σ.H (hset σ.H a (.lst [.str (Str.ofString "-")])) := Le.new Le.rfl' ha
    refine Att.t_size o1 (l0.ty hvs) ?_
    rw [hvz]
    refine Bin.rep hset_self (by omega) (by omega) (by simp; omega) fun c hc => ?_
    rw [Int.toNat_natCast, ml_dash]
    repeat walk_at "ev"
    refine Att.t_form o1 ((Le.new l0 hc).ty hvs) ?_
    repeat walk_at "ev"
    refine ⟨_, rfl, ite_t (by simpa using h2) ?_⟩
    repeat walk_at "ev"
    refine h c _ (l0.none hc) (Le.new l0 hc) ?_
    rw [hmk]; exact hset_self
  · refine ite_t (seq h1) ?_
    repeat walk_at "ev"
    refine ⟨by decide, fun a ha => ?_⟩
    repeat walk_at "ev"
    refine h a _ ha (Le.new Le.rfl' ha) ?_
    rw [hmk]; exact hset_self
  · refine ite_f (sne (by rw [h1]; decide)) ?_
    repeat walk_at "ev"
    refine Att.t_form o1 hvs ?_
    repeat walk_at "ev"
    refine ⟨_, rfl, ite_t (seq h1) ?_⟩
    repeat walk_at "ev"
    walk_at "call"
    repeat walk_at "ev"
    refine Att.t_base o1 hvs ?_
    rw [hb]
    repeat walk_at "ev"
    have gdb := (hW b tb hTb).gd
    have hlenb := gdb.len
    refine IH φ' _ _ b tb o1 r1 hTb (by omega) hG fun r H1 hr0 hL1 hr => ?_
    repeat walk_at "ev"
    refine Att.t_length o1 ((hG.trans hL1).ty hv) ?_
    rw [hn]
    refine Bin.rep hr (by omega) (by omega) (by rw [ml_length, hlenb, Int.toNat_natCast, Nat.mul_comm]; omega) fun c hc => ?_
    rw [Int.toNat_natCast, ml_flat, ← hmk]
    repeat walk_at "ev"
    exact h c _ (hL1.none hc) (Le.new hL1 hc) hset_self
  · obtain ⟨-, hmk, hin, hdis, hchb, hcnt, hchl⟩ := rec_row hW hT hrec
    refine ite_f (sne (by rw [h1]; decide)) ?_
    repeat walk_at "ev"
    refine Att.t_form o1 hvs ?_
    repeat walk_at "ev"
    refine ⟨_, rfl, ite_f (sne (by rw [h1]; decide)) ?_⟩
    repeat walk_at "ev"
    refine ⟨by decide, fun a ha => ?_⟩
    repeat walk_at "ev"
    have l0 : Le σ.H (hset σ.H a (.lst [.str (Str.ofString "-")])) := Le.new Le.rfl' ha
    refine Att.t_size o1 (l0.ty hvs) ?_
    rw [hvz]
    refine Bin.rep hset_self (by omega) (by omega) (by simp; omega) fun c hc => ?_
    rw [Int.toNat_natCast, ml_dash]
    repeat walk_at "ev"
    have l1 := fun o => Le.new (o := o) l0 hc
    refine Att.t_form o1 ((Le.new l0 hc).ty hvs) ?_
    repeat walk_at "ev"
    refine ⟨_, rfl, ite_f (by rw [h1]; decide) ?_⟩
    repeat walk_at "ev"
    refine ⟨by decide, fun ua hua => ?_⟩
    have hcu : c ≠ ua := fun e => by
      have e' : hset (hset σ.H a (.lst [.str (Str.ofString "-")])) c (.lst (ml (List.replicate ti.size false))) ua = none := hua
      rw [← e] at e'
      exact absurd (hset_self.symm.trans e') (by simp)
    repeat walk_at "ev"
    refine Ex1.join (fun σ' => ∃ ra ua, σ'.m "row" = some (.ref ra) ∧ σ'.m "unseen" = some (.ref ua) ∧ ra ≠ ua ∧ σ.H ra = none ∧ Le σ.H σ'.H ∧ σ'.H ra = some (.lst (ml (ti.kind.cf.foldl place (List.replicate ti.size false)))) ∧ σ'.H ua = some (.lst (nl ti.kind.ch))) ?_ ?_
    · intro PJ hPJ
      refine Ex1.while_ (fun n σ' => ∃ (o : Option Addr) (ra ua : Addr) (pcf : List (Nat × List Bool)) (pch : List Nat) (cf' : List (Nat × List Bool)) (ch' : List Nat), σ'.m "t" = some (opt o) ∧ σ'.m "row" = some (.ref ra) ∧ σ'.m "unseen" = some (.ref ua) ∧ ra ≠ ua ∧ σ.H ra = none ∧ Le σ.H σ'.H ∧
        σ'.H ra = some (.lst (ml (pcf.foldl place (List.replicate ti.size false)))) ∧ σ'.H ua = some (.lst (nl pch)) ∧ ti.kind.cf = pcf ++ cf' ∧ ti.kind.ch = pch ++ ch' ∧ Chn T ti.rank o n cf' ch') ?_ (ti.rank + 1)
        ⟨some t, c, ua, [], [], _, _, rfl, rfl, rfl, hcu, l0.none hc, Le.new (l1 _) hua, (Le.new Le.rfl' hua) _ _ hset_self, hset_self, rfl, rfl, ti, hT, hrec, Nat.le_refl _, rfl, rfl, rfl⟩
      rintro n σ1 ⟨o, ra, ua, pcf, pch, cf', ch', m0, m1, m2, hne, hra, kp, d1, d2, e1, e2, hc⟩
      intro JN hJN
      have hpchl : pch.length ≤ 20 := by
        have q2 := congrArg List.length e2
        rw [List.length_append] at q2
        omega
      cases o with
      | none =>
        obtain ⟨rfl, rfl, rfl⟩ := hc
        rw [List.append_nil] at e1 e2
        have m0' : σ1.m "t" = some .none := m0
        repeat walk_at "ev"
        refine ⟨_, rfl, ?_⟩
        rw [if_neg (by simp [AV.isNone])]
        refine join_next hPJ ⟨ra, ua, m1, m2, hne, hra, kp, ?_, ?_⟩
        · rw [e1]; exact d1
        · rw [e2]; exact d2
      | some t' =>
        obtain ⟨ti', hT', hr', hle, rfl, rfl, rfl⟩ := hc
        obtain ⟨v', fs, hid, cf2, ch2, hv', -, hfl, hfn, hhid, hfs, ecf, ech, n', hn', hc'⟩ := rec_open hW hT' hr'
        have m0' : σ1.m "t" = some (.ref t') := m0
        have hhl : pch.length + hid.length ≤ 20 := by
          have q := congrArg List.length e2
          rw [ech, List.length_append, List.length_append] at q
          omega
        have hinr : ∀ p ∈ pcf ++ cfOf T fs, p.1 + p.2.length ≤ ti.size := fun p hp => hin p (by
          rw [e1, ecf, ← List.append_assoc]
          exact List.mem_append_left _ hp)
        repeat walk_at "ev"
        refine ⟨_, rfl, ?_⟩
        rw [if_pos (show (!(AV.ref t').isNone) = true from rfl)]
        repeat walk_at "ev"
        refine Ex1.forL o1 (loc_of o2 (by rfl)) (fun i σ' => ∃ ra, σ'.m "t" = some (.ref t') ∧ σ'.m "row" = some (.ref ra) ∧ σ'.m "unseen" = some (.ref ua) ∧ ra ≠ ua ∧ σ.H ra = none ∧ Le σ.H σ'.H ∧
          σ'.H ra = some (.lst (ml ((pcf ++ (cfOf T fs).take i).foldl place (List.replicate ti.size false)))) ∧ σ'.H ua = some (.lst (nl pch))) ?_ (by intro _; rfl)
        repeat walk_at "ev"
        refine Att.t_fields o1 ((hG.trans kp).ty hv') ?_
        refine ⟨v'.flds, fs.map (fun f : FI => AV.ref f.o), rfl, (hG.trans kp) _ _ hfl, ⟨ra, m0', m1, m2, hne, hra, kp, by rw [List.take_zero, List.append_nil]; exact d1, d2⟩, fun i σ' ⟨_, _, _, _, _, _, k, _⟩ => (hG.trans k) _ _ hfl, ?_, ?_⟩
        · rintro i a σ2 ha ⟨ra2, n0, n1, n2, hne2, hra2, k2, f1, f2⟩
          intro JN hJN
          rw [List.getElem?_map] at ha
          cases hi : fs[i]? with
          | none => rw [hi] at ha; cases ha
          | some f =>
            rw [hi] at ha
            obtain rfl := Option.some.inj ha
            obtain ⟨⟨ov, hob, hoty, hoff⟩, tf, hTf, hrk⟩ := hfs f (List.mem_of_getElem? hi)
            have efi : (cfOf T fs)[i]? = some (f.off, tf.marks) := by unfold cfOf; rw [List.getElem?_map, hi]; simp [hTf]
            have etk : (cfOf T fs).take (i + 1) = (cfOf T fs).take i ++ [(f.off, tf.marks)] := by rw [List.take_add_one, efi]; rfl
            have hrl : ((pcf ++ (cfOf T fs).take i).foldl place (List.replicate ti.size false)).length = ti.size := by
              rw [foldl_place_len _ _ (fun p hp => by
                rw [List.length_replicate]
                refine hinr p ?_
                rcases List.mem_append.mp hp with h | h
                · exact List.mem_append_left _ h
                · exact List.mem_append_right _ (List.mem_of_mem_take h)), List.length_replicate]
            have gdf := (hW _ _ hTf).gd
            have hfl2 := gdf.len
            have hfl3 := gdf.big
            repeat walk_at "ev"
            walk_at "call"
            repeat walk_at "ev"
            refine Att.o_type o1 ((hG.trans k2).ob hob) ?_
            rw [hoty]
            repeat walk_at "ev"
            refine IH φ' _ _ f.ty tf o1 r1 hTf (by omega) (hG.trans k2) fun r H' hr0 hL hr => ?_
            have g1 := hL _ _ f1
            have g2 := hL _ _ f2
            have k3 : Le σ.H H' := k2.trans hL
            repeat walk_at "ev"
            refine Att.o_offset o1 ((hG.trans k3).ob hob) ?_
            rw [hoff]
            refine ⟨ra2, _, _, rfl, rfl, .inl g1, by rw [ml_length]; omega, by omega, fun b1 hb1 => ?_⟩
            have s1 := fun o => Le.new (o := o) (Le.rfl' (G := H')) hb1
            repeat walk_at "ev"
            refine Bin.cat hset_self (s1 _ _ _ hr) (by rw [List.length_take, ml_length]; omega) (by rw [ml_length]; omega) fun b2 hb2 => ?_
            have s2 := fun o => Le.new (o := o) (s1 _) hb2
            repeat walk_at "ev"
            refine Att.o_offset o1 ((hG.trans (k3.trans (s2 _))).ob hob) ?_
            rw [hoff]
            walk_at "call"
            repeat walk_at "ev"
            refine CallA.len (s2 _ _ _ hr) (by rw [ml_length]; omega) ?_
            rw [ml_length]
            repeat walk_at "ev"
            refine ⟨ra2, _, _, rfl, rfl, s2 _ _ _ g1, by rw [ml_length]; omega, by omega, fun b3 hb3 => ?_⟩
            have s3 := fun o => Le.new (o := o) (s2 _) hb3
            refine Bin.cat ((Le.new Le.rfl' hb3) _ _ hset_self) hset_self (by rw [List.length_append, List.length_take, ml_length, ml_length]; omega) (by rw [List.length_drop, ml_length]; omega) fun b4 hb4 => ?_
            have s4 := fun o => Le.new (o := o) (s3 _) hb4
            repeat walk_at "ev"
            refine ⟨b4, n0, rfl, n2, fun e => ?_, (k3.trans (s3 _)).none hb4, k3.trans (s4 _), ?_, s4 _ _ _ g2⟩
            · have e' := (s3 _).none hb4
              rw [e, g2] at e'; cases e'
            · refine hset_self.trans ?_
              rw [etk, ← List.append_assoc, List.foldl_append (l' := [_]), List.foldl_cons, List.foldl_nil, ← ml_place]
              rfl
        · rintro σ2 ⟨ra2, n0, n1, n2, hne2, hra2, k2, f1, f2⟩
          have eall : (cfOf T fs).take (fs.map (fun f : FI => AV.ref f.o)).length = cfOf T fs := List.take_of_length_le (by unfold cfOf; simp)
          rw [eall] at f1
          repeat walk_at "ev"
          refine Att.t_hidden o1 ((hG.trans k2).ty hv') ?_
          refine Bin.cat f2 ((hG.trans k2) _ _ hhid) (by rw [nl_length]; omega) (by rw [nl_length]; omega) fun c hc => ?_
          have s1 := fun o => Le.new (o := o) (Le.rfl' (G := σ2.H)) hc
          repeat walk_at "ev"
          refine Att.t_base o1 ((hG.trans (k2.trans (s1 _))).ty hv') ?_
          repeat walk_at "ev"
          refine ⟨n', by omega, v'.base, ra2, c, pcf ++ cfOf T fs, pch ++ hid, cf2, ch2, rfl, n1, rfl, fun e => ?_, hra2, k2.trans (s1 _), s1 _ _ _ f1, ?_, ?_, ?_, ?_⟩
          · rw [e] at f1
            have e' : σ2.H c = none := hc
            rw [e'] at f1; cases f1
          · rw [nl_append]; exact hset_self
          · rw [e1, ecf, List.append_assoc]
          · rw [e2, ech, List.append_assoc]
          · revert hc'
            unfold Chn
            cases v'.base with
            | none => exact fun x => x
            | some b => exact fun ⟨tb, h1, h2, h3, h4⟩ => ⟨tb, h1, h2, by omega, h4⟩
    · rintro σ1 ⟨ra, ua, m1, m2, hne, hra, kp, d1, d2⟩
      have hrl : (ti.kind.cf.foldl place (List.replicate ti.size false)).length = ti.size := by
        rw [foldl_place_len _ _ (fun p hp => by rw [List.length_replicate]; exact hin p hp), List.length_replicate]
      repeat walk_at "ev"
      refine Ex1.forL o1 (loc_of o2 (by rfl)) (fun i σ' => σ'.m "row" = some (.ref ra) ∧ Le σ.H σ'.H ∧ σ'.H ua = some (.lst (nl ti.kind.ch)) ∧
        σ'.H ra = some (.lst (ml ((ti.kind.ch.take i).foldl (fun r s => r.set s true) (ti.kind.cf.foldl place (List.replicate ti.size false)))))) ?_ (by intro _; rfl)
      repeat walk_at "ev"
      refine ⟨ua, nl ti.kind.ch, rfl, d2, ⟨m1, kp, d2, d1⟩, fun i σ' h => h.2.2.1, ?_, ?_⟩
      · rintro i a σ2 ha ⟨n0, k2, f2, f1⟩
        intro JN hJN
        obtain ⟨s, hs, rfl⟩ := nl_get ha
        have etk : ti.kind.ch.take (i + 1) = ti.kind.ch.take i ++ [s] := by rw [List.take_add_one, hs]; rfl
        have hsl := hchb s (List.mem_of_getElem? hs)
        repeat walk_at "ev"
        refine SetItm.lst f1 (by omega) (by rw [ml_length, foldl_set_len, hrl]; omega) (by rw [ml_length, foldl_set_len, hrl]; omega) ?_
        repeat walk_at "ev"
        refine ⟨n0, fun b o e => ?_, (hset_ne hne.symm).trans f2, ?_⟩
        · refine (hset_ne ?_).trans (k2 b o e)
          intro e'; rw [e', hra] at e; cases e
        · refine hset_self.trans ?_
          rw [Int.toNat_natCast, ml_set, etk, List.foldl_append, List.foldl_cons, List.foldl_nil]
      · rintro σ2 ⟨n0, k2, f2, f1⟩
        rw [nl_length, List.take_length] at f1
        repeat walk_at "ev"
        refine h ra _ hra k2 ?_
        rw [hmk]; exact f1
theorem mk_all (hW : WF T G) : ∀ R, MkS w mean mg mb T G R
  | 0 => fun _ _ _ _ _ _ _ _ h _ _ => absurd h (Nat.not_lt_zero _)
  | R + 1 => mk_step hW (mk_all hW R)
end
theorem mk_T {w : World} {mean : ExcName → Option Value} {mg mb : Str → Option Value} : makesIn (WX w mean mg mb).K 123 = true := by show makesIn (hd.heap_1 w.params) _ = _; k_is
theorem mk_O {w : World} {mean : ExcName → Option Value} {mg mb : Str → Option Value} : makesIn (WX w mean mg mb).K 144 = true := by show makesIn (hd.heap_1 w.params) _ = _; k_is
theorem mk_S {w : World} {mean : ExcName → Option Value} {mg mb : Str → Option Value} : makesIn (WX w mean mg mb).K 180 = true := by show makesIn (hd.heap_1 w.params) _ = _; k_is
theorem in_T {w : World} {mean : ExcName → Option Value} {mg mb : Str → Option Value} : findIn (WX w mean mg mb).K (.ref 123) "__init__" = some (some (.ref 120)) := by show findIn (hd.heap_1 w.params) _ _ = _; k_is
theorem in_O {w : World} {mean : ExcName → Option Value} {mg mb : Str → Option Value} : findIn (WX w mean mg mb).K (.ref 144) "__init__" = some (some (.ref 141)) := by show findIn (hd.heap_1 w.params) _ _ = _; k_is
theorem in_S {w : World} {mean : ExcName → Option Value} {mg mb : Str → Option Value} : findIn (WX w mean mg mb).K (.ref 180) "__init__" = some (some (.ref 162)) := by show findIn (hd.heap_1 w.params) _ _ = _; k_is
theorem fn_T {w : World} {mean : ExcName → Option Value} {mg mb : Str → Option Value} : isFn (WX w mean mg mb).K (.ref 120) = true := by show isFn (hd.heap_1 w.params) _ = _; k_is
theorem fn_O {w : World} {mean : ExcName → Option Value} {mg mb : Str → Option Value} : isFn (WX w mean mg mb).K (.ref 141) = true := by show isFn (hd.heap_1 w.params) _ = _; k_is
theorem fn_S {w : World} {mean : ExcName → Option Value} {mg mb : Str → Option Value} : isFn (WX w mean mg mb).K (.ref 162) = true := by show isFn (hd.heap_1 w.params) _ = _; k_is
section
variable {w : World} {mean : ExcName → Option Value} {mg mb : Str → Option Value} {φ : Fx} {σ : St} {T : Addr → Option TI} {G : Addr → Option AO} {Q : AV → St → Prop}
theorem Ev.dict0 {W : Wd} {env : Env} {pos : Pos} (h : ∀ d, Q (.ref d) σ) : Ev W φ env (.Dict [] [] pos) Q σ := fun R s hR => by
  obtain ⟨m, news, D, X⟩ := hR
  exact wpAny_Dict_empty ⟨σ, _, s.toks, rfl, ⟨m, news, D, X.junk _⟩, h _⟩

theorem fput_length_le (b : Str) (w : AV) : ∀ fs : List (Str × AV), (fput b w fs).length ≤ fs.length + 1
  | [] => Nat.le_refl _
  | (n, u) :: r => by
    unfold fput
    split
    · simp
    · have := fput_length_le b w r
      simp only [List.length_cons]; omega
theorem SetAtt.raw {W : Wd} (hok : φ.Ok W) {x C : Addr} {fs : List (Str × AV)} {name : Str} {v : AV} {Q : St → Prop} {k : Nat} {mm : Str → Option AV} {H : Addr → Option AO} (hS : SetOk W C name) (hH : H x = some (.ins C fs)) (hl : fs.length ≤ k) (hk : k < 900)
    (h : ∀ H', H' x = some (.ins C (fput name v fs)) → (fput name v fs).length ≤ k + 1 → (∀ b, b ≠ x → H' b = H b) → Q ⟨mm, H'⟩) : SetAtt W φ (.ref x) name v Q ⟨mm, H⟩ :=
  SetAtt.own (σ := ⟨mm, H⟩) hok hH hS (by omega) (h _ hset_self (Nat.le_trans (fput_length_le ..) (by omega)) fun b hb => hset_ne hb)
theorem Type_spec (hok : φ.Ok (WX w mean mg mb)) {n : Nat} (hroom : Room φ (n + 2)) {c z : Int} {f : Str}
    (h : ∀ x fs fa ha H', σ.H x = none → H' x = some (.ins 123 fs) → IsTy fs ⟨f, z, none, 0, fa, 0, ha⟩ → fs.length ≤ 20 → σ.H fa = none → H' fa = some (.lst []) → σ.H ha = none → H' ha = some (.lst []) → x ≠ fa → x ≠ ha → fa ≠ ha → Le σ.H H' → Q (.ref x) ⟨σ.m, H'⟩) :
    CallA (WX w mean mg mb) φ (.ref 123) [.int c, .str f, .int z] Q σ := fun vs hvs => by
  obtain ⟨u, v, w', rfl, hu, hv, hw⟩ := args3 hvs
  obtain ⟨t1, rfl⟩ := er_int hu; obtain ⟨t2, rfl⟩ := er_str hv; obtain ⟨t3, rfl⟩ := er_int hw
  refine' Tr.callCls hok mk_T in_T fn_T (by walk_at "fn") hroom.lt1 (binds := fun x => [("self", .ref x), ("number", .int c t1), ("form", .str f t2), ("size", .int z t3)]) (fun x s _ => BindsTo.of_eq rfl) (fun x y hy => by simp at hy; rcases hy with rfl | rfl | rfl | rfl <;> rfl) ?_
  intro x hx φ' o1 o2 o3 o4 o5
  have e0 : hset σ.H x (.ins 123 []) x = some (.ins 123 []) := hset_self
  have n0 : ([] : List (Str × AV)).length ≤ 0 := Nat.le_refl _
  have e0 : hset σ.H x (.ins 123 []) x = some (.ins 123 []) := hset_self
  have n0 : ([] : List (Str × AV)).length ≤ 0 := Nat.le_refl _
  have e0 : hset σ.H x (.ins 123 []) x = some (.ins 123 []) := hset_self
  have n0 : ([] : List (Str × AV)).length ≤ 0 := Nat.le_refl _
  have e0 : hset σ.H x (.ins 123 []) x = some (.ins 123 []) := hset_self
  have n0 : ([] : List (Str × AV)).length ≤ 0 := Nat.le_refl _
  have e0 : hset σ.H x (.ins 123 []) x = some (.ins 123 []) := hset_self
  have n0 : ([] : List (Str × AV)).length ≤ 0 := Nat.le_refl _
  rw [amap_eq]
  simp only [List.map_cons, List.map_nil, er]
  have l0 : Le σ.H (hset σ.H x (.ins 123 [])) := Le.new Le.rfl' hx
  repeat walk_at "ev"
  refine SetAtt.raw o1 sOk_T_number e0 n0 (by decide) fun H1 e1 n1 k1 => ?_
  have l1 := l0.upd hx k1
  repeat walk_at "ev"
  refine SetAtt.raw o1 sOk_T_form e1 n1 (by decide) fun H2 e2 n2 k2 => ?_
  have l2 := l1.upd hx k2
  repeat walk_at "ev"
  refine SetAtt.raw o1 sOk_T_size e2 n2 (by decide) fun H3 e3 n3 k3 => ?_
  have l3 := l2.upd hx k3
  repeat walk_at "ev"
  refine SetAtt.raw o1 sOk_T_base e3 n3 (by decide) fun H4 e4 n4 k4 => ?_
  have l4 := l3.upd hx k4
  repeat walk_at "ev"
  refine SetAtt.raw o1 sOk_T_length e4 n4 (by decide) fun H5 e5 n5 k5 => ?_
  have l5 := l4.upd hx k5
  repeat walk_at "ev"
  refine ⟨by decide, fun fa hfa => ?_⟩
  have xfa : x ≠ fa := fun e => by rw [e] at e5; exact absurd (e5.symm.trans hfa) (by simp)
  have q5 : hset H5 fa (.lst []) x = _ := (Le.new (o := .lst []) (Le.rfl' (G := H5)) hfa) _ _ e5
  repeat walk_at "ev"
  refine SetAtt.raw o1 sOk_T_fields q5 n5 (by decide) fun H6 e6 n6 k6 => ?_
  have l6 := (Le.new l5 hfa).upd hx k6
  have ffa6 := (k6 _ (Ne.symm xfa)).trans (hset_self (H := H5) (o := .lst []))
  have gfa := l5.none hfa
  repeat walk_at "ev"
  refine SetAtt.raw o1 sOk_T_level e6 n6 (by decide) fun H7 e7 n7 k7 => ?_
  have l7 := l6.upd hx k7
  have ffa7 := (k7 _ (Ne.symm xfa)).trans ffa6
  repeat walk_at "ev"
  refine ⟨by decide, fun pa hpa => ?_⟩
  have xpa : x ≠ pa := fun e => by rw [e] at e7; exact absurd (e7.symm.trans hpa) (by simp)
  have q7 : hset H7 pa (.lst []) x = _ := (Le.new (o := .lst []) (Le.rfl' (G := H7)) hpa) _ _ e7
  repeat walk_at "ev"
  refine SetAtt.raw o1 sOk_T_params q7 n7 (by decide) fun H8 e8 n8 k8 => ?_
  have l8 := (Le.new l7 hpa).upd hx k8
  have ffa8 := (k8 _ (Ne.symm xfa)).trans ((Le.new Le.rfl' hpa) _ _ ffa7)
  have dfapa : fa ≠ pa := fun e => by rw [e] at ffa7; exact absurd (ffa7.symm.trans hpa) (by simp)
  have fpa8 := (k8 _ (Ne.symm xpa)).trans (hset_self (H := H7) (o := .lst []))
  have gpa := l7.none hpa
  repeat walk_at "ev"
  refine SetAtt.raw o1 sOk_T_module e8 n8 (by decide) fun H9 e9 n9 k9 => ?_
  have l9 := l8.upd hx k9
  have ffa9 := (k9 _ (Ne.symm xfa)).trans ffa8
  have fpa9 := (k9 _ (Ne.symm xpa)).trans fpa8
  repeat walk_at "ev"
  refine SetAtt.raw o1 sOk_T_label e9 n9 (by decide) fun H10 e10 n10 k10 => ?_
  have l10 := l9.upd hx k10
  have ffa10 := (k10 _ (Ne.symm xfa)).trans ffa9
  have fpa10 := (k10 _ (Ne.symm xpa)).trans fpa9
  repeat walk_at "ev"
  refine ⟨by decide, fun ha hha => ?_⟩
  have xha : x ≠ ha := fun e => by rw [e] at e10; exact absurd (e10.symm.trans hha) (by simp)
  have q10 : hset H10 ha (.lst []) x = _ := (Le.new (o := .lst []) (Le.rfl' (G := H10)) hha) _ _ e10
  repeat walk_at "ev"
  refine SetAtt.raw o1 sOk_T_hidden q10 n10 (by decide) fun H11 e11 n11 k11 => ?_
  have l11 := (Le.new l10 hha).upd hx k11
  have ffa11 := (k11 _ (Ne.symm xfa)).trans ((Le.new Le.rfl' hha) _ _ ffa10)
  have dfaha : fa ≠ ha := fun e => by rw [e] at ffa10; exact absurd (ffa10.symm.trans hha) (by simp)
  have fpa11 := (k11 _ (Ne.symm xpa)).trans ((Le.new Le.rfl' hha) _ _ fpa10)
  have dpaha : pa ≠ ha := fun e => by rw [e] at fpa10; exact absurd (fpa10.symm.trans hha) (by simp)
  have fha11 := (k11 _ (Ne.symm xha)).trans (hset_self (H := H10) (o := .lst []))
  have gha := l10.none hha
  repeat walk_at "ev"
  refine SetAtt.raw o1 sOk_T_exno e11 n11 (by decide) fun H12 e12 n12 k12 => ?_
  have l12 := l11.upd hx k12
  have ffa12 := (k12 _ (Ne.symm xfa)).trans ffa11
  have fpa12 := (k12 _ (Ne.symm xpa)).trans fpa11
  have fha12 := (k12 _ (Ne.symm xha)).trans fha11
  repeat walk_at "ev"
  refine ⟨rfl, h x _ fa ha H12 hx e12 ⟨?_, ?_, ?_, ?_, ?_, ?_, ?_, by omega⟩ (by omega) gfa ffa12 gha fha12 xfa xha dfaha l12⟩
  all_goals (repeat first | with_reducible exact fget_put_eq | with_reducible refine fget_put_ne ?_)
  all_goals exact fget_put_eq
theorem Obj_spec (hok : φ.Ok (WX w mean mg mb)) {n : Nat} (hroom : Room φ (n + 2)) {nm kd : Str} {t : Addr} {z : Int}
    (h : ∀ x H', σ.H x = none → ObAt H' x ⟨kd, t, 0, 0, false⟩ → Le σ.H H' → Q (.ref x) ⟨σ.m, H'⟩) :
    CallA (WX w mean mg mb) φ (.ref 144) [.str nm, .str kd, .ref t, .int z] Q σ := fun vs hvs => by
  obtain ⟨u, v, w', q, rfl, hu, hv, hw, hq⟩ := args4 hvs
  obtain ⟨t1, rfl⟩ := er_str hu; obtain ⟨t2, rfl⟩ := er_str hv; obtain rfl := er_ref hw; obtain ⟨t3, rfl⟩ := er_int hq
  refine' Tr.callCls hok mk_O in_O fn_O (by walk_at "fn") hroom.lt1 (binds := fun x => [("self", .ref x), ("name", .str nm t1), ("kind", .str kd t2), ("type_of", .ref t), ("place", .int z t3)]) (fun x s _ => BindsTo.of_eq rfl) (fun x y hy => by simp at hy; rcases hy with rfl | rfl | rfl | rfl | rfl <;> rfl) ?_
  intro x hx φ' o1 o2 o3 o4 o5
  have e0 : hset σ.H x (.ins 144 []) x = some (.ins 144 []) := hset_self
  have n0 : ([] : List (Str × AV)).length ≤ 0 := Nat.le_refl _
  rw [amap_eq]
  simp only [List.map_cons, List.map_nil, er]
  have l0 : Le σ.H (hset σ.H x (.ins 144 [])) := Le.new Le.rfl' hx
  repeat walk_at "ev"
  refine SetAtt.raw o1 sOk_O_name e0 n0 (by decide) fun H1 e1 n1 k1 => ?_
  have l1 := l0.upd hx k1
  repeat walk_at "ev"
  refine SetAtt.raw o1 sOk_O_kind e1 n1 (by decide) fun H2 e2 n2 k2 => ?_
  have l2 := l1.upd hx k2
  repeat walk_at "ev"
  refine SetAtt.raw o1 sOk_O_type e2 n2 (by decide) fun H3 e3 n3 k3 => ?_
  have l3 := l2.upd hx k3
  repeat walk_at "ev"
  refine SetAtt.raw o1 sOk_O_place e3 n3 (by decide) fun H4 e4 n4 k4 => ?_
  have l4 := l3.upd hx k4
  repeat walk_at "ev"
  refine SetAtt.raw o1 sOk_O_exported e4 n4 (by decide) fun H5 e5 n5 k5 => ?_
  have l5 := l4.upd hx k5
  repeat walk_at "ev"
  refine SetAtt.raw o1 sOk_O_readonly e5 n5 (by decide) fun H6 e6 n6 k6 => ?_
  have l6 := l5.upd hx k6
  repeat walk_at "ev"
  refine SetAtt.raw o1 sOk_O_level e6 n6 (by decide) fun H7 e7 n7 k7 => ?_
  have l7 := l6.upd hx k7
  repeat walk_at "ev"
  refine SetAtt.raw o1 sOk_O_module e7 n7 (by decide) fun H8 e8 n8 k8 => ?_
  have l8 := l7.upd hx k8
  repeat walk_at "ev"
  refine SetAtt.raw o1 sOk_O_value e8 n8 (by decide) fun H9 e9 n9 k9 => ?_
  have l9 := l8.upd hx k9
  repeat walk_at "ev"
  refine SetAtt.raw o1 sOk_O_slot e9 n9 (by decide) fun H10 e10 n10 k10 => ?_
  have l10 := l9.upd hx k10
  repeat walk_at "ev"
  refine SetAtt.raw o1 sOk_O_offset e10 n10 (by decide) fun H11 e11 n11 k11 => ?_
  have l11 := l10.upd hx k11
  repeat walk_at "ev"
  refine SetAtt.raw o1 sOk_O_number e11 n11 (by decide) fun H12 e12 n12 k12 => ?_
  have l12 := l11.upd hx k12
  repeat walk_at "ev"
  refine SetAtt.raw o1 sOk_O_isparam e12 n12 (by decide) fun H13 e13 n13 k13 => ?_
  have l13 := l12.upd hx k13
  repeat walk_at "ev"
  refine SetAtt.raw o1 sOk_O_narrowed e13 n13 (by decide) fun H14 e14 n14 k14 => ?_
  have l14 := l13.upd hx k14
  repeat walk_at "ev"
  refine ⟨rfl, h x H14 hx ⟨_, e14, ⟨?_, ?_, ?_, ?_, ?_, by omega⟩⟩ l14⟩
  all_goals (repeat first | with_reducible exact fget_put_eq | with_reducible refine fget_put_ne ?_)
  all_goals exact fget_put_eq
end
section
variable {w : World} {mean : ExcName → Option Value} {mg mb : Str → Option Value} {φ : Fx} {σ : St} {T : Addr → Option TI} {G : Addr → Option AO} {Q : AV → St → Prop}
theorem cls_ne {H : Addr → Option AO} {a b : Addr} {v : TyV} {fs : List (Str × AV)} (h : TyAt H a v) (k : H b = some (.ins 180 fs)) : a ≠ b := fun e => by
  obtain ⟨gs, h1, _⟩ := h
  rw [e, k] at h1
  cases h1

theorem new_spec (hok : φ.Ok (WX w mean mg mb)) {n : Nat} (hroom : Room φ (n + 3)) {ts : Addr} {fs : List (Str × AV)} {c z : Int} {f : Str} (hts : σ.H ts = some (.ins 180 fs)) (hc : fget "counter" fs = some (.int c)) (hl : fs.length ≤ 50)
    (h : ∀ x fa ha H', σ.H x = none → TyAt H' x ⟨f, z, none, 0, fa, 0, ha⟩ → σ.H fa = none → H' fa = some (.lst []) → σ.H ha = none → H' ha = some (.lst []) → x ≠ fa → x ≠ ha → fa ≠ ha → (∀ b, b ≠ ts → ∀ o, σ.H b = some o → H' b = some o) →
      H' ts = some (.ins 180 (fput "counter" (.int (c + 1)) fs)) → Q (.ref x) ⟨σ.m, H'⟩) :
    CallA (WX w mean mg mb) φ (.ref 170) [.ref ts, .str f, .int z] Q σ := fun vs hvs => by
  obtain ⟨u, v, w', rfl, hu, hv, hw⟩ := args3 hvs
  obtain rfl := er_ref hu; obtain ⟨t2, rfl⟩ := er_str hv; obtain ⟨t3, rfl⟩ := er_int hw
  refine' Tr.callFn hok (by walk_at "fn") hroom.lt (binds := [("self", .ref ts), ("form", .str f t2), ("size", .int z t3), ("module", .str "" ?_), ("label", .str "" ?_)]) (fun s K => by exact binds_K K rfl (by show List.lookup _ (hd.heap_1 _) = _; k_is) rfl rfl rfl) (fun y hy => by simp at hy; rcases hy with rfl | rfl | rfl | rfl | rfl <;> rfl) ?_
  intro φ' o1 o2 o3 o4 o5
  have r1 : Room φ' (n + 2) := hroom.call o4 o5
  rw [amap_eq]
  simp only [List.map_cons, List.map_nil, er]
  repeat walk_at "ev"
  refine Att.own o1 hts aOk_S_counter hc (fun w h => by cases h) ?_
  repeat walk_at "ev"
  refine SetAtt.raw o1 sOk_S_counter hts hl (by decide) fun H1 e1 n1 k1 => ?_
  repeat walk_at "ev"
  walk_at "call"
  repeat walk_at "ev"
  refine Att.own o1 e1 aOk_S_counter fget_put_eq (fun w h => by cases h) ?_
  repeat walk_at "ev"
  have up : ∀ {b}, H1 b = none → σ.H b = none := fun {b} e => by
    by_cases hb : b = ts
    · rw [hb, e1] at e; cases e
    · rw [← k1 b hb]; exact e
  refine Type_spec o1 r1 fun x gs fa ha H2 x0 e2 t2 n2 fa0 fae ha0 hae d1 d2 d3 l2 => ?_
  repeat walk_at "ev"
  refine SetAtt.raw o1 sOk_T_module e2 n2 (by decide) fun H3 e3 n3 k3 => ?_
  repeat walk_at "ev"
  refine SetAtt.raw o1 sOk_T_label e3 n3 (by decide) fun H4 e4 n4 k4 => ?_
  repeat walk_at "ev"
  refine ⟨_, rfl, ?_⟩
  rw [if_neg (by decide)]
  repeat walk_at "ev"
  have x1 : σ.H x = none := up x0
  have xts : ts ≠ x := fun e => by rw [← e, hts] at x1; cases x1
  refine h x fa ha H4 x1 ⟨_, e4, ⟨fget_put_ne (fget_put_ne t2.form), fget_put_ne (fget_put_ne t2.size), fget_put_ne (fget_put_ne t2.base), fget_put_ne (fget_put_ne t2.len), fget_put_ne (fget_put_ne t2.flds), fget_put_ne (fget_put_ne t2.level), fget_put_ne (fget_put_ne t2.hid), by omega⟩⟩ (up fa0) ?_ (up ha0) ?_ d1 d2 d3 ?_ ?_
  · rw [k4 _ (Ne.symm d1), k3 _ (Ne.symm d1)]; exact fae
  · rw [k4 _ (Ne.symm d2), k3 _ (Ne.symm d2)]; exact hae
  · intro b hb o e
    have hbx : b ≠ x := fun e' => by rw [e', x1] at e; cases e
    rw [k4 _ hbx, k3 _ hbx]
    exact l2 _ _ ((k1 _ hb).trans e)
  · rw [k4 _ xts, k3 _ xts]
    exact l2 _ _ e1
end
/-- what is read of the Types object -/
structure IsS (fs : List (Str × AV)) (bo ch b it ma : Addr) : Prop where
  new : fget "new" fs = none
  cnt : ∃ c : Int, fget "counter" fs = some (.int c)
  bo : fget "boolean" fs = some (.ref bo)
  ch : fget "char" fs = some (.ref ch)
  b : fget "byte" fs = some (.ref b)
  it : fget "integer" fs = some (.ref it)
  ma : fget "mask" fs = some (.ref ma)
  short : fs.length ≤ 50
def PrAt (H : Addr → Option AO) (t : Addr) (f : Str) (z : Int) : Prop := ∃ v : TyV, TyAt H t v ∧ v.form = f ∧ v.size = z
section
variable {w : World} {mean : ExcName → Option Value} {mg mb : Str → Option Value} {φ : Fx} {σ : St} {T : Addr → Option TI} {G : Addr → Option AO} {Q : AV → St → Prop}
theorem PrAt.keep {H H' : Addr → Option AO} {t ts : Addr} {f : Str} {z : Int} {fs : List (Str × AV)} (h : PrAt H t f z) (e : H ts = some (.ins 180 fs)) (k : ∀ b, b ≠ ts → ∀ o, H b = some o → H' b = some o) : PrAt H' t f z := by
  obtain ⟨v, h1, h2⟩ := h
  have hne := cls_ne h1 e
  obtain ⟨gs, e1, e2⟩ := h1
  exact ⟨v, ⟨gs, k _ hne _ e1, e2⟩, h2⟩
theorem Types_spec (hok : φ.Ok (WX w mean mg mb)) {n : Nat} (hroom : Room φ (n + 5))
    (h : ∀ ts fs bo ch b it ma H', σ.H ts = none → H' ts = some (.ins 180 fs) → IsS fs bo ch b it ma → PrAt H' bo "boolean" 1 → PrAt H' ch "char" 1 → PrAt H' b "byte" 1 → PrAt H' it "integer" 4 → PrAt H' ma "set" 4 →
      σ.H bo = none → σ.H ch = none → σ.H b = none → σ.H it = none → σ.H ma = none → Le σ.H H' → Q (.ref ts) ⟨σ.m, H'⟩) :
    CallA (WX w mean mg mb) φ (.ref 180) [] Q σ := fun vs hvs => by
  obtain rfl : vs = [] := by cases vs with | nil => rfl | cons => cases hvs
  refine' Tr.callCls hok mk_S in_S fn_S (by walk_at "fn") hroom.lt1 (binds := fun x => [("self", .ref x)]) (fun x s _ => BindsTo.of_eq rfl) (fun x y hy => by simp at hy; rcases hy with rfl; rfl) ?_
  intro x hx φ' o1 o2 o3 o4 o5
  have r1 : Room φ' (n + 3) := hroom.cls o4 o5
  have e0 : hset σ.H x (.ins 180 []) x = some (.ins 180 []) := hset_self
  have n0 : ([] : List (Str × AV)).length ≤ 0 := Nat.le_refl _
  have l0 : Le σ.H (hset σ.H x (.ins 180 [])) := Le.new Le.rfl' hx
  rw [amap_eq]
  simp only [List.map_cons, List.map_nil, er]
  repeat walk_at "ev"
  refine SetAtt.raw o1 sOk_S_counter e0 n0 (by decide) fun H1 e1 n1 k1 => ?_
  have l1 := l0.upd hx k1
  repeat walk_at "ev"
  refine Ev.dict0 fun kd => ?_
  repeat walk_at "ev"
  refine SetAtt.raw o1 sOk_S_known e1 n1 (by decide) fun H2 e2 n2 k2 => ?_
  have l2 := l1.upd hx k2
  repeat walk_at "ev"
  walk_at "call"
  repeat walk_at "ev"
  refine ⟨x, 180, _, 170, rfl, e2, by (repeat with_reducible refine fget_put_ne ?_); rfl, mOk_new, ?_⟩
  repeat walk_at "ev"
  refine new_spec o1 r1 e2 (by (repeat first | with_reducible exact fget_put_eq | with_reducible refine fget_put_ne ?_)) (by omega) fun bo fa2 ha2 H3 a2 t2 _ _ _ _ _ _ _ kp2 e3 => ?_
  have l3 : Le σ.H H3 := fun b o e => kp2 b (fun e' => by rw [e', hx] at e; cases e) o (l2 b o e)
  have n3 := fun u => Nat.le_trans (fput_length_le (Str.ofString "counter") u _) (Nat.succ_le_succ n2)
  have zbo : σ.H bo = none := l2.none a2
  have ybo3 : PrAt H3 bo "boolean" 1 := ⟨_, t2, rfl, rfl⟩
  repeat walk_at "ev"
  refine SetAtt.raw o1 sOk_S_boolean e3 (n3 _) (by decide) fun H4 e4 n4 k4 => ?_
  have l4 := l3.upd hx k4
  have ybo4 := ybo3.keep e3 fun b hb o e => (k4 b hb).trans e
  repeat walk_at "ev"
  walk_at "call"
  repeat walk_at "ev"
  refine ⟨x, 180, _, 170, rfl, e4, by (repeat with_reducible refine fget_put_ne ?_); rfl, mOk_new, ?_⟩
  repeat walk_at "ev"
  refine new_spec o1 r1 e4 (by (repeat first | with_reducible exact fget_put_eq | with_reducible refine fget_put_ne ?_)) (by omega) fun ch fa4 ha4 H5 a4 t4 _ _ _ _ _ _ _ kp4 e5 => ?_
  have l5 : Le σ.H H5 := fun b o e => kp4 b (fun e' => by rw [e', hx] at e; cases e) o (l4 b o e)
  have n5 := fun u => Nat.le_trans (fput_length_le (Str.ofString "counter") u _) (Nat.succ_le_succ n4)
  have zch : σ.H ch = none := l4.none a4
  have ych5 : PrAt H5 ch "char" 1 := ⟨_, t4, rfl, rfl⟩
  have ybo5 := ybo4.keep e4 kp4
  repeat walk_at "ev"
  refine SetAtt.raw o1 sOk_S_char e5 (n5 _) (by decide) fun H6 e6 n6 k6 => ?_
  have l6 := l5.upd hx k6
  have ybo6 := ybo5.keep e5 fun b hb o e => (k6 b hb).trans e
  have ych6 := ych5.keep e5 fun b hb o e => (k6 b hb).trans e
  repeat walk_at "ev"
  walk_at "call"
  repeat walk_at "ev"
  refine ⟨x, 180, _, 170, rfl, e6, by (repeat with_reducible refine fget_put_ne ?_); rfl, mOk_new, ?_⟩
  repeat walk_at "ev"
  refine new_spec o1 r1 e6 (by (repeat first | with_reducible exact fget_put_eq | with_reducible refine fget_put_ne ?_)) (by omega) fun by_ fa6 ha6 H7 a6 t6 _ _ _ _ _ _ _ kp6 e7 => ?_
  have l7 : Le σ.H H7 := fun b o e => kp6 b (fun e' => by rw [e', hx] at e; cases e) o (l6 b o e)
  have n7 := fun u => Nat.le_trans (fput_length_le (Str.ofString "counter") u _) (Nat.succ_le_succ n6)
  have zby_ : σ.H by_ = none := l6.none a6
  have yby_7 : PrAt H7 by_ "byte" 1 := ⟨_, t6, rfl, rfl⟩
  have ybo7 := ybo6.keep e6 kp6
  have ych7 := ych6.keep e6 kp6
  repeat walk_at "ev"
  refine SetAtt.raw o1 sOk_S_byte e7 (n7 _) (by decide) fun H8 e8 n8 k8 => ?_
  have l8 := l7.upd hx k8
  have ybo8 := ybo7.keep e7 fun b hb o e => (k8 b hb).trans e
  have ych8 := ych7.keep e7 fun b hb o e => (k8 b hb).trans e
  have yby_8 := yby_7.keep e7 fun b hb o e => (k8 b hb).trans e
  repeat walk_at "ev"
  walk_at "call"
  repeat walk_at "ev"
  refine ⟨x, 180, _, 170, rfl, e8, by (repeat with_reducible refine fget_put_ne ?_); rfl, mOk_new, ?_⟩
  repeat walk_at "ev"
  refine new_spec o1 r1 e8 (by (repeat first | with_reducible exact fget_put_eq | with_reducible refine fget_put_ne ?_)) (by omega) fun it fa8 ha8 H9 a8 t8 _ _ _ _ _ _ _ kp8 e9 => ?_
  have l9 : Le σ.H H9 := fun b o e => kp8 b (fun e' => by rw [e', hx] at e; cases e) o (l8 b o e)
  have n9 := fun u => Nat.le_trans (fput_length_le (Str.ofString "counter") u _) (Nat.succ_le_succ n8)
  have zit : σ.H it = none := l8.none a8
  have yit9 : PrAt H9 it "integer" 4 := ⟨_, t8, rfl, rfl⟩
  have ybo9 := ybo8.keep e8 kp8
  have ych9 := ych8.keep e8 kp8
  have yby_9 := yby_8.keep e8 kp8
  repeat walk_at "ev"
  refine SetAtt.raw o1 sOk_S_integer e9 (n9 _) (by decide) fun H10 e10 n10 k10 => ?_
  have l10 := l9.upd hx k10
  have ybo10 := ybo9.keep e9 fun b hb o e => (k10 b hb).trans e
  have ych10 := ych9.keep e9 fun b hb o e => (k10 b hb).trans e
  have yby_10 := yby_9.keep e9 fun b hb o e => (k10 b hb).trans e
  have yit10 := yit9.keep e9 fun b hb o e => (k10 b hb).trans e
  repeat walk_at "ev"
  walk_at "call"
  repeat walk_at "ev"
  refine ⟨x, 180, _, 170, rfl, e10, by (repeat with_reducible refine fget_put_ne ?_); rfl, mOk_new, ?_⟩
  repeat walk_at "ev"
  refine new_spec o1 r1 e10 (by (repeat first | with_reducible exact fget_put_eq | with_reducible refine fget_put_ne ?_)) (by omega) fun ma fa10 ha10 H11 a10 t10 _ _ _ _ _ _ _ kp10 e11 => ?_
  have l11 : Le σ.H H11 := fun b o e => kp10 b (fun e' => by rw [e', hx] at e; cases e) o (l10 b o e)
  have n11 := fun u => Nat.le_trans (fput_length_le (Str.ofString "counter") u _) (Nat.succ_le_succ n10)
  have zma : σ.H ma = none := l10.none a10
  have yma11 : PrAt H11 ma "set" 4 := ⟨_, t10, rfl, rfl⟩
  have ybo11 := ybo10.keep e10 kp10
  have ych11 := ych10.keep e10 kp10
  have yby_11 := yby_10.keep e10 kp10
  have yit11 := yit10.keep e10 kp10
  repeat walk_at "ev"
  refine SetAtt.raw o1 sOk_S_mask e11 (n11 _) (by decide) fun H12 e12 n12 k12 => ?_
  have l12 := l11.upd hx k12
  have ybo12 := ybo11.keep e11 fun b hb o e => (k12 b hb).trans e
  have ych12 := ych11.keep e11 fun b hb o e => (k12 b hb).trans e
  have yby_12 := yby_11.keep e11 fun b hb o e => (k12 b hb).trans e
  have yit12 := yit11.keep e11 fun b hb o e => (k12 b hb).trans e
  have yma12 := yma11.keep e11 fun b hb o e => (k12 b hb).trans e
  repeat walk_at "ev"
  walk_at "call"
  repeat walk_at "ev"
  refine ⟨x, 180, _, 170, rfl, e12, by (repeat with_reducible refine fget_put_ne ?_); rfl, mOk_new, ?_⟩
  repeat walk_at "ev"
  refine new_spec o1 r1 e12 (by (repeat first | with_reducible exact fget_put_eq | with_reducible refine fget_put_ne ?_)) (by omega) fun ni fa12 ha12 H13 a12 t12 _ _ _ _ _ _ _ kp12 e13 => ?_
  have l13 : Le σ.H H13 := fun b o e => kp12 b (fun e' => by rw [e', hx] at e; cases e) o (l12 b o e)
  have n13 := fun u => Nat.le_trans (fput_length_le (Str.ofString "counter") u _) (Nat.succ_le_succ n12)
  have zni : σ.H ni = none := l12.none a12
  have yni13 : PrAt H13 ni "nil" 4 := ⟨_, t12, rfl, rfl⟩
  have ybo13 := ybo12.keep e12 kp12
  have ych13 := ych12.keep e12 kp12
  have yby_13 := yby_12.keep e12 kp12
  have yit13 := yit12.keep e12 kp12
  have yma13 := yma12.keep e12 kp12
  repeat walk_at "ev"
  refine SetAtt.raw o1 sOk_S_nil e13 (n13 _) (by decide) fun H14 e14 n14 k14 => ?_
  have l14 := l13.upd hx k14
  have ybo14 := ybo13.keep e13 fun b hb o e => (k14 b hb).trans e
  have ych14 := ych13.keep e13 fun b hb o e => (k14 b hb).trans e
  have yby_14 := yby_13.keep e13 fun b hb o e => (k14 b hb).trans e
  have yit14 := yit13.keep e13 fun b hb o e => (k14 b hb).trans e
  have yma14 := yma13.keep e13 fun b hb o e => (k14 b hb).trans e
  have yni14 := yni13.keep e13 fun b hb o e => (k14 b hb).trans e
  repeat walk_at "ev"
  walk_at "call"
  repeat walk_at "ev"
  refine ⟨x, 180, _, 170, rfl, e14, by (repeat with_reducible refine fget_put_ne ?_); rfl, mOk_new, ?_⟩
  repeat walk_at "ev"
  refine new_spec o1 r1 e14 (by (repeat first | with_reducible exact fget_put_eq | with_reducible refine fget_put_ne ?_)) (by omega) fun no fa14 ha14 H15 a14 t14 _ _ _ _ _ _ _ kp14 e15 => ?_
  have l15 : Le σ.H H15 := fun b o e => kp14 b (fun e' => by rw [e', hx] at e; cases e) o (l14 b o e)
  have n15 := fun u => Nat.le_trans (fput_length_le (Str.ofString "counter") u _) (Nat.succ_le_succ n14)
  have zno : σ.H no = none := l14.none a14
  have yno15 : PrAt H15 no "none" 0 := ⟨_, t14, rfl, rfl⟩
  have ybo15 := ybo14.keep e14 kp14
  have ych15 := ych14.keep e14 kp14
  have yby_15 := yby_14.keep e14 kp14
  have yit15 := yit14.keep e14 kp14
  have yma15 := yma14.keep e14 kp14
  have yni15 := yni14.keep e14 kp14
  repeat walk_at "ev"
  refine SetAtt.raw o1 sOk_S_none e15 (n15 _) (by decide) fun H16 e16 n16 k16 => ?_
  have l16 := l15.upd hx k16
  have ybo16 := ybo15.keep e15 fun b hb o e => (k16 b hb).trans e
  have ych16 := ych15.keep e15 fun b hb o e => (k16 b hb).trans e
  have yby_16 := yby_15.keep e15 fun b hb o e => (k16 b hb).trans e
  have yit16 := yit15.keep e15 fun b hb o e => (k16 b hb).trans e
  have yma16 := yma15.keep e15 fun b hb o e => (k16 b hb).trans e
  have yni16 := yni15.keep e15 fun b hb o e => (k16 b hb).trans e
  have yno16 := yno15.keep e15 fun b hb o e => (k16 b hb).trans e
  repeat walk_at "ev"
  refine ⟨rfl, h x _ bo ch by_ it ma H16 hx e16 ⟨?_, ⟨0 + 1 + 1 + 1 + 1 + 1 + 1 + 1, ?_⟩, ?_, ?_, ?_, ?_, ?_, by omega⟩ ybo16 ych16 yby_16 yit16 yma16 zbo zch zby_ zit zma l16⟩
  · (repeat with_reducible refine fget_put_ne ?_); rfl
  all_goals (repeat first | with_reducible exact fget_put_eq | with_reducible refine fget_put_ne ?_)
end
/-- the pool: figures, place, mix, two budgets -/
def PoolAt (H : Addr → Option AO) (pl av : Addr) : Prop := ∃ (fl : Addr) (figs : List Int) (i : Nat) (mix a r : Int), H pl = some (.lst [.ref fl, .int i, .int mix, .int a, .int r]) ∧ H fl = some (.lst (figs.map AV.int)) ∧ figs.length ≤ 200 ∧ fl ≠ pl ∧ fl ≠ av
section
variable {w : World} {mean : ExcName → Option Value} {mg mb : Str → Option Value} {φ : Fx} {σ : St} {T : Addr → Option TI} {G : Addr → Option AO} {Q : AV → St → Prop}
theorem law_pool_spec (hok : φ.Ok (WX w mean mg mb)) {n : Nat} (hroom : Room φ (n + 2)) {sc : Addr} {xs : List Int} (hs : σ.H sc = some (.old (xs.map AV.int))) (hl : xs.length ≤ 1000)
    (h : ∀ p H', σ.H p = none → PoolAt H' p p → Le σ.H H' → (∀ fl ys, H' p = some (.lst (.ref fl :: ys)) → σ.H fl = none) → Q (.ref p) ⟨σ.m, H'⟩) : CallA (WX w mean mg mb) φ (.ref 191) [.ref sc] Q σ := by
  refine' CallA.fn1 "script" hok (by walk_at "fn") hroom.lt (by walk_at "bd") (by decide) ?_
  intro φ' o1 o2 o3 o4 o5
  have r1 : Room φ' (n + 1) := hroom.call o4 o5
  repeat walk_at "ev"
  refine ⟨by decide, fun fa hfa => ?_⟩
  repeat walk_at "ev"
  have l0 : Le σ.H (hset σ.H fa (.lst [])) := Le.new Le.rfl' hfa
  have hfr : ∀ {a o}, σ.H a = some o → a ≠ fa := fun e e' => by rw [e', hfa] at e; cases e
  refine Ex1.join (fun σ' => σ'.m "figures" = some (.ref fa) ∧ (∃ mix : Int, σ'.m "mix" = some (.int mix)) ∧ Le σ.H σ'.H ∧ ∃ figs : List Int, σ'.H fa = some (.lst (figs.map AV.int)) ∧ figs.length ≤ 70) ?_ ?_
  · intro PJ hPJ
    refine Ex1.forK o1 (loc_of o2 (by rfl)) ?_ (by intro _; rfl)
    repeat walk_at "ev"
    refine ⟨sc, _, _, rfl, rfl, .inr (l0 _ _ hs), by rw [List.length_map]; exact hl, by decide, fun l hlf => ?_⟩
    have hlfa : fa ≠ l := fun e => by
      have e' : hset σ.H fa (.lst []) l = none := hlf
      rw [← e] at e'; exact absurd (hset_self.symm.trans e') (by simp)
    rw [← List.map_take]
    refine ⟨l, (xs.take (40 : Int).toNat).map AV.int, fun i σ' => σ'.m "figures" = some (.ref fa) ∧ (∃ mix : Int, σ'.m "mix" = some (.int mix)) ∧ Le σ.H σ'.H ∧ σ'.H l = some (.lst ((xs.take (40 : Int).toNat).map AV.int)) ∧ ∃ figs : List Int, σ'.H fa = some (.lst (figs.map AV.int)) ∧ figs.length < 70,
      rfl, hset_self, ⟨rfl, ⟨5, rfl⟩, Le.new l0 hlf, hset_self, [], (Le.new Le.rfl' hlf) _ _ hset_self, by decide⟩, fun i σ' h => h.2.2.2.1, ?_, ?_⟩
    · rintro i a σ1 ha ⟨m0, ⟨mix, m1⟩, kp, hl1, figs, hf1, hfl⟩
      intro JN hJN
      rw [List.getElem?_map] at ha
      cases hi : (xs.take (40 : Int).toNat)[i]? with
      | none => rw [hi] at ha; cases ha
      | some x =>
        rw [hi] at ha
        obtain rfl := Option.some.inj ha
        repeat walk_at "ev"
        walk_at "call"
        repeat walk_at "ev"
        refine CallA.int ?_
        repeat walk_at "ev"
        walk_at "call"
        repeat walk_at "ev"
        refine CallA.abs ?_
        repeat walk_at "ev"
        refine Ex1.join (fun σ' => σ'.m "figures" = some (.ref fa) ∧ (∃ mix : Int, σ'.m "mix" = some (.int mix)) ∧ Le σ.H σ'.H ∧ σ'.H l = some (.lst ((xs.take (40 : Int).toNat).map AV.int)) ∧ ∃ figs : List Int, σ'.H fa = some (.lst (figs.map AV.int)) ∧ figs.length ≤ 70) ?_ ?_
        · intro PJ hPJ
          refine Ex1.forR o1 (loc_of o2 (by rfl)) (fun j σ' => σ'.m "figures" = some (.ref fa) ∧ (∃ mix : Int, σ'.m "mix" = some (.int mix)) ∧ (∃ r : Int, σ'.m "rest" = some (.int r)) ∧ Le σ.H σ'.H ∧ σ'.H l = some (.lst ((xs.take (40 : Int).toNat).map AV.int)) ∧ ∃ figs : List Int, σ'.H fa = some (.lst (figs.map AV.int)) ∧ figs.length < 70) ?_ (by intro _; rfl)
          walk_at "call"
          repeat walk_at "ev"
          refine CallA.range fun ra hra => ?_
          refine ⟨ra, 70, rfl, hset_self, by decide, by decide, ⟨m0, ⟨_, rfl⟩, ⟨_, rfl⟩, kp.trans (Le.new Le.rfl' hra), (Le.new Le.rfl' hra) _ _ hl1, figs, (Le.new Le.rfl' hra) _ _ hf1, hfl⟩, ?_, ?_⟩
          · rintro j σ2 hlt ⟨n0, ⟨mix2, n1⟩, ⟨r, n2⟩, k2, hl2, figs2, hf2, hfl2⟩
            intro JN hJN
            repeat walk_at "ev"
            refine ⟨fa, _, rfl, hf2, ?_⟩
            repeat walk_at "ev"
            refine CallA.append hf2 (by rw [List.length_map]; omega) ⟨rfl, ?_⟩
            have k3 : Le σ.H (hset σ2.H fa (.lst (figs2.map AV.int ++ [.int (r.fmod 840)]))) := fun b o e => (hset_ne (hfr e)).trans (k2 b o e)
            have hl3 := (hset_ne (H := σ2.H) (o := .lst (figs2.map AV.int ++ [.int (r.fmod 840)])) (Ne.symm hlfa)).trans hl2
            have hf3 : hset σ2.H fa (.lst (figs2.map AV.int ++ [.int (r.fmod 840)])) fa = some (.lst ((figs2 ++ [r.fmod 840]).map AV.int)) := by rw [List.map_append]; exact hset_self
            repeat walk_at "ev"
            refine ⟨_, rfl, ite_b (fun e => ?_) fun e => ?_⟩
            · rw [if_pos rfl]
              repeat walk_at "ev"
              exact ⟨n0, ⟨_, n1⟩, k3, hl3, _, hf3, by rw [List.length_append]; simp; omega⟩
            · repeat walk_at "ev"
              walk_at "call"
              repeat walk_at "ev"
              refine CallA.len hf3 (by rw [List.length_map, List.length_append]; simp; omega) ?_
              repeat walk_at "ev"
              refine ⟨_, rfl, ite_b (fun e => ?_) fun e => ?_⟩
              · rw [if_pos rfl]
                repeat walk_at "ev"
                exact ⟨n0, ⟨_, n1⟩, k3, hl3, _, hf3, by rw [List.length_append]; simp; omega⟩
              · repeat walk_at "ev"
                rw [if_neg Bool.false_ne_true]
                repeat walk_at "ev"
                have e' := of_decide_eq_false e
                rw [List.length_map] at e'
                exact ⟨n0, ⟨_, n1⟩, ⟨_, rfl⟩, k3, hl3, _, hf3, by omega⟩
          · rintro σ2 ⟨n0, n1, n2, k2, hl2, figs2, hf2, hfl2⟩
            repeat walk_at "ev"
            exact ⟨n0, n1, k2, hl2, figs2, hf2, by omega⟩
        · rintro σ2 ⟨n0, n1, k2, hl2, figs2, hf2, hfl2⟩
          repeat walk_at "ev"
          walk_at "call"
          repeat walk_at "ev"
          refine CallA.len hf2 (by rw [List.length_map]; omega) ?_
          repeat walk_at "ev"
          refine ⟨_, rfl, ite_b (fun e => ?_) fun e => ?_⟩
          · repeat walk_at "ev"
            exact ⟨n0, n1, k2, figs2, hf2, hfl2⟩
          · repeat walk_at "ev"
            have e' := of_decide_eq_false e
            rw [List.length_map] at e'
            exact ⟨n0, n1, k2, hl2, figs2, hf2, by omega⟩
    · rintro σ2 ⟨n0, n1, k2, hl2, figs2, hf2, hfl2⟩
      repeat walk_at "ev"
      exact ⟨n0, n1, k2, figs2, hf2, by omega⟩
  · rintro σ2 ⟨n0, ⟨mix, n1⟩, k2, figs2, hf2, hfl2⟩
    repeat walk_at "ev"
    refine ⟨by simp, fun p hp => ?_⟩
    repeat walk_at "ev"
    have hne : fa ≠ p := fun e => by rw [e] at hf2; exact absurd (hf2.symm.trans hp) (by simp)
    refine h p _ (k2.none hp) ⟨fa, figs2, 0, mix, 10, 3, hset_self, (Le.new Le.rfl' hp) _ _ hf2, by omega, hne, hne⟩ (Le.new k2 hp) ?_
    intro fl ys e
    have e' := (hset_self (H := σ2.H) (a := p)).symm.trans e
    injection e' with e'
    injection e' with e'
    injection e' with e' _
    injection e' with e'
    rw [← e']; exact hfa

theorem law_pick_spec (hok : φ.Ok (WX w mean mg mb)) {n : Nat} (hroom : Room φ (n + 2)) {pl av : Addr} {b : Int} (hp : PoolAt σ.H pl av) (hb : 0 < b)
    (h : ∀ (r : Nat) H', (r : Int) < b → PoolAt H' pl av → (∀ x, x ≠ pl → ∀ o, σ.H x = some o → H' x = some o) → Q (.int r) ⟨σ.m, H'⟩) : CallA (WX w mean mg mb) φ (.ref 198) [.ref pl, .int b] Q σ := by
  obtain ⟨fl, figs, i, mix, a, r, hpl, hfl, hfs, hne⟩ := hp
  refine' CallA.fn2 "pool" "bound_x" hok (by walk_at "fn") hroom.lt (by walk_at "bd") (by decide) ?_
  intro φ' o1 o2 o3 o4 o5
  refine Exs.cons (Ex1.join (fun σ' => σ'.m "bound_x" = some (.int b) ∧ (∃ g : Int, σ'.m "figure" = some (.int g)) ∧ PoolAt σ'.H pl av ∧ ∀ x, x ≠ pl → ∀ o, σ.H x = some o → σ'.H x = some o) ?_ ?_)
  · intro PJ hPJ
    repeat walk_at "ev"
    refine ⟨pl, _, _, .int i, rfl, rfl, hpl, rfl, by simp, ?_⟩
    walk_at "call"
    repeat walk_at "ev"
    refine ⟨pl, _, _, .ref fl, rfl, rfl, hpl, rfl, by simp, ?_⟩
    repeat walk_at "ev"
    refine CallA.len hfl (by rw [List.length_map]; omega) ?_
    repeat walk_at "ev"
    refine ⟨_, rfl, ite_b (fun e => ?_) fun e => ?_⟩
    · have e' := of_decide_eq_true e
      rw [List.length_map] at e'
      have hi : i < figs.length := by omega
      repeat walk_at "ev"
      refine ⟨pl, _, _, .ref fl, rfl, rfl, hpl, rfl, by simp, ?_⟩
      repeat walk_at "ev"
      refine ⟨pl, _, _, .int i, rfl, rfl, hpl, rfl, by simp, ?_⟩
      refine ⟨fl, _, _, .int figs[i], rfl, rfl, hfl, lget_nat (map_get AV.int (List.getElem?_eq_getElem hi)), by rw [List.length_map]; omega, ?_⟩
      repeat walk_at "ev"
      refine Itm.get hpl rfl (by simp) ?_
      repeat walk_at "ev"
      refine SetItm.lst hpl (by decide) (by simp) (by simp) ?_
      repeat walk_at "ev"
      refine ⟨rfl, ⟨_, rfl⟩, ⟨fl, figs, i + 1, mix, a, r, hset_self, (hset_ne hne.1).trans hfl, hfs, hne⟩, fun x hx o e => (hset_ne hx).trans e⟩
    · repeat walk_at "ev"
      walk_at "call"
      repeat walk_at "ev"
      refine ⟨pl, _, _, .ref fl, rfl, rfl, hpl, rfl, by simp, ?_⟩
      repeat walk_at "ev"
      refine CallA.len hfl (by rw [List.length_map]; omega) ?_
      repeat walk_at "ev"
      refine ⟨_, rfl, ite_b (fun e => ?_) fun e => ?_⟩
      · repeat walk_at "ev"
        exact ⟨rfl, ⟨_, rfl⟩, ⟨fl, figs, i, mix, a, r, hpl, hfl, hfs, hne⟩, fun x hx o e => e⟩
      · repeat walk_at "ev"
        refine ⟨pl, _, _, .int mix, rfl, rfl, hpl, rfl, by simp, ?_⟩
        repeat walk_at "ev"
        refine SetItm.lst hpl (by decide) (by simp) (by simp) ?_
        repeat walk_at "ev"
        refine ⟨pl, _, _, .int _, rfl, rfl, hset_self, rfl, by simp, ?_⟩
        repeat walk_at "ev"
        refine ⟨rfl, ⟨_, rfl⟩, ⟨fl, figs, i, _, a, r, hset_self, (hset_ne hne.1).trans hfl, hfs, hne⟩, fun x hx o e => (hset_ne hx).trans e⟩
  · rintro σ1 ⟨m0, ⟨g, m1⟩, hp1, kp⟩
    repeat walk_at "ev"
    refine Bin.mod (by omega) ?_
    repeat walk_at "ev"
    have f0 : 0 ≤ g.fmod b := Int.fmod_nonneg_of_pos g hb
    have f1 : g.fmod b < b := Int.fmod_lt_of_pos g hb
    have := h (g.fmod b).toNat σ1.H (by omega) hp1 kp
    rwa [Int.toNat_of_nonneg f0] at this
end
-- growing ghosts
def ext (G H : Addr → Option AO) (S : List Addr) : Addr → Option AO := fun a => match G a with
  | some o => some o
  | none => if a ∈ S then H a else none
theorem ext_le {G H : Addr → Option AO} {S : List Addr} : Le G (ext G H S) := fun a o e => by unfold ext; rw [e]
theorem ext_sub {G H : Addr → Option AO} {S : List Addr} (h : Le G H) : Le (ext G H S) H := fun a o e => by
  unfold ext at e
  cases hg : G a with
  | some o' => rw [hg] at e; rw [← e]; exact h _ _ hg
  | none =>
    rw [hg] at e
    by_cases ha : a ∈ S
    · simpa [ha] using e
    · simp [ha] at e
theorem ext_get {G H : Addr → Option AO} {S : List Addr} (h : Le G H) {a : Addr} (ha : a ∈ S) : ext G H S a = H a := by
  unfold ext
  cases hg : G a with
  | some o => exact (h _ _ hg).symm
  | none => simp [ha]
theorem ext_none {G H : Addr → Option AO} {S : List Addr} {a : Addr} (hg : G a = none) (ha : a ∉ S) : ext G H S a = none := by
  unfold ext; rw [hg]; simp [ha]
theorem ext_ty {G H : Addr → Option AO} {S : List Addr} (h : Le G H) {a : Addr} {v : TyV} (ha : a ∈ S) (t : TyAt H a v) : TyAt (ext G H S) a v := t.keep (ext_get h ha)
theorem ext_ob {G H : Addr → Option AO} {S : List Addr} (h : Le G H) {a : Addr} {v : ObV} (ha : a ∈ S) (t : ObAt H a v) : ObAt (ext G H S) a v := t.keep (ext_get h ha)
def upT (T : Addr → Option TI) (x : Addr) (ti : TI) : Addr → Option TI := fun a => if a = x then some ti else T a
def TLe (T T' : Addr → Option TI) : Prop := ∀ t ti, T t = some ti → T' t = some ti
theorem upT_self {T : Addr → Option TI} {x : Addr} {ti : TI} : upT T x ti x = some ti := if_pos rfl
theorem WF.no {T : Addr → Option TI} {G : Addr → Option AO} (h : WF T G) {x : Addr} (hx : G x = none) : T x = none := by
  cases e : T x with
  | none => rfl
  | some ti =>
    obtain ⟨v, ⟨fs, h1, _⟩, _⟩ := h.ty e
    rw [hx] at h1; cases h1
theorem upT_le {T : Addr → Option TI} {x : Addr} {ti : TI} (h : T x = none) : TLe T (upT T x ti) := fun t tt e => by
  unfold upT
  rw [if_neg]
  · exact e
  · intro e'; rw [e', h] at e; cases e
theorem TLe.refl (T : Addr → Option TI) : TLe T T := fun _ _ h => h
theorem TLe.trans {T T' T'' : Addr → Option TI} (h : TLe T T') (k : TLe T' T'') : TLe T T'' := fun t ti e => k _ _ (h _ _ e)
theorem TyOk.mono {T T' : Addr → Option TI} {G G' : Addr → Option AO} {t : Addr} {ti : TI} (h : TyOk T G t ti) (ht : TLe T T') (hg : Le G G') : TyOk T' G' t ti := by
  obtain ⟨gd, v, hv, hf, hz, hk⟩ := h
  refine ⟨gd, v, hg.ty hv, hf, hz, ?_⟩
  cases hkd : ti.kind with
  | prim => rw [hkd] at hk; exact hk
  | ptr => rw [hkd] at hk; exact hk
  | arr b n =>
    rw [hkd] at hk
    obtain ⟨h1, h2, h3, h0, tb, h4, h5⟩ := hk
    exact ⟨h1, h2, h3, h0, tb, ht _ _ h4, h5⟩
  | rcd b fs hid cf ch =>
    rw [hkd] at hk
    obtain ⟨h1, h2, h3, h4, h5, h6, h7, h8, h9, h10, h11⟩ := hk
    refine ⟨h1, h2, h3, hg _ _ h4, h5, hg _ _ h6, ?_, ?_, ?_, ?_, h11⟩
    · intro f hf
      obtain ⟨⟨ov, o1, o2⟩, tf, t1, t2⟩ := h7 f hf
      exact ⟨⟨ov, hg.ob o1, o2⟩, tf, ht _ _ t1, t2⟩
    · intro b' hb
      obtain ⟨tb, t1, t2⟩ := h8 b' hb
      exact ⟨tb, ht _ _ t1, t2⟩
    · rw [h9]
      congr 1
      · refine List.map_congr_left fun f hf => ?_
        obtain ⟨_, tf, t1, _⟩ := h7 f hf
        rw [t1, ht _ _ t1]
      · cases b with
        | none => rfl
        | some b' =>
          obtain ⟨tb, t1, _⟩ := h8 b' rfl
          simp only [t1, ht _ _ t1]
    · rw [h10]
      congr 1
      cases b with
      | none => rfl
      | some b' =>
        obtain ⟨tb, t1, _⟩ := h8 b' rfl
        simp only [t1, ht _ _ t1]
theorem WF.up {T : Addr → Option TI} {G G' : Addr → Option AO} {x : Addr} {ti : TI} (h : WF T G) (hx : G x = none) (hg : Le G G') (ok : TyOk (upT T x ti) G' x ti) : WF (upT T x ti) G' := fun t tt e => by
  by_cases ht : t = x
  · subst ht
    rw [upT_self] at e
    obtain rfl := Option.some.inj e
    exact ok
  · have e' : T t = some tt := by unfold upT at e; rwa [if_neg ht] at e
    exact (h t tt e').mono (upT_le (h.no hx)) hg
/-- marks at words alone -/
theorem words_len : ∀ (l : List Nat) (a m : Nat), l.Pairwise (· < ·) → (∀ x ∈ l, a ≤ x ∧ x % 4 = 0 ∧ x < m) → l = [] ∨ 4 * l.length + a ≤ m + 3
  | [], _, _, _, _ => .inl rfl
  | x :: r, a, m, hp, h => by
    obtain ⟨p1, p2⟩ := List.pairwise_cons.mp hp
    obtain ⟨h1, h2, h3⟩ := h x (.head _)
    refine .inr ?_
    rcases words_len r (x + 4) m p2 (fun y hy => by
      have := p1 y hy
      obtain ⟨_, g2, g3⟩ := h y (.tail _ hy)
      omega) with rfl | e
    · simp; omega
    · simp only [List.length_cons]; omega
theorem cnt_of {mk : List Bool} {z : Nat} (hl : mk.length = z) (h : ∀ s : Nat, mk[s]? = some true → s % 4 = 0 ∧ z % 4 = 0) : 4 * (posOf mk).length ≤ z := by
  have hz : ∀ x ∈ posOf mk, 0 ≤ x ∧ x % 4 = 0 ∧ x < z := fun x hx => by
    have e := mem_posOf.mp hx
    exact ⟨Nat.zero_le _, (h x e).1, by rw [← hl]; exact (List.getElem?_eq_some_iff.mp e).1⟩
  rcases words_len (posOf mk) 0 z (posOf_sorted mk) hz with e | e
  · rw [e]; simp
  · cases hq : posOf mk with
    | nil => simp
    | cons x r =>
      have := (h x (mem_posOf.mp (by rw [hq]; exact .head _))).2
      rw [hq] at e
      simp only [List.length_cons] at e ⊢
      omega
theorem flat_get (mk : List Bool) : ∀ (n s : Nat), (List.replicate n mk).flatten[s]? = some true → ∃ q j, s = q * mk.length + j ∧ mk[j]? = some true
  | 0, s, h => by simp at h
  | n + 1, s, h => by
    rw [flat_succ] at h
    by_cases hs : s < (List.replicate n mk).flatten.length
    · rw [List.getElem?_append_left hs] at h
      exact flat_get mk n s h
    · rw [List.getElem?_append_right (by omega), flat_len] at h
      rw [flat_len] at hs
      exact ⟨n, s - n * mk.length, by omega, h⟩
def ptrI : TI := ⟨"pointer", 4, 4, [true, false, false, false], 0, .ptr⟩
theorem gd_ptr : Gd ptrI := ⟨rfl, .inr rfl, fun s h => by
  match s, h with
  | 0, _ => exact ⟨rfl, rfl, rfl⟩
  | 1, h => simp [ptrI] at h
  | 2, h => simp [ptrI] at h
  | 3, h => simp [ptrI] at h
  | s + 4, h => simp [ptrI] at h, by decide, by decide, by decide⟩
def primI (f : Str) (z : Nat) : TI := ⟨f, z, if small f = true then 1 else 4, List.replicate z false, 0, .prim⟩
theorem gd_prim (f : Str) (z : Nat) (hz : z ≤ 100) : Gd (primI f z) := ⟨List.length_replicate, by unfold primI; dsimp only; split <;> simp, fun s h => by
  obtain ⟨_, h2⟩ := List.getElem?_eq_some_iff.mp h
  exact absurd ((List.getElem_replicate ..).symm.trans h2) (by simp), hz, by unfold primI; dsimp only; rw [posOf_false]; simp, Nat.zero_le _⟩
def arrI (b : Addr) (n : Nat) (tb : TI) : TI := ⟨"array", n * tb.size, tb.step, (List.replicate n tb.marks).flatten, tb.rank + 1, .arr b n⟩
theorem gd_arr {b : Addr} {n : Nat} {tb : TI} (g : Gd tb) (hz : n * tb.size ≤ 100) (hr : tb.rank < 100) : Gd (arrI b n tb) := by
  have hl : (List.replicate n tb.marks).flatten.length = n * tb.size := by rw [flat_len, g.len]
  have hp : ∀ s : Nat, (List.replicate n tb.marks).flatten[s]? = some true → s % 4 = 0 ∧ (n * tb.size) % 4 = 0 ∧ tb.step = 4 := fun s h => by
    obtain ⟨q, j, rfl, h2⟩ := flat_get tb.marks n s h
    obtain ⟨g1, g2, g3⟩ := g.pos j h2
    rw [g.len]
    refine ⟨?_, ?_, g3⟩
    · rw [Nat.add_mod, Nat.mul_mod, g2, g1]; simp
    · rw [Nat.mul_mod, g2]; simp
  exact ⟨hl, g.st, hp, hz, cnt_of hl fun s h => ⟨(hp s h).1, (hp s h).2.1⟩, hr⟩
theorem PoolAt.re {H : Addr → Option AO} {pl av rl : Addr} (h : PoolAt H pl av) (k : H rl = none) : PoolAt H pl rl := by
  obtain ⟨fl, figs, i, mix, a, r, h1, h2, h3, h4, _⟩ := h
  exact ⟨fl, figs, i, mix, a, r, h1, h2, h3, h4, fun e => by rw [e, k] at h2; cases h2⟩
structure Gw (T : Addr → Option TI) (G H : Addr → Option AO) (T' : Addr → Option TI) (G' : Addr → Option AO) : Prop where
  t : TLe T T'
  g : Le G G'
  n : ∀ a, G a = none → G' a ≠ none → H a = none
theorem Gw.refl {T : Addr → Option TI} {G H : Addr → Option AO} : Gw T G H T G := ⟨TLe.refl _, Le.rfl', fun a h k => absurd h k⟩
theorem Gw.trans {T T' T'' : Addr → Option TI} {G G' G'' H H' : Addr → Option AO} (x : Gw T G H T' G') (hu : ∀ a, H' a = none → H a = none) (y : Gw T' G' H' T'' G'') : Gw T G H T'' G'' :=
  ⟨x.t.trans y.t, x.g.trans y.g, fun a h k => by
    cases e : G' a with
    | some o => exact x.n a h (by rw [e]; simp)
    | none => exact hu a (y.n a e k)⟩
theorem Gw.up {T : Addr → Option TI} {G H0 H : Addr → Option AO} {x : Addr} {ti : TI} {S : List Addr} (hw : WF T G) (hx : G x = none) (hS : ∀ a ∈ S, H0 a = none) : Gw T G H0 (upT T x ti) (ext G H S) :=
  ⟨upT_le (hw.no hx), ext_le, fun a h k => by
    by_cases ha : a ∈ S
    · exact hS a ha
    · exact absurd (ext_none h ha) k⟩
def Kp (ts pl : Addr) (H H' : Addr → Option AO) : Prop := ∀ x, x ≠ ts → x ≠ pl → ∀ o, H x = some o → H' x = some o
theorem Kp.refl {ts pl : Addr} {H : Addr → Option AO} : Kp ts pl H H := fun _ _ _ _ h => h
theorem Kp.trans {ts pl : Addr} {H H' H'' : Addr → Option AO} (h : Kp ts pl H H') (k : Kp ts pl H' H'') : Kp ts pl H H'' := fun x a b o e => k x a b o (h x a b o e)
theorem Le.kp {ts pl : Addr} {H H' : Addr → Option AO} (h : Le H H') : Kp ts pl H H' := fun x _ _ o e => h x o e
/-- what stands while shapes are made -/
structure Cx (T : Addr → Option TI) (G H : Addr → Option AO) (ts pl rl bo ch b it ma : Addr) (rs : List Addr) (B : Nat) : Prop where
  wf : WF T G
  le : Le G H
  s : ∃ fs, H ts = some (.ins 180 fs) ∧ IsS fs bo ch b it ma
  gts : G ts = none
  p : PoolAt H pl rl
  gpl : G pl = none
  pr : ∀ x ∈ [b, it, ch, bo, ma], ∃ ti, T x = some ti ∧ ti.size ≤ 24 ∧ ti.rank ≤ B
  frl : H rl = some (.lst (rs.map AV.ref))
  frs : ∀ r ∈ rs, ∃ tr, T r = some tr ∧ tr.kind.isRec = true ∧ tr.size ≤ 24 ∧ tr.rank ≤ B ∧ tr.kind.ch.length ≤ B
  rn : rs.length ≤ 20
  ne : rl ≠ pl
  hB : B ≤ 90
section
variable {T : Addr → Option TI} {G H H' : Addr → Option AO} {ts pl rl bo ch b it ma : Addr} {rs : List Addr} {B : Nat}
theorem Cx.nts (C : Cx T G H ts pl rl bo ch b it ma rs B) : ts ≠ pl := fun e => by
  obtain ⟨fs, h1, _⟩ := C.s
  obtain ⟨fl, figs, i, mix, a, r, h2, _⟩ := C.p
  rw [e, h2] at h1; cases h1
theorem Cx.nrl (C : Cx T G H ts pl rl bo ch b it ma rs B) : rl ≠ ts := fun e => by
  obtain ⟨fs, h1, _⟩ := C.s
  have := C.frl
  rw [e, h1] at this; cases this
theorem Cx.up' (C : Cx T G H ts pl rl bo ch b it ma rs B) (k : Kp ts pl H H') (h1 : H' ts ≠ none) (h2 : H' pl ≠ none) : ∀ a, H' a = none → H a = none := fun a e => by
  cases hh : H a with
  | none => rfl
  | some o =>
    by_cases e1 : a = ts
    · exact absurd (e1 ▸ e) h1
    · by_cases e2 : a = pl
      · exact absurd (e2 ▸ e) h2
      · rw [k a e1 e2 o hh] at e; cases e
theorem Cx.up (C : Cx T G H ts pl rl bo ch b it ma rs B) {T' : Addr → Option TI} {G' : Addr → Option AO} (C' : Cx T' G' H' ts pl rl bo ch b it ma rs B) (k : Kp ts pl H H') : ∀ a, H' a = none → H a = none := by
  refine C.up' k ?_ ?_
  · obtain ⟨fs, h1, _⟩ := C'.s; rw [h1]; simp
  · obtain ⟨fl, figs, i, mix, a, r, h2, _⟩ := C'.p; rw [h2]; simp
theorem PoolAt.le {av : Addr} (h : PoolAt H pl av) (k : Le H H') : PoolAt H' pl av := by
  obtain ⟨fl, figs, i, mix, a, r, h1, h2, h3⟩ := h
  exact ⟨fl, figs, i, mix, a, r, k _ _ h1, k _ _ h2, h3⟩
theorem Cx.le' (C : Cx T G H ts pl rl bo ch b it ma rs B) (k : Le H H') : Cx T G H' ts pl rl bo ch b it ma rs B :=
  ⟨C.wf, C.le.trans k, let ⟨fs, h1, h2⟩ := C.s; ⟨fs, k _ _ h1, h2⟩, C.gts, C.p.le k, C.gpl, C.pr, k _ _ C.frl, C.frs, C.rn, C.ne, C.hB⟩
theorem Cx.pool (C : Cx T G H ts pl rl bo ch b it ma rs B) (hp : PoolAt H' pl rl) (k : ∀ x, x ≠ pl → ∀ o, H x = some o → H' x = some o) : Cx T G H' ts pl rl bo ch b it ma rs B :=
  ⟨C.wf, fun a o e => k a (fun e' => by rw [e', C.gpl] at e; cases e) o (C.le a o e), let ⟨fs, h1, h2⟩ := C.s; ⟨fs, k _ C.nts _ h1, h2⟩, C.gts, hp, C.gpl, C.pr, k _ C.ne _ C.frl, C.frs, C.rn, C.ne, C.hB⟩
theorem IsS.cnt' {fs : List (Str × AV)} (h : IsS fs bo ch b it ma) (c : Int) : IsS (fput "counter" (.int c) fs) bo ch b it ma :=
  ⟨fget_put_ne h.new, ⟨c, fget_put_eq⟩, fget_put_ne h.bo, fget_put_ne h.ch, fget_put_ne h.b, fget_put_ne h.it, fget_put_ne h.ma, by
    obtain ⟨c', e⟩ := h.cnt
    rw [fput_length _ _ _ (by rw [e]; rfl)]; exact h.short⟩
theorem Cx.cnt (C : Cx T G H ts pl rl bo ch b it ma rs B) {fs : List (Str × AV)} (hfs : H ts = some (.ins 180 fs)) {c : Int} (h1 : H' ts = some (.ins 180 (fput "counter" (.int c) fs))) (k : ∀ x, x ≠ ts → ∀ o, H x = some o → H' x = some o) : Cx T G H' ts pl rl bo ch b it ma rs B := by
  obtain ⟨fs', e1, e2⟩ := C.s
  rw [hfs] at e1
  injection e1 with e1
  injection e1 with _ e1
  subst e1
  refine ⟨C.wf, fun a o e => k a (fun e' => by rw [e', C.gts] at e; cases e) o (C.le a o e), ⟨_, h1, e2.cnt' c⟩, C.gts, ?_, C.gpl, C.pr, k _ C.nrl _ C.frl, C.frs, C.rn, C.ne, C.hB⟩
  obtain ⟨fl, figs, i, mix, a, r, g1, g2, g3⟩ := C.p
  refine ⟨fl, figs, i, mix, a, r, k _ C.nts.symm _ g1, k _ (fun e => ?_) _ g2, g3⟩
  rw [e, hfs] at g2; cases g2
/-- a heap changed at one new object alone -/
theorem Cx.obj (C : Cx T G H ts pl rl bo ch b it ma rs B) {x : Addr} (h1 : G x = none) (h2 : x ≠ ts) (h3 : x ≠ pl) (h4 : x ≠ rl) (h5 : ∀ v, H x ≠ some (.lst v)) (k : ∀ a, a ≠ x → H' a = H a) : Cx T G H' ts pl rl bo ch b it ma rs B := by
  refine ⟨C.wf, C.le.upd h1 k, let ⟨fs, e1, e2⟩ := C.s; ⟨fs, (k _ (Ne.symm h2)).trans e1, e2⟩, C.gts, ?_, C.gpl, C.pr, (k _ (Ne.symm h4)).trans C.frl, C.frs, C.rn, C.ne, C.hB⟩
  obtain ⟨fl, figs, i, mix, a, r, g1, g2, g3⟩ := C.p
  refine ⟨fl, figs, i, mix, a, r, (k _ (Ne.symm h3)).trans g1, (k _ (fun e => ?_)).trans g2, g3⟩
  rw [e] at g2; exact h5 _ g2
theorem Cx.reg (C : Cx T G H ts pl rl bo ch b it ma rs B) {x : Addr} {ti : TI} {S : List Addr} (hx : G x = none) (h1 : ts ∉ S) (h2 : pl ∉ S) (ok : TyOk (upT T x ti) (ext G H S) x ti) : Cx (upT T x ti) (ext G H S) H ts pl rl bo ch b it ma rs B :=
  ⟨C.wf.up hx ext_le ok, ext_sub C.le, C.s, ext_none C.gts h1, C.p, ext_none C.gpl h2,
    fun y hy => let ⟨t, e, r⟩ := C.pr y hy; ⟨t, upT_le (C.wf.no hx) _ _ e, r⟩, C.frl, fun y hy => let ⟨t, e, r⟩ := C.frs y hy; ⟨t, upT_le (C.wf.no hx) _ _ e, r⟩, C.rn, C.ne, C.hB⟩
end
/-- where ways meet, some of them gone back -/
def joinK (P : St → Prop) (Q : AF → St → Prop) : AF → St → Prop
  | .next, σ => P σ
  | f, σ => Q f σ
theorem Ex1.joinK {W : Wd} {φ : Fx} {σ : St} {st : Stmt} {Q : AF → St → Prop} (P : St → Prop) (h : ∀ PJ, PJ = P → Ex1 W φ st (joinK PJ Q) σ) (k : ∀ σ', P σ' → Q .next σ') : Ex1 W φ st Q σ := Tr.mono (h P rfl) fun f σ' q => by
  cases f <;> first | exact k _ q | exact q
theorem joinK_next {PJ P : St → Prop} {Q : AF → St → Prop} {σ : St} (e : PJ = P) (h : P σ) : joinK PJ Q .next σ := by rw [e]; exact h
theorem joinK_ret {P : St → Prop} {Q : AF → St → Prop} {v : AV} {σ : St} (h : Q (.ret v) σ) : joinK P Q (.ret v) σ := h
def ShS (w : World) (mean : ExcName → Option Value) (mg mb : Str → Option Value) (ts pl rl bo ch b it ma : Addr) (rs : List Addr) (B k : Nat) : Prop :=
  ∀ (φ : Fx) (σ : St) (Q : AV → St → Prop) (T : Addr → Option TI) (G : Addr → Option AO), φ.Ok (WX w mean mg mb) → Room φ (k + 8) → Cx T G σ.H ts pl rl bo ch b it ma rs B →
    (∀ t ti T' G' H', Cx T' G' H' ts pl rl bo ch b it ma rs B → Gw T G σ.H T' G' → T' t = some ti → ti.size ≤ 24 → ti.rank ≤ B + k → Kp ts pl σ.H H' → Q (.ref t) ⟨σ.m, H'⟩) →
    CallA (WX w mean mg mb) φ (.ref 205) [.ref pl, .ref ts, .ref rl, .int (2 - (k : Int))] Q σ
theorem Co.weak {W : Wd} {φ : Fx} {env : Env} {e : Expr} {σ : St} {P Q : Bool → St → Prop} (h : Co W φ env e P σ) (k : ∀ b σ', P b σ' → Q b σ') : Co W φ env e Q σ := Tr.mono h k
section
variable {w : World} {mean : ExcName → Option Value} {mg mb : Str → Option Value} {φ : Fx} {σ : St} {Q : AV → St → Prop} {ts pl rl bo ch b it ma : Addr} {rs : List Addr} {B : Nat}
theorem ty_not_lst {H : Addr → Option AO} {x : Addr} {v : TyV} (h : TyAt H x v) : ∀ u, H x ≠ some (.lst u) := fun u e => by
  obtain ⟨fs, h1, _⟩ := h
  rw [h1] at e; cases e
theorem sh_step {k : Nat} (IH : k = 0 ∨ ∃ j, k = j + 1 ∧ ShS w mean mg mb ts pl rl bo ch b it ma rs B j) (hk2 : k ≤ 2) : ShS w mean mg mb ts pl rl bo ch b it ma rs B k := by
  intro φ σ Q T G hok hroom C h
  refine' CallA.fn4 "pool" "types" "records" "deep" hok (by walk_at "fn") hroom.lt (by walk_at "bd") (by decide) ?_
  intro φ' o1 o2 o3 o4 o5
  have r1 : Room φ' (k + 7) := hroom.call o4 o5
  have hB := C.hB
  -- the kind
  refine Exs.cons (Ex1.join (fun σ' => σ'.m "pool" = some (.ref pl) ∧ σ'.m "types" = some (.ref ts) ∧ σ'.m "records" = some (.ref rl) ∧ σ'.m "deep" = some (.int (2 - (k : Int))) ∧ (∃ r : Nat, σ'.m "kind" = some (.int r) ∧ (k = 0 → r < 6)) ∧ Cx T G σ'.H ts pl rl bo ch b it ma rs B ∧ Kp ts pl σ.H σ'.H) ?_ ?_)
  · intro PJ hPJ
    repeat walk_at "ev"
    walk_at "call"
    repeat walk_at "ev"
    refine ⟨_, rfl, ite_b (fun e => ?_) fun e => ?_⟩
    · have e' := of_decide_eq_true e
      repeat walk_at "ev"
      refine law_pick_spec o1 (r1.mono (by omega) : Room φ' 2) C.p (by decide) fun r H' hr hp kp => ?_
      repeat walk_at "ev"
      exact ⟨rfl, rfl, rfl, rfl, ⟨r, rfl, fun e0 => by omega⟩, C.pool hp kp, fun x _ hx => kp x hx⟩
    · repeat walk_at "ev"
      refine law_pick_spec o1 (r1.mono (by omega) : Room φ' 2) C.p (by decide) fun r H' hr hp kp => ?_
      repeat walk_at "ev"
      exact ⟨rfl, rfl, rfl, rfl, ⟨r, rfl, fun e0 => by omega⟩, C.pool hp kp, fun x _ hx => kp x hx⟩
  rintro σ1 ⟨m0, m1, m2, m3, ⟨r, m4, hr6⟩, C1, K1⟩
  walk_at "ev"
  -- a record there is
  refine Exs.cons (Ex1.joinK (fun σ' => σ'.m "pool" = some (.ref pl) ∧ σ'.m "types" = some (.ref ts) ∧ σ'.m "records" = some (.ref rl) ∧ σ'.m "deep" = some (.int (2 - (k : Int))) ∧ σ'.m "kind" = some (.int r) ∧ Cx T G σ'.H ts pl rl bo ch b it ma rs B ∧ Kp ts pl σ.H σ'.H) ?_ ?_)
  · intro PK hPK
    repeat walk_at "ev"
    refine ⟨_, rfl, ite_b (fun e => ?_) fun e => ?_⟩
    · repeat walk_at "ev"
      refine ⟨by decide, fun a ha => ?_⟩
      have C2 := C1.le' (Le.new (o := .lst []) Le.rfl' ha)
      have K2 : Kp ts pl σ.H _ := K1.trans (Le.new (o := .lst []) Le.rfl' ha).kp
      refine Cmp.neNil C2.frl hset_self r1.un ?_
      refine ⟨_, rfl, ite_b (fun e2 => ?_) fun e2 => ?_⟩
      · repeat walk_at "ev"
        obtain ⟨fl, figs, i, mix, ar, rc, hpl, hfl, hfs, hne⟩ := C2.p
        refine ⟨pl, _, _, .int rc, rfl, rfl, hpl, rfl, by simp, ?_⟩
        repeat walk_at "ev"
        refine ⟨_, rfl, ite_b (fun e3 => ?_) fun e3 => ?_⟩
        · repeat walk_at "ev"
          rw [if_pos rfl]
          repeat walk_at "ev"
          refine Itm.get hpl rfl (by simp) ?_
          repeat walk_at "ev"
          refine SetItm.lst hpl (by decide) (by simp) (by simp) ?_
          have C3 := C2.pool (H' := hset (hset σ1.H a (.lst [])) pl (.lst (List.set [AV.ref fl, .int i, .int mix, .int ar, .int rc] (4 : Int).toNat (.int (rc - 1))))) ⟨fl, figs, i, mix, ar, rc - 1, hset_self, (hset_ne hne.1).trans hfl, hfs, hne⟩ (fun x hx o e => (hset_ne hx).trans e)
          have K3 := K2.trans (H'' := hset (hset σ1.H a (.lst [])) pl (.lst (List.set [AV.ref fl, .int i, .int mix, .int ar, .int rc] (4 : Int).toNat (.int (rc - 1))))) fun x _ hx o e => (hset_ne hx).trans e
          repeat walk_at "ev"
          walk_at "call"
          repeat walk_at "ev"
          walk_at "call"
          repeat walk_at "ev"
          have hrn := C3.rn
          refine CallA.len C3.frl (by rw [List.length_map]; omega) ?_
          repeat walk_at "ev"
          have hrp : 0 < rs.length := by
            cases rs with
            | nil => simp at e2
            | cons => simp
          refine law_pick_spec o1 (r1.mono (by omega) : Room φ' 2) C3.p (by rw [List.length_map]; omega) fun q H' hq hp kp => ?_
          rw [List.length_map] at hq
          have C4 := C3.pool hp kp
          have hql : q < rs.length := by omega
          refine ⟨rl, _, _, .ref rs[q], rfl, rfl, C4.frl, lget_nat (map_get AV.ref (List.getElem?_eq_getElem hql)), by rw [List.length_map]; omega, ?_⟩
          repeat walk_at "ev"
          refine joinK_ret ?_
          repeat walk_at "ev"
          obtain ⟨tr, t1, t2, t3, t4⟩ := C4.frs rs[q] (List.getElem_mem hql)
          exact h rs[q] tr T G H' C4 Gw.refl t1 t3 (by omega) (K3.trans fun x _ hx => kp x hx)
        · repeat walk_at "ev"
          rw [if_neg Bool.false_ne_true]
          repeat walk_at "ev"
          exact joinK_next hPK ⟨m0, m1, m2, m3, m4, C2, K2⟩
      · rw [if_neg Bool.false_ne_true]
        repeat walk_at "ev"
        exact joinK_next hPK ⟨m0, m1, m2, m3, m4, C2, K2⟩
    · rw [if_neg Bool.false_ne_true]
      repeat walk_at "ev"
      exact joinK_next hPK ⟨m0, m1, m2, m3, m4, C1, K1⟩
  clear m0 m1 m2 m3 m4 C1 K1 σ1
  rintro σ1 ⟨m0, m1, m2, m3, m4, C1, K1⟩
  walk_at "ev"
  -- a type of its own
  refine Exs.cons (Ex1.joinK (fun σ' => σ'.m "pool" = some (.ref pl) ∧ σ'.m "types" = some (.ref ts) ∧ σ'.m "records" = some (.ref rl) ∧ σ'.m "deep" = some (.int (2 - (k : Int))) ∧ 6 ≤ r ∧ Cx T G σ'.H ts pl rl bo ch b it ma rs B ∧ Kp ts pl σ.H σ'.H) ?_ ?_)
  · intro PK hPK
    refine Ex1.if_ (Co.weak (P := fun c σ' => (σ'.m "pool" = some (.ref pl) ∧ σ'.m "types" = some (.ref ts) ∧ σ'.m "records" = some (.ref rl) ∧ σ'.m "deep" = some (.int (2 - (k : Int))) ∧ σ'.m "kind" = some (.int r) ∧ Cx T G σ'.H ts pl rl bo ch b it ma rs B ∧ Kp ts pl σ.H σ'.H) ∧ (c = false → 6 ≤ r)) ?_ ?_)
    · repeat walk_at "ev"
      refine ⟨_, rfl, ite_b (fun e => ?_) fun e => ?_⟩
      · exact ⟨⟨m0, m1, m2, m3, m4, C1, K1⟩, fun h => by cases h⟩
      · have e' := of_decide_eq_false e
        repeat walk_at "ev"
        obtain ⟨fl, figs, i, mix, ar, rc, hpl, hfl, hfs, hne⟩ := C1.p
        refine ⟨pl, _, _, .int ar, rfl, rfl, hpl, rfl, by simp, ?_⟩
        repeat walk_at "ev"
        refine ⟨_, rfl, ite_b (fun e => ?_) fun e => ?_⟩
        · exact ⟨⟨m0, m1, m2, m3, m4, C1, K1⟩, fun _ => by omega⟩
        · repeat walk_at "ev"
          exact ⟨⟨m0, m1, m2, m3, m4, C1, K1⟩, fun _ => by omega⟩
    · clear m0 m1 m2 m3 m4 C1 K1 σ1
      rintro c σ1 ⟨⟨m0, m1, m2, m3, m4, C1, K1⟩, hc⟩
      refine ite_b (fun e => ?_) fun e => ?_
      · obtain ⟨fs, hts, hS⟩ := C1.s
        repeat walk_at "ev"
        refine Att.own o1 hts aOk_S_byte hS.b (fun w h => by cases h) ?_
        repeat walk_at "ev"
        refine Att.own o1 hts aOk_S_integer hS.it (fun w h => by cases h) ?_
        repeat walk_at "ev"
        refine Att.own o1 hts aOk_S_char hS.ch (fun w h => by cases h) ?_
        repeat walk_at "ev"
        refine Att.own o1 hts aOk_S_boolean hS.bo (fun w h => by cases h) ?_
        repeat walk_at "ev"
        refine Att.own o1 hts aOk_S_mask hS.ma (fun w h => by cases h) ?_
        repeat walk_at "ev"
        refine ⟨by simp, fun a ha => ?_⟩
        walk_at "call"
        repeat walk_at "ev"
        refine CallA.min ?_
        have C2 := C1.le' (Le.new (o := .lst [.ref b, .ref it, .ref ch, .ref bo, .ref ma]) Le.rfl' ha)
        have K2 := K1.trans (Le.new (o := .lst [.ref b, .ref it, .ref ch, .ref bo, .ref ma]) Le.rfl' ha).kp
        have hm : Min.min (r : Int) 4 = ((Min.min r 4 : Nat) : Int) := by omega
        rw [hm]
        have hl : Min.min r 4 < [b, it, ch, bo, ma].length := by simp; omega
        refine ⟨a, _, _, .ref [b, it, ch, bo, ma][Min.min r 4], rfl, rfl, hset_self, lget_nat (map_get (L := [b, it, ch, bo, ma]) AV.ref (List.getElem?_eq_getElem hl)), by simp, ?_⟩
        obtain ⟨ti, t1, t2, t3⟩ := C2.pr _ (List.getElem_mem hl)
        repeat walk_at "ev"
        refine ⟨_, rfl, ite_b (fun e5 => ?_) fun e5 => ?_⟩
        · repeat walk_at "ev"
          walk_at "call"
          repeat walk_at "ev"
          obtain ⟨fs2, hts2, hS2⟩ := C2.s
          obtain ⟨cn, hcn⟩ := hS2.cnt
          refine ⟨ts, 180, _, 170, rfl, hts2, hS2.new, mOk_new, ?_⟩
          repeat walk_at "ev"
          refine new_spec o1 (r1.mono (by omega) : Room φ' 3) hts2 hcn hS2.short fun x fa ha' H' x0 tx fa0 fae ha0 hae d1 d2 d3 kp ets => ?_
          have C3 := C2.cnt hts2 ets kp
          have K3 := K2.trans (H'' := H') fun y hy _ o e => kp y hy o e
          have gx : G x = none := C2.le.none x0
          have nts : ts ≠ x := fun e => by rw [e] at hts2; exact absurd (hts2.symm.trans x0) (by simp)
          have npl : pl ≠ x := fun e => by
            obtain ⟨_, _, _, _, _, _, g, _⟩ := C2.p
            rw [e] at g; exact absurd (g.symm.trans x0) (by simp)
          have C4 := C3.reg (ti := ptrI) (S := [x]) gx (by simpa using nts) (by simpa using npl) ⟨gd_ptr, _, ext_ty C3.le (by simp) tx, rfl, rfl, rfl, rfl, rfl, rfl⟩
          have x00 : σ.H x = none := C.up C2 K2 x x0
          repeat walk_at "ev"
          refine joinK_ret ?_
          repeat walk_at "ev"
          exact h x ptrI _ _ H' C4 (Gw.up C.wf gx (by simpa using x00)) upT_self (by decide) (Nat.zero_le _) K3
        · repeat walk_at "ev"
          refine joinK_ret ?_
          repeat walk_at "ev"
          exact h _ ti T G _ C2 Gw.refl t1 t2 (by omega) K2
      · repeat walk_at "ev"
        exact joinK_next hPK ⟨m0, m1, m2, m3, hc e, C1, K1⟩
  clear m0 m1 m2 m3 m4 C1 K1 σ1
  rintro σ1 ⟨m0, m1, m2, m3, h6, C1, K1⟩
  walk_at "ev"
  -- an array
  obtain ⟨j, rfl, IHj⟩ : ∃ j, k = j + 1 ∧ ShS w mean mg mb ts pl rl bo ch b it ma rs B j := by
    rcases IH with e | e
    · exact absurd (hr6 e) (by omega)
    · exact e
  obtain ⟨fl, figs, i, mix, ar, rc, hpl, hfl, hfs, hne⟩ := C1.p
  repeat walk_at "ev"
  refine Itm.get hpl rfl (by simp) ?_
  repeat walk_at "ev"
  refine SetItm.lst hpl (by decide) (by simp) (by simp) ?_
  have C2 := C1.pool (H' := hset σ1.H pl (.lst (List.set [AV.ref fl, .int i, .int mix, .int ar, .int rc] (3 : Int).toNat (.int (ar - 1))))) ⟨fl, figs, i, mix, ar - 1, rc, hset_self, (hset_ne hne.1).trans hfl, hfs, hne⟩ (fun x hx o e => (hset_ne hx).trans e)
  have K2 := K1.trans (H'' := hset σ1.H pl (.lst (List.set [AV.ref fl, .int i, .int mix, .int ar, .int rc] (3 : Int).toNat (.int (ar - 1))))) fun x _ hx o e => (hset_ne hx).trans e
  repeat walk_at "ev"
  walk_at "call"
  repeat walk_at "ev"
  rw [show (2 - ((j + 1 : Nat) : Int) + 1) = 2 - (j : Int) by omega]
  refine IHj φ' _ _ T G o1 (r1.mono (by omega)) C2 fun t tb T1 G1 H3 C3 g3 t1 t2 t3 k3 => ?_
  have K3 := K2.trans k3
  have G3 : Gw T G σ.H T1 G1 := Gw.refl.trans (C.up C2 K2) g3
  have gdb := (C3.wf t tb t1).gd
  obtain ⟨vb, hvb, hvbf, hvbz⟩ := C3.wf.ty t1
  repeat walk_at "ev"
  walk_at "call"
  repeat walk_at "ev"
  obtain ⟨fs2, hts2, hS2⟩ := C3.s
  obtain ⟨cn, hcn⟩ := hS2.cnt
  refine ⟨ts, 180, _, 170, rfl, hts2, hS2.new, mOk_new, ?_⟩
  repeat walk_at "ev"
  refine new_spec o1 (r1.mono (by omega) : Room φ' 3) hts2 hcn hS2.short fun x fa ha' H4 x0 tx fa0 fae ha0 hae d1 d2 d3 kp ets => ?_
  have C4 := C3.cnt hts2 ets kp
  have K4 := K3.trans (H'' := H4) fun y hy _ o e => kp y hy o e
  have gx : G1 x = none := C3.le.none x0
  have nts : x ≠ ts := fun e => by rw [← e] at hts2; exact absurd (hts2.symm.trans x0) (by simp)
  have npl : x ≠ pl := fun e => by
    obtain ⟨_, _, _, _, _, _, g, _⟩ := C3.p
    rw [← e] at g; exact absurd (g.symm.trans x0) (by simp)
  have nrl : x ≠ rl := fun e => by
    have g := C3.frl
    rw [← e] at g; exact absurd (g.symm.trans x0) (by simp)
  have x00 : σ.H x = none := C.up C3 K3 x x0
  have Kx : ∀ {H H' : Addr → Option AO}, Kp ts pl σ.H H → (∀ a, a ≠ x → H' a = H a) → Kp ts pl σ.H H' := fun h k y h1 h2 o e => (k y (fun e' => by rw [e', x00] at e; cases e)).trans (h y h1 h2 o e)
  repeat walk_at "ev"
  refine SetAtt.t_base o1 (some t) tx fun H5 tx5 k5 => ?_
  have C5 := C4.obj gx nts npl nrl (ty_not_lst tx) k5
  have K5 := Kx K4 k5
  repeat walk_at "ev"
  walk_at "call"
  repeat walk_at "ev"
  refine law_pick_spec o1 (r1.mono (by omega) : Room φ' 2) C5.p (by decide) fun q H6 hq hp6 k6 => ?_
  have C6 := C5.pool hp6 k6
  have K6 := K5.trans (H'' := H6) fun y _ hy o e => k6 y hy o e
  have tx6 : TyAt H6 x _ := let ⟨fs, e1, e2⟩ := tx5; ⟨fs, k6 _ npl _ e1, e2⟩
  repeat walk_at "ev"
  refine SetAtt.t_length o1 (1 + (q : Int)) tx6 fun H7 tx7 k7 => ?_
  have C7 := C6.obj gx nts npl nrl (ty_not_lst tx6) k7
  have K7 := Kx K6 k7
  have hvb7 := C7.le.ty hvb
  walk_at "ev"
  refine Exs.cons (Ex1.join (fun σ' => σ'.m "made" = some (.ref x) ∧ σ'.m "inner" = some (.ref t) ∧ ∃ n : Nat, n ≤ 3 ∧ n * tb.size ≤ 24 ∧ TyAt σ'.H x ⟨"array", 0, some t, (n : Nat), fa, 0, ha'⟩ ∧ Cx T1 G1 σ'.H ts pl rl bo ch b it ma rs B ∧ Kp ts pl σ.H σ'.H) ?_ ?_)
  · intro PJ hPJ
    repeat walk_at "ev"
    refine Att.t_length o1 tx7 ?_
    repeat walk_at "ev"
    refine Att.t_size o1 hvb7 ?_
    rw [hvbz]
    refine Bin.mul (IntMulOk.of_right (PySem.intBits_le_64 (by omega) (by omega))) ?_
    have hcast : (1 + (q : Int)) * (tb.size : Nat) = (((1 + q) * tb.size : Nat) : Int) := by rw [Int.natCast_mul, Int.natCast_add]; rfl
    repeat walk_at "ev"
    refine ⟨_, rfl, ite_b (fun e => ?_) fun e => ?_⟩
    · repeat walk_at "ev"
      refine SetAtt.t_length o1 1 tx7 fun H8 tx8 k8 => ?_
      repeat walk_at "ev"
      exact ⟨rfl, rfl, 1, by decide, by omega, tx8, C7.obj gx nts npl nrl (ty_not_lst tx7) k8, Kx K7 k8⟩
    · repeat walk_at "ev"
      have e' := of_decide_eq_false e
      rw [hcast] at e'
      exact ⟨rfl, rfl, 1 + q, by omega, by omega, tx7, C7, K7⟩
  · rintro σ2 ⟨n0, n1, n, hn3, hnz, tx8, C8, K8⟩
    have hvb8 := C8.le.ty hvb
    repeat walk_at "ev"
    walk_at "call"
    repeat walk_at "ev"
    refine Att.t_length o1 tx8 ?_
    repeat walk_at "ev"
    refine array_size_spec o1 (r1.mono (by omega) : Room φ' 1) hvb8 (by rw [hvbz]; omega) ?_
    rw [hvbz]
    repeat walk_at "ev"
    refine SetAtt.t_size o1 _ tx8 fun H9 tx9 k9 => ?_
    have C9 := C8.obj gx nts npl nrl (ty_not_lst tx8) k9
    have K9 := Kx K8 k9
    repeat walk_at "ev"
    have hB' := C9.hB
    have hsz : Max.max ((n : Nat) : Int) 0 * ((tb.size : Nat) : Int) = ((n * tb.size : Nat) : Int) := by
      rw [Int.natCast_mul]; congr 1; omega
    have C10 := C9.reg (ti := arrI t n tb) (S := [x]) gx (by simpa using Ne.symm nts) (by simpa using Ne.symm npl) ⟨gd_arr gdb (by omega) (by omega), _, ext_ty C9.le (by simp) tx9, rfl, hsz, rfl, rfl, rfl, by omega, tb, upT_le (C9.wf.no gx) _ _ t1, Nat.lt_succ_self _, rfl, rfl, rfl⟩
    exact h x (arrI t n tb) _ _ H9 C10 (G3.trans (fun _ e => e) (Gw.up C9.wf gx (by simpa using x00))) upT_self hnz (by show tb.rank + 1 ≤ B + (j + 1); omega) K9
theorem sh_all : ∀ k, k ≤ 2 → ShS w mean mg mb ts pl rl bo ch b it ma rs B k
  | 0, h => sh_step (.inl rfl) h
  | k + 1, h => sh_step (.inr ⟨k, rfl, sh_all k (by omega)⟩) h
theorem law_shape_spec {T : Addr → Option TI} {G : Addr → Option AO} (hok : φ.Ok (WX w mean mg mb)) (hroom : Room φ 10) (C : Cx T G σ.H ts pl rl bo ch b it ma rs B)
    (h : ∀ t ti T' G' H', Cx T' G' H' ts pl rl bo ch b it ma rs B → Gw T G σ.H T' G' → T' t = some ti → ti.size ≤ 24 → ti.rank ≤ B + 2 → Kp ts pl σ.H H' → Q (.ref t) ⟨σ.m, H'⟩) :
    CallA (WX w mean mg mb) φ (.ref 205) [.ref pl, .ref ts, .ref rl, .int 0] Q σ := sh_all 2 (Nat.le_refl _) φ σ Q T G hok hroom C h
end
-- a new record is well laid
def fisGo : Nat → List FE → List FI
  | _, [] => []
  | o, f :: r => ⟨f.o, alignN o f.ti.step, f.ov.type⟩ :: fisGo (alignN o f.ti.step + f.ti.size) r
def cfGo : Nat → List FE → List (Nat × List Bool)
  | _, [] => []
  | o, f :: r => (alignN o f.ti.step, f.ti.marks) :: cfGo (alignN o f.ti.step + f.ti.size) r
theorem fisGo_refs : ∀ (o : Nat) (L : List FE), (fisGo o L).map (fun f => AV.ref f.o) = L.map fun f => AV.ref f.o
  | _, [] => rfl
  | o, f :: r => by simp only [fisGo, List.map_cons, fisGo_refs]
theorem fisGo_mem : ∀ (o : Nat) (L : List FE) (f : FI), f ∈ fisGo o L → ∃ (i : Nat) (fe : FE), L[i]? = some fe ∧ f.o = fe.o ∧ f.ty = fe.ov.type ∧ (lay o (L.map FE.zs))[i]? = some f.off
  | _, [], f, h => by cases h
  | o, fe :: r, f, h => by
    rcases List.mem_cons.mp h with rfl | h
    · exact ⟨0, fe, rfl, rfl, rfl, rfl⟩
    · obtain ⟨i, fe', h1, h2, h3, h4⟩ := fisGo_mem _ r f h
      exact ⟨i + 1, fe', h1, h2, h3, h4⟩
theorem fisGo_length : ∀ (o : Nat) (L : List FE), (fisGo o L).length = L.length
  | _, [] => rfl
  | o, f :: r => by simp only [fisGo, List.length_cons, fisGo_length]
theorem cfGo_eq {T : Addr → Option TI} : ∀ (o : Nat) (L : List FE), (∀ f ∈ L, T f.ov.type = some f.ti) → (fisGo o L).map (fun f => (f.off, ((T f.ty).map TI.marks).getD [])) = cfGo o L
  | _, [], _ => rfl
  | o, f :: r, h => by
    simp only [fisGo, cfGo, List.map_cons, cfGo_eq _ r fun g hg => h g (.tail _ hg), h f (.head _)]
    rfl
theorem endL_ge : ∀ (o : Nat) (L : List FE), (∀ f ∈ L, Gd f.ti) → o ≤ endL o (L.map FE.zs)
  | _, [], _ => Nat.le_refl _
  | o, f :: r, h => by
    have h1 := alignN_le o f.ti.step (h f (.head _)).st
    have h2 := endL_ge (alignN o f.ti.step + f.ti.size) r fun g hg => h g (.tail _ hg)
    show o ≤ endL (alignN o f.ti.step + f.ti.size) (r.map FE.zs)
    omega
theorem endL_bound : ∀ (L : List FE) (o x : Nat), (∀ f ∈ L, Gd f.ti ∧ f.ti.size ≤ 24) → o ≤ x → x % 4 = 0 → endL o (L.map FE.zs) ≤ x + 24 * L.length
  | [], o, x, _, h, _ => h
  | f :: r, o, x, h, hx, h4 => by
    obtain ⟨g, hz⟩ := h f (.head _)
    have ha : alignN o f.ti.step ≤ x := by
      unfold alignN
      rcases g.st with e | e <;> rw [e] <;> omega
    have := endL_bound r (alignN o f.ti.step + f.ti.size) (x + 24) (fun g hg => h g (.tail _ hg)) (by omega) (by omega)
    show endL (alignN o f.ti.step + f.ti.size) (r.map FE.zs) ≤ _
    rw [List.length_cons]; omega
theorem cfGo_in : ∀ (o : Nat) (L : List FE), (∀ f ∈ L, Gd f.ti) → ∀ p ∈ cfGo o L, o ≤ p.1 ∧ p.1 + p.2.length ≤ endL o (L.map FE.zs)
  | _, [], _, p, h => by cases h
  | o, f :: r, hg, p, h => by
    have h1 := alignN_le o f.ti.step (hg f (.head _)).st
    show o ≤ p.1 ∧ p.1 + p.2.length ≤ endL (alignN o f.ti.step + f.ti.size) (r.map FE.zs)
    rcases List.mem_cons.mp h with rfl | h
    · have h2 := endL_ge (alignN o f.ti.step + f.ti.size) r fun g hg' => hg g (.tail _ hg')
      have h3 := (hg f (.head _)).len
      dsimp only
      omega
    · have := cfGo_in (alignN o f.ti.step + f.ti.size) r (fun g hg' => hg g (.tail _ hg')) p h
      omega
theorem cfGo_dis : ∀ (o : Nat) (L : List FE), (∀ f ∈ L, Gd f.ti) → (cfGo o L).Pairwise (fun p q => p.1 + p.2.length ≤ q.1 ∨ q.1 + q.2.length ≤ p.1)
  | _, [], _ => .nil
  | o, f :: r, hg => by
    refine List.pairwise_cons.mpr ⟨fun p hp => .inl ?_, cfGo_dis _ r fun g hg' => hg g (.tail _ hg')⟩
    have := cfGo_in (alignN o f.ti.step + f.ti.size) r (fun g hg' => hg g (.tail _ hg')) p hp
    have h3 := (hg f (.head _)).len
    dsimp only
    omega
theorem cfGo_words : ∀ (o : Nat) (L : List FE), (∀ f ∈ L, Gd f.ti) → ∀ s ∈ offs (cfGo o L), s % 4 = 0
  | _, [], _, s, h => by cases h
  | o, f :: r, hg, s, h => by
    rw [show cfGo o (f :: r) = [(alignN o f.ti.step, f.ti.marks)] ++ cfGo (alignN o f.ti.step + f.ti.size) r from rfl, offs_append, List.mem_append] at h
    rcases h with h | h
    · obtain ⟨p, hp, h1, h2⟩ := mem_offs.mp h
      obtain rfl := List.mem_singleton.mp hp
      obtain ⟨g1, g2, g3⟩ := (hg f (.head _)).pos _ h2
      have h1' : alignN o f.ti.step ≤ s := h1
      have : alignN o f.ti.step % 4 = 0 := by rw [g3]; unfold alignN; omega
      dsimp only at g1
      omega
    · exact cfGo_words _ r (fun g hg' => hg g (.tail _ hg')) s h
theorem cfGo_cnt : ∀ (o : Nat) (L : List FE), (∀ f ∈ L, Gd f.ti) → o + 4 * (offs (cfGo o L)).length ≤ endL o (L.map FE.zs)
  | _, [], _ => Nat.le_refl _
  | o, f :: r, hg => by
    have h1 := alignN_le o f.ti.step (hg f (.head _)).st
    have h2 := cfGo_cnt (alignN o f.ti.step + f.ti.size) r fun g hg' => hg g (.tail _ hg')
    have h3 := (hg f (.head _)).cnt
    show o + 4 * (offs (cfGo o (f :: r))).length ≤ endL (alignN o f.ti.step + f.ti.size) (r.map FE.zs)
    rw [show cfGo o (f :: r) = [(alignN o f.ti.step, f.ti.marks)] ++ cfGo (alignN o f.ti.step + f.ti.size) r from rfl, offs_append, List.length_append]
    have e : (offs [(alignN o f.ti.step, f.ti.marks)]).length = (posOf f.ti.marks).length := by simp [offs]
    omega
def bCf (T : Addr → Option TI) (o : Option Addr) : List (Nat × List Bool) := match o with | some b => ((T b).map fun tb => tb.kind.cf).getD [] | none => []
def bCh (T : Addr → Option TI) (o : Option Addr) : List Nat := match o with | some b => ((T b).map fun tb => tb.kind.ch).getD [] | none => []
def recI (T : Addr → Option TI) (B z o0 : Nat) (o : Option Addr) (L : List FE) (hid : List Nat) : TI :=
  ⟨"record", z, 4, rowOf z (cfGo o0 L ++ bCf T o) (hid ++ bCh T o), B + 3, .rcd o (fisGo o0 L) hid (cfGo o0 L ++ bCf T o) (hid ++ bCh T o)⟩
theorem rec_ok {T : Addr → Option TI} {G H : Addr → Option AO} {x : Addr} {v : TyV} {B z o0 : Nat} {o : Option Addr} {L : List FE} {hid : List Nat} {S : List Addr} (hW : WF T G) (hG : Le G H) (hx : G x = none) (hS1 : x ∈ S) (hS2 : v.flds ∈ S) (hS3 : v.hid ∈ S) (hS4 : ∀ f ∈ L, f.o ∈ S)
    (hv : TyAt H x v) (hvf : v.form = "record") (hvz : v.size = (z : Nat)) (hvb : v.base = o) (hfl : H v.flds = some (.lst (L.map fun f => .ref f.o))) (hhid : H v.hid = some (.lst (nl hid)))
    (hob : ∀ (i : Nat) (f : FE), L[i]? = some f → ∃ a : Nat, (lay o0 (L.map FE.zs))[i]? = some a ∧ ObAt H f.o { f.ov with offset := a })
    (hT : ∀ f ∈ L, T f.ov.type = some f.ti ∧ f.ti.rank ≤ B + 2 ∧ f.ti.size ≤ 24) (hL : L.length ≤ 3)
    (hb : (o = none ∧ o0 = 0) ∨ ∃ b tb, o = some b ∧ T b = some tb ∧ tb.kind.isRec = true ∧ tb.size = o0 ∧ tb.rank ≤ B ∧ tb.kind.ch.length ≤ B ∧ o0 ≤ 24)
    (hz : z = Max.max 4 (wwN (endL o0 (L.map FE.zs)))) (hh : ∀ s ∈ hid, s = 4 ∧ 8 < z) (hh1 : hid.length ≤ 1) (hB : B ≤ 15) :
    TyOk (upT T x (recI T B z o0 o L hid)) (ext G H S) x (recI T B z o0 o L hid) ∧ z ≤ 96 ∧ (hid ++ bCh T o).length ≤ B + 1 := by
  have hg : ∀ f ∈ L, Gd f.ti := fun f hf => (hW _ _ (hT f hf).1).gd
  have hup := upT_le (ti := recI T B z o0 o L hid) (hW.no hx)
  have ho24 : o0 ≤ 24 := by rcases hb with ⟨_, e⟩ | ⟨_, _, _, _, _, _, _, _, e⟩ <;> omega
  have hend := endL_bound L o0 24 (fun f hf => ⟨hg f hf, (hT f hf).2.2⟩) ho24 (by decide)
  have hge := endL_ge o0 L hg
  have hz4 : z % 4 = 0 := by rw [hz]; unfold wwN; omega
  have hez : endL o0 (L.map FE.zs) ≤ z := by rw [hz]; unfold wwN; omega
  have hz96 : z ≤ 96 := by rw [hz]; unfold wwN; omega
  -- the base's part
  have hbp : (∀ p ∈ bCf T o, p.1 + p.2.length ≤ o0) ∧ (bCf T o).Pairwise (fun p q => p.1 + p.2.length ≤ q.1 ∨ q.1 + q.2.length ≤ p.1) ∧ (∀ s ∈ bCh T o, s < o0 ∧ s % 4 = 0) ∧ (∀ s ∈ offs (bCf T o), s % 4 = 0) ∧ 4 * (offs (bCf T o)).length ≤ o0 ∧ (bCh T o).length ≤ B := by
    rcases hb with ⟨rfl, rfl⟩ | ⟨b, tb, rfl, hTb, hr, hsz, hrk, hch, _⟩
    · refine ⟨?_, ?_, ?_, ?_, ?_, ?_⟩ <;> simp [bCf, bCh, offs]
    · obtain ⟨_, hmk, hin, hdis, hchb, hcnt, hchl⟩ := rec_row hW hTb hr
      have e1 : bCf T (some b) = tb.kind.cf := by simp [bCf, hTb]
      have e2 : bCh T (some b) = tb.kind.ch := by simp [bCh, hTb]
      have gp := (hW _ _ hTb).gd.pos
      rw [hmk] at gp
      rw [e1, e2, ← hsz]
      exact ⟨hin, hdis, fun s hs => ⟨hchb s hs, (gp s ((rowOf_get hin hdis hchb s).mpr (.inr hs))).1⟩, fun s hs => (gp s ((rowOf_get hin hdis hchb s).mpr (.inl hs))).1, hcnt, hch⟩
  obtain ⟨b1, b2, b3, b4, b5, b6⟩ := hbp
  have c1 := cfGo_in o0 L hg
  have hin : ∀ p ∈ cfGo o0 L ++ bCf T o, p.1 + p.2.length ≤ z := fun p hp => by
    rcases List.mem_append.mp hp with hp | hp
    · have := (c1 p hp).2; omega
    · have := b1 p hp; omega
  have hdis : (cfGo o0 L ++ bCf T o).Pairwise (fun p q => p.1 + p.2.length ≤ q.1 ∨ q.1 + q.2.length ≤ p.1) := List.pairwise_append.mpr ⟨cfGo_dis o0 L hg, b2, fun p hp q hq => by
    have := (c1 p hp).1
    have := b1 q hq
    omega⟩
  have hch : ∀ s ∈ hid ++ bCh T o, s < z := fun s hs => by
    rcases List.mem_append.mp hs with hs | hs
    · have := hh s hs; omega
    · have := (b3 s hs).1; omega
  have hw : ∀ s ∈ offs (cfGo o0 L ++ bCf T o), s % 4 = 0 := fun s hs => by
    rw [offs_append, List.mem_append] at hs
    rcases hs with hs | hs
    · exact cfGo_words o0 L hg s hs
    · exact b4 s hs
  have hpos : ∀ s : Nat, (rowOf z (cfGo o0 L ++ bCf T o) (hid ++ bCh T o))[s]? = some true → s % 4 = 0 ∧ z % 4 = 0 ∧ (4 : Nat) = 4 := fun s hs => by
    refine ⟨?_, hz4, rfl⟩
    rcases (rowOf_get hin hdis hch s).mp hs with hs | hs
    · exact hw s hs
    · rcases List.mem_append.mp hs with hs | hs
      · rw [(hh s hs).1]
      · exact (b3 s hs).2
  have hcl : (hid ++ bCh T o).length ≤ B + 1 := by rw [List.length_append]; omega
  have c2 := cfGo_cnt o0 L hg
  refine ⟨⟨⟨rowOf_len hin, .inr rfl, hpos, by show z ≤ 100; omega, cnt_of (rowOf_len hin) (fun s h => ⟨(hpos s h).1, hz4⟩), by show B + 3 ≤ 100; omega⟩, v, ext_ty hG hS1 hv, hvf, hvz, rfl, hvb, rfl, ?_, ?_, ?_, ?_, ?_, ?_, ?_, rfl, hin, hdis, hch, ?_, ?_⟩, hz96, hcl⟩
  · rw [ext_get hG hS2, fisGo_refs]; exact hfl
  · rw [fisGo_length]; omega
  · rw [ext_get hG hS3]; exact hhid
  · intro f hf
    obtain ⟨i, fe, h1, h2, h3, h4⟩ := fisGo_mem o0 L f hf
    obtain ⟨a, g1, g2⟩ := hob i fe h1
    have hm := List.mem_of_getElem? h1
    rw [g1] at h4
    have h4 := Option.some.inj h4
    refine ⟨⟨{ fe.ov with offset := (a : Int) }, by rw [h2]; exact ext_ob hG (hS4 fe hm) g2, h3.symm, by show (a : Int) = f.off; rw [h4]⟩, fe.ti, by rw [h3]; exact hup _ _ (hT fe hm).1, ?_⟩
    have := (hT fe hm).2.1
    show fe.ti.rank < B + 3
    omega
  · intro b' hb'
    rcases hb with ⟨e, _⟩ | ⟨b, tb, e, hTb, hr, hsz, hrk, _⟩
    · rw [e] at hb'; cases hb'
    · rw [e] at hb'
      obtain rfl := Option.some.inj hb'
      exact ⟨tb, hup _ _ hTb, by show tb.rank < B + 3; omega, hr⟩
  · rw [cfGo_eq o0 L fun f hf => hup _ _ (hT f hf).1]
    congr 1
    rcases hb with ⟨e, _⟩ | ⟨b, tb, e, hTb, _⟩
    · rw [e]; rfl
    · have u := hup _ _ hTb
      generalize upT T x (recI T B z o0 o L hid) = T' at u ⊢
      rw [e]
      show ((T b).map fun tb => tb.kind.cf).getD [] = ((T' b).map fun tb => tb.kind.cf).getD []
      rw [hTb, u]
  · congr 1
    rcases hb with ⟨e, _⟩ | ⟨b, tb, e, hTb, _⟩
    · rw [e]; rfl
    · have u := hup _ _ hTb
      generalize upT T x (recI T B z o0 o L hid) = T' at u ⊢
      rw [e]
      show ((T b).map fun tb => tb.kind.ch).getD [] = ((T' b).map fun tb => tb.kind.ch).getD []
      rw [hTb, u]
  · rw [← offs_length, offs_append, List.length_append]
    show 4 * _ ≤ z
    omega
  · show _ ≤ 20
    omega
theorem Cx.mono {T : Addr → Option TI} {G H : Addr → Option AO} {ts pl rl bo ch b it ma : Addr} {rs : List Addr} {B B' : Nat} (C : Cx T G H ts pl rl bo ch b it ma rs B) (h : B ≤ B') (h' : B' ≤ 90) : Cx T G H ts pl rl bo ch b it ma rs B' :=
  { C with
    pr := fun x hx => let ⟨t, e1, e2, e3⟩ := C.pr x hx; ⟨t, e1, e2, Nat.le_trans e3 h⟩
    frs := fun x hx => let ⟨t, e1, e2, e3, e4, e5⟩ := C.frs x hx; ⟨t, e1, e2, e3, Nat.le_trans e4 h, Nat.le_trans e5 h⟩
    hB := h' }
theorem Cx.cell {T : Addr → Option TI} {G H H' : Addr → Option AO} {ts pl rl bo ch b it ma : Addr} {rs : List Addr} {B : Nat} (C : Cx T G H ts pl rl bo ch b it ma rs B) (k : Kp ts pl H H') {c : Addr} {v : Option AV} (h : H c = some (.cell v)) : H' c = some (.cell v) := by
  obtain ⟨fs, h1, _⟩ := C.s
  obtain ⟨fl, figs, i, mix, a, r, h2, _⟩ := C.p
  refine k c (fun e => ?_) (fun e => ?_) _ h
  · rw [e, h1] at h; cases h
  · rw [e, h2] at h; cases h
/-- the law's frame: its cells -/
structure Lx (cp ct cr cm : Addr) (T : Addr → Option TI) (G H : Addr → Option AO) (ts pl rl bo ch b it ma : Addr) (rs : List Addr) (B : Nat) : Prop where
  cx : Cx T G H ts pl rl bo ch b it ma rs B
  p : H cp = some (.cell (some (.ref pl)))
  t : H ct = some (.cell (some (.ref ts)))
  r : H cr = some (.cell (some (.ref rl)))
  m : ∃ v, H cm = some (.cell v)
  gm : G cm = none
  gr : G rl = none
/-- objects to be laid -/
structure FObs (T : Addr → Option TI) (G H : Addr → Option AO) (B : Nat) (L : List FE) : Prop where
  at_ : ∀ f ∈ L, ObAt H f.o f.ov ∧ T f.ov.type = some f.ti ∧ f.ti.rank ≤ B + 2 ∧ f.ti.size ≤ 24 ∧ G f.o = none
  nd : (L.map FE.o).Nodup
section
variable {T T' : Addr → Option TI} {G G' H H' : Addr → Option AO} {cp ct cr cm ts pl rl bo ch b it ma : Addr} {rs : List Addr} {B : Nat} {L : List FE}
theorem Gw.keepNone (g : Gw T G H T' G') {a : Addr} (h : G a = none) (hh : H a ≠ none) : G' a = none := by
  cases e : G' a with
  | none => rfl
  | some o => exact absurd (g.n a h (by rw [e]; simp)) hh
theorem Lx.go (x : Lx cp ct cr cm T G H ts pl rl bo ch b it ma rs B) (C : Cx T' G' H' ts pl rl bo ch b it ma rs B) (g : Gw T G H T' G') (k : Kp ts pl H H') : Lx cp ct cr cm T' G' H' ts pl rl bo ch b it ma rs B :=
  ⟨C, x.cx.cell k x.p, x.cx.cell k x.t, x.cx.cell k x.r, let ⟨v, e⟩ := x.m; ⟨v, x.cx.cell k e⟩, g.keepNone x.gm (by obtain ⟨v, e⟩ := x.m; rw [e]; simp), g.keepNone x.gr (by rw [x.cx.frl]; simp)⟩
theorem Lx.same (x : Lx cp ct cr cm T G H ts pl rl bo ch b it ma rs B) (C : Cx T G H' ts pl rl bo ch b it ma rs B) (k : Kp ts pl H H') : Lx cp ct cr cm T G H' ts pl rl bo ch b it ma rs B := x.go C Gw.refl k
theorem Lx.le (x : Lx cp ct cr cm T G H ts pl rl bo ch b it ma rs B) (k : Le H H') : Lx cp ct cr cm T G H' ts pl rl bo ch b it ma rs B := x.same (x.cx.le' k) k.kp
theorem Lx.pool (x : Lx cp ct cr cm T G H ts pl rl bo ch b it ma rs B) (hp : PoolAt H' pl rl) (k : ∀ x, x ≠ pl → ∀ o, H x = some o → H' x = some o) : Lx cp ct cr cm T G H' ts pl rl bo ch b it ma rs B := x.same (x.cx.pool hp k) fun y _ h => k y h
theorem Lx.cnt (x : Lx cp ct cr cm T G H ts pl rl bo ch b it ma rs B) {fs : List (Str × AV)} (hfs : H ts = some (.ins 180 fs)) {c : Int} (h1 : H' ts = some (.ins 180 (fput "counter" (.int c) fs))) (k : ∀ x, x ≠ ts → ∀ o, H x = some o → H' x = some o) : Lx cp ct cr cm T G H' ts pl rl bo ch b it ma rs B := x.same (x.cx.cnt hfs h1 k) fun y h _ => k y h
theorem ob_not {x : Addr} {v : ObV} (C : Cx T G H ts pl rl bo ch b it ma rs B) (h : ObAt H x v) : x ≠ ts ∧ x ≠ pl := by
  obtain ⟨gs, g, _⟩ := h
  obtain ⟨fs, h1, _⟩ := C.s
  obtain ⟨fl, figs, i, mix, a, r, h2, _⟩ := C.p
  refine ⟨fun e => ?_, fun e => ?_⟩
  · rw [e, h1] at g; cases g
  · rw [e, h2] at g; cases g
theorem ty_not {x : Addr} {v : TyV} (C : Cx T G H ts pl rl bo ch b it ma rs B) (h : TyAt H x v) : x ≠ ts ∧ x ≠ pl := by
  obtain ⟨gs, g, _⟩ := h
  obtain ⟨fs, h1, _⟩ := C.s
  obtain ⟨fl, figs, i, mix, a, r, h2, _⟩ := C.p
  refine ⟨fun e => ?_, fun e => ?_⟩
  · rw [e, h1] at g; cases g
  · rw [e, h2] at g; cases g
theorem kp_ty {x : Addr} {v : TyV} (C : Cx T G H ts pl rl bo ch b it ma rs B) (k : Kp ts pl H H') (h : TyAt H x v) : TyAt H' x v := by
  have n := ty_not C h
  obtain ⟨gs, g, i⟩ := h
  exact ⟨gs, k _ n.1 n.2 _ g, i⟩
theorem kp_ob {x : Addr} {v : ObV} (C : Cx T G H ts pl rl bo ch b it ma rs B) (k : Kp ts pl H H') (h : ObAt H x v) : ObAt H' x v := by
  have n := ob_not C h
  obtain ⟨gs, g, i⟩ := h
  exact ⟨gs, k _ n.1 n.2 _ g, i⟩
theorem FObs.go (F : FObs T G H B L) (C : Cx T G H ts pl rl bo ch b it ma rs B) (g : Gw T G H T' G') (k : Kp ts pl H H') : FObs T' G' H' B L :=
  ⟨fun f hf => by
    obtain ⟨h1, h2, h3, h4, h5⟩ := F.at_ f hf
    refine ⟨kp_ob C k h1, g.t _ _ h2, h3, h4, g.keepNone h5 ?_⟩
    obtain ⟨gs, e, _⟩ := h1
    rw [e]; simp, F.nd⟩
theorem FObs.nil : FObs T G H B [] := ⟨fun f hf => absurd hf (by simp), by simp⟩
theorem FObs.le (F : FObs T G H B L) (k : Le H H') : FObs T G H' B L := ⟨fun f hf => let ⟨h1, h⟩ := F.at_ f hf; ⟨k.ob h1, h⟩, F.nd⟩
theorem FObs.snoc (F : FObs T G H B L) {x : Addr} {ov : ObV} {ti : TI} (hx : H x = none) (hG : Le G H) (k : Le H H') (ho : ObAt H' x ov) (hT : T ov.type = some ti) (h1 : ti.rank ≤ B + 2) (h2 : ti.size ≤ 24) : FObs T G H' B (L ++ [⟨x, ov, ti⟩]) := by
  refine ⟨fun f hf => ?_, ?_⟩
  · rcases List.mem_append.mp hf with hf | hf
    · exact (F.le k).at_ f hf
    · obtain rfl := List.mem_singleton.mp hf
      exact ⟨ho, hT, h1, h2, hG.none hx⟩
  · rw [List.map_append, List.nodup_append]
    refine ⟨F.nd, by simp, fun a ha c hc => ?_⟩
    simp only [List.map_cons, List.map_nil, List.mem_singleton] at hc
    subst hc
    obtain ⟨f, hf, rfl⟩ := List.mem_map.mp ha
    intro e
    obtain ⟨⟨gs, e1, _⟩, _⟩ := F.at_ f hf
    rw [e, hx] at e1; cases e1
end
theorem cl_of {φ : Fx} {l : List (Str × Addr)} {x : Str} {c : Addr} (h : φ.cl = l) (e : l.lookup x = some c) : φ.cl.lookup x = some c := by rw [h]; exact e
theorem clos_of {φ : Fx} {l : List (Str × Addr)} {scope : Scope} {x : List (Str × Addr)} (h : φ.cl = l) (e : ∀ cn cs L a ccd, closureFor scope (envX cn cs L a ccd l) = Pure.pure x) : closureFor scope φ.env = Pure.pure x := by
  show closureFor scope (envX φ.cn φ.cs φ.L φ.a φ.ccd φ.cl) = _
  rw [h]; exact e ..
theorem ck_of {φ : Fx} {sc scope : Scope} {cl : List (Str × Addr)} {C : Addr} {x : Str} {k : NameKind} (h : φ.cs = sc) (e : ∀ cn L a ccd cl', (compEnvC scope cl C (envX cn sc L a ccd cl')).kindOf x = some k) : (compEnvC scope cl C φ.env).kindOf x = some k := by
  show (compEnvC scope cl C (envX φ.cn φ.cs φ.L φ.a φ.ccd φ.cl)).kindOf x = _
  rw [h]; exact e ..
/-- the law's own code -/
def IsLaw (w : World) (mean : ExcName → Option Value) (mg mb : Str → Option Value) (body : List Stmt) (scope : Scope) : Prop :=
  ∃ name qual params dV kV doc pm an cdv ct oc od osl, (WX w mean mg mb).K.lookup 231 = some ⟨oc, od, .func (fnOf name qual params body scope dV kV doc pm an cdv ct), osl⟩
theorem IsLaw.eq {w : World} {mean : ExcName → Option Value} {mg mb : Str → Option Value} {b b' : List Stmt} {s s' : Scope} (h : IsLaw w mean mg mb b s) (k : IsLaw w mean mg mb b' s') : b = b' ∧ s = s' := by
  obtain ⟨_, _, _, _, _, _, _, _, _, _, _, _, _, e⟩ := h
  obtain ⟨_, _, _, _, _, _, _, _, _, _, _, _, _, e'⟩ := k
  rw [e] at e'
  injection e' with e'
  injection e' with _ _ e' _
  injection e' with e'
  injection e' with _ _ _ e1 e2
  injection e1 with e1
  exact ⟨e1, e2⟩
def lbody (b : List Stmt) : List Stmt := match b.drop 3 with
  | .For _ _ x _ _ :: _ => x
  | _ => []
theorem Lx.obj {T : Addr → Option TI} {G H H' : Addr → Option AO} {cp ct cr cm ts pl rl bo ch b it ma : Addr} {rs : List Addr} {B : Nat} (X : Lx cp ct cr cm T G H ts pl rl bo ch b it ma rs B) {x : Addr} {v : TyV} (tx : TyAt H x v) (gx : G x = none) (k : ∀ a, a ≠ x → H' a = H a) : Lx cp ct cr cm T G H' ts pl rl bo ch b it ma rs B := by
  have nx := ty_not X.cx tx
  have nc : ∀ {c : Addr} {v : Option AV}, H c = some (.cell v) → H' c = some (.cell v) := fun {c v} e => (k c (fun e' => by
    obtain ⟨gs, g, _⟩ := tx
    rw [← e', e] at g; cases g)).trans e
  exact ⟨X.cx.obj gx nx.1 nx.2 (tx.ne_lst X.cx.frl) (ty_not_lst tx) k, nc X.p, nc X.t, nc X.r, let ⟨v, e⟩ := X.m; ⟨v, nc e⟩, X.gm, X.gr⟩
theorem FObs.ty {T : Addr → Option TI} {G H H' : Addr → Option AO} {B : Nat} {L : List FE} (F : FObs T G H B L) {x : Addr} {v : TyV} (tx : TyAt H x v) (k : ∀ a, a ≠ x → H' a = H a) : FObs T G H' B L :=
  ⟨fun f hf => let ⟨h1, h⟩ := F.at_ f hf; ⟨h1.keep (k _ (Ne.symm (tx.ne_ob h1))), h⟩, F.nd⟩
theorem comp_iter {W : Wd} {φ : Fx} {σ : St} {iter : Expr} {Q : Value → St → Prop} (P : AV → St → Prop) (h : Ev W φ φ.env iter P σ) (k : ∀ v σ', P (er v) σ' → Q v σ') : Tr W φ (eval iter φ.env) Q σ := Tr.mono h k
theorem ok_fix {W : Wd} {φ : Fx} (h : φ.Ok W) (f : List (Addr × Obj)) : (φ.withFix f).Ok W := ⟨h.B, h.X, h.T, h.k⟩
/-- a heap changed at some objects alone, none of them in the ghost -/
theorem Lx.keep {T : Addr → Option TI} {G H H' : Addr → Option AO} {cp ct cr cm ts pl rl bo ch b it ma : Addr} {rs : List Addr} {B : Nat} (X : Lx cp ct cr cm T G H ts pl rl bo ch b it ma rs B) (S : Addr → Prop) (hS : ∀ a, S a → G a = none ∧ ((∃ v, TyAt H a v) ∨ ∃ v, ObAt H a v)) (k : ∀ a, ¬ S a → ∀ o, H a = some o → H' a = some o) : Lx cp ct cr cm T G H' ts pl rl bo ch b it ma rs B := by
  have nl : ∀ {a v}, H a = some (.lst v) → ¬ S a := fun {a v} e h => by
    rcases (hS a h).2 with ⟨_, gs, g, _⟩ | ⟨_, gs, g, _⟩ <;> (rw [e] at g; cases g)
  have nc : ∀ {a v}, H a = some (.cell v) → ¬ S a := fun {a v} e h => by
    rcases (hS a h).2 with ⟨_, gs, g, _⟩ | ⟨_, gs, g, _⟩ <;> (rw [e] at g; cases g)
  have ns : ∀ {a v}, H a = some (.ins 180 v) → ¬ S a := fun {a v} e h => by
    rcases (hS a h).2 with ⟨_, gs, g, _⟩ | ⟨_, gs, g, _⟩ <;> (rw [e] at g; cases g)
  obtain ⟨fs, s1, s2⟩ := X.cx.s
  obtain ⟨fl, figs, i, mix, a, r, p1, p2, p3⟩ := X.cx.p
  obtain ⟨mv, m1⟩ := X.m
  refine ⟨{ X.cx with
    le := fun a o e => k a (fun h => by rw [(hS a h).1] at e; cases e) o (X.cx.le a o e)
    s := ⟨fs, k _ (ns s1) _ s1, s2⟩
    p := ⟨fl, figs, i, mix, a, r, k _ (nl p1) _ p1, k _ (nl p2) _ p2, p3⟩
    frl := k _ (nl X.cx.frl) _ X.cx.frl }, k _ (nc X.p) _ X.p, k _ (nc X.t) _ X.t, k _ (nc X.r) _ X.r, ⟨mv, k _ (nc m1) _ m1⟩, X.gm, X.gr⟩
/-- fields laid -/
def plc : Nat → List FE → List FE
  | _, [] => []
  | o, f :: r => ⟨f.o, { f.ov with offset := (alignN o f.ti.step : Nat) }, f.ti⟩ :: plc (alignN o f.ti.step + f.ti.size) r
theorem plc_refs : ∀ (o : Nat) (L : List FE), (plc o L).map (fun f => AV.ref f.o) = L.map fun f => AV.ref f.o
  | _, [] => rfl
  | o, f :: r => by simp only [plc, List.map_cons, plc_refs]
theorem plc_zs : ∀ (o : Nat) (L : List FE), (plc o L).map FE.zs = L.map FE.zs
  | _, [] => rfl
  | o, f :: r => by simp only [plc, List.map_cons, plc_zs]; rfl
theorem plc_length : ∀ (o : Nat) (L : List FE), (plc o L).length = L.length
  | _, [] => rfl
  | o, f :: r => by simp only [plc, List.length_cons, plc_length]
theorem plc_get : ∀ (o : Nat) (L : List FE) (i : Nat) (f : FE), (plc o L)[i]? = some f → ∃ (g : FE) (a : Nat), L[i]? = some g ∧ (lay o (L.map FE.zs))[i]? = some a ∧ f = ⟨g.o, { g.ov with offset := (a : Nat) }, g.ti⟩
  | _, [], i, f, h => by simp [plc] at h
  | o, g :: r, 0, f, h => by
    simp only [plc, List.getElem?_cons_zero, Option.some.injEq] at h
    exact ⟨g, _, rfl, rfl, h.symm⟩
  | o, g :: r, i + 1, f, h => by
    simp only [plc, List.getElem?_cons_succ] at h
    obtain ⟨g', a, h1, h2, h3⟩ := plc_get _ r i f h
    exact ⟨g', a, h1, h2, h3⟩
section
variable {W : Wd} {φ : Fx} {σ : St} {Q : AV → St → Prop}
theorem Ev.ccellF {C c : Addr} {x : Str} {pos : Pos} {v : AV} {scope : Scope} {cl : List (Str × Addr)} {f : List (Addr × Obj)} (hk : scope.kind = .function) (hx : (compEnvC scope cl C φ.env).kindOf x = some .cell) (hc : cl.lookup x = some c) (hv : σ.H c = some (.cell (some v))) (h : Q v σ) (hd : (x == ("__debug__" : Str)) = false := by decide) :
    Ev W (φ.withFix f) (compEnvC scope cl C φ.env) (.Name x pos) Q σ := Ev.ccell (φ := φ.withFix f) hk hx hc hv h hd
theorem Ev.clocF {C : Addr} {x : Str} {pos : Pos} {v : AV} {scope : Scope} {cl : List (Str × Addr)} {f : List (Addr × Obj)} (hc : CLoc (φ.withFix f) C x v) (hk : scope.kind = .function) (hx : scope.names.lookup x = some .local) (h : Q v σ) (hd : (x == ("__debug__" : Str)) = false := by decide) :
    Ev W (φ.withFix f) (compEnvC scope cl C φ.env) (.Name x pos) Q σ := Ev.cloc (φ := φ.withFix f) hc hk hx h hd
end
section
variable {T : Addr → Option TI} {G H : Addr → Option AO} {cp ct cr cm ts pl rl bo ch b it ma : Addr} {rs : List Addr} {B : Nat}
theorem Lx.push (X : Lx cp ct cr cm T G H ts pl rl bo ch b it ma rs B) {x : Addr} {ti : TI} (hx : T x = some ti) (h1 : ti.kind.isRec = true) (h2 : ti.size ≤ 24) (h3 : ti.rank ≤ B) (h4 : ti.kind.ch.length ≤ B) (hn : rs.length < 20) :
    Lx cp ct cr cm T G (hset H rl (.lst (rs.map AV.ref ++ [.ref x]))) ts pl rl bo ch b it ma (rs ++ [x]) B := by
  have nc : ∀ {c v}, H c = some (.cell v) → hset H rl (.lst (rs.map AV.ref ++ [.ref x])) c = some (.cell v) := fun {c v} e => (hset_ne (fun e' => by rw [e', X.cx.frl] at e; cases e)).trans e
  obtain ⟨fs, s1, s2⟩ := X.cx.s
  obtain ⟨fl, figs, i, mix, a, r, p1, p2, p3, p4, p5⟩ := X.cx.p
  obtain ⟨mv, m1⟩ := X.m
  exact ⟨{ X.cx with
    le := X.cx.le.upd X.gr fun a ha => hset_ne ha
    s := ⟨fs, (hset_ne (Ne.symm X.cx.nrl)).trans s1, s2⟩
    p := ⟨fl, figs, i, mix, a, r, (hset_ne (Ne.symm X.cx.ne)).trans p1, (hset_ne p5).trans p2, p3, p4, p5⟩
    frl := by rw [List.map_append]; exact hset_self
    frs := fun y hy => by
      rcases List.mem_append.mp hy with hy | hy
      · exact X.cx.frs y hy
      · obtain rfl := List.mem_singleton.mp hy
        exact ⟨ti, hx, h1, h2, h3, h4⟩
    rn := by rw [List.length_append]; simp; omega }, nc X.p, nc X.t, nc X.r, ⟨mv, nc m1⟩, X.gm, X.gr⟩
theorem Lx.mark (X : Lx cp ct cr cm T G H ts pl rl bo ch b it ma rs B) (hn1 : cm ≠ cp) (hn2 : cm ≠ ct) (hn3 : cm ≠ cr) (v : Option AV) : Lx cp ct cr cm T G (hset H cm (.cell v)) ts pl rl bo ch b it ma rs B := by
  obtain ⟨mv, m1⟩ := X.m
  have nl : ∀ {a v'}, H a = some (.lst v') → hset H cm (.cell v) a = some (.lst v') := fun {a v'} e => (hset_ne (fun e' => by rw [e', m1] at e; cases e)).trans e
  obtain ⟨fs, s1, s2⟩ := X.cx.s
  obtain ⟨fl, figs, i, mix, a, r, p1, p2, p3⟩ := X.cx.p
  exact ⟨{ X.cx with
    le := X.cx.le.upd X.gm fun a ha => hset_ne ha
    s := ⟨fs, (hset_ne (fun e' => by rw [e', m1] at s1; cases s1)).trans s1, s2⟩
    p := ⟨fl, figs, i, mix, a, r, nl p1, nl p2, p3⟩
    frl := nl X.cx.frl }, (hset_ne (Ne.symm hn1)).trans X.p, (hset_ne (Ne.symm hn2)).trans X.t, (hset_ne (Ne.symm hn3)).trans X.r, ⟨v, hset_self⟩, X.gm, X.gr⟩
end
local macro_rules | `(tactic| walk_at "ev") => `(tactic| with_reducible refine Ev.cell (by assumption) (loc_of (by assumption) (by k_dflt rfl)) (cl_of (by assumption) (by k_dflt rfl)) (by first | with_reducible assumption | k_dflt assumption) ?_ (by decide))
local macro_rules | `(tactic| walk_at "ec") => `(tactic| with_reducible first
  | refine Ev.ccellF (by k_dflt rfl) (ck_of (by assumption) (by k_dflt (intros; rfl))) (by k_dflt rfl) (by first | with_reducible assumption | k_dflt assumption) ?_ (by decide)
  | refine Ev.clocF (by assumption) (by k_dflt rfl) (by k_dflt rfl) ?_ (by decide)
  | refine Ev.callF (by assumption) (GN.K (by assumption) ns_Obj (by k_dflt rfl) (by k_dflt rfl) (ck_of (by assumption) (by k_dflt (intros; rfl))) (by decide)) kp_Obj ?_ (by k_dflt rfl) (by k_dflt rfl)
  | refine Ev.callF (by assumption) (GN.K (by assumption) ns_law_shape (by k_dflt rfl) (by k_dflt rfl) (ck_of (by assumption) (by k_dflt (intros; rfl))) (by decide)) kp_law_shape ?_ (by k_dflt rfl) (by k_dflt rfl)
  | refine Ev.callF (by assumption) (GN.K (by assumption) ns_law_pick (by k_dflt rfl) (by k_dflt rfl) (ck_of (by assumption) (by k_dflt (intros; rfl))) (by decide)) kp_law_pick ?_ (by k_dflt rfl) (by k_dflt rfl))
section
variable {w : World} {mean : ExcName → Option Value} {mg mb : Str → Option Value}
theorem lawLoop2 : ∃ body scope, IsLaw w mean mg mb body scope ∧ ∀ (φ : Fx) (σ : St) (Q : AF → St → Prop) (T : Addr → Option TI) (G : Addr → Option AO) (cp ct cr cm ts pl rl bo ch b it ma : Addr) (rs : List Addr) (B : Nat) (x fl ha : Addr) (o : Option Addr) (L : List FE),
    φ.Ok (WX w mean mg mb) → Room φ 60 → φ.cs = scope → φ.cl = [(Str.ofString "marks", cm), (Str.ofString "records", cr), (Str.ofString "types", ct), (Str.ofString "pool", cp)] → Lx cp ct cr cm T G σ.H ts pl rl bo ch b it ma rs B → B ≤ 12 → rs.length ≤ 10 → cm ≠ cp → cm ≠ ct → cm ≠ cr →
    σ.m "made" = some (.ref x) → TyAt σ.H x ⟨"record", 0, o, 0, fl, 0, ha⟩ → (∀ y, o = some y → y ∈ rs) → FObs T G σ.H B L → L.length ≤ 3 → σ.H fl = some (.lst (L.map fun f : FE => AV.ref f.o)) → σ.H ha = some (.lst (nl [])) → G x = none → G fl = none → G ha = none →
    fl ≠ ha → (fl ≠ ts ∧ fl ≠ pl ∧ fl ≠ rl) → (ha ≠ ts ∧ ha ≠ pl ∧ ha ≠ rl) →
    (∀ σ' T' G' rs', Lx cp ct cr cm T' G' σ'.H ts pl rl bo ch b it ma rs' (B + 3) → rs'.length ≤ rs.length + 1 → Q .next σ') → Exs (WX w mean mg mb) φ ((lbody body).drop 3) Q σ := by
  exact ⟨_, _, ⟨_, _, _, _, _, _, _, _, _, _, _, _, _, by show List.lookup _ (hd.heap_1 _) = _; k_is⟩, by
    intro φ σ Q T G cp ct cr cm ts pl rl bo ch b it ma rs B x fl ha o L o1 hroom o2 o3 X hB hrs hn1 hn2 hn3 m1 tx ho F hl3 hfl hha gx gfl gha nfh nfl nha h
    simp only [lbody, List.drop_succ_cons, List.drop_zero]
    have hbase : ∃ (o0 : Nat) (lv : Int), ((o = none ∧ o0 = 0 ∧ lv = 0) ∨ ∃ b vb, o = some b ∧ TyAt G b vb ∧ vb.size = (o0 : Nat) ∧ vb.level + 1 = lv) ∧ ((o = none ∧ o0 = 0) ∨ ∃ b tb, o = some b ∧ T b = some tb ∧ tb.kind.isRec = true ∧ tb.size = o0 ∧ tb.rank ≤ B ∧ tb.kind.ch.length ≤ B ∧ o0 ≤ 24) := by
      cases o with
      | none => exact ⟨0, 0, .inl ⟨rfl, rfl, rfl⟩, .inl ⟨rfl, rfl⟩⟩
      | some y =>
        obtain ⟨tr, t1, t2, t3, t4, t5⟩ := X.cx.frs y (ho y rfl)
        obtain ⟨vb, v1, v2, v3⟩ := X.cx.wf.ty t1
        exact ⟨tr.size, vb.level + 1, .inr ⟨y, vb, rfl, v1, v3, rfl⟩, .inr ⟨y, tr, rfl, t1, t2, rfl, t4, t5, t3⟩⟩
    obtain ⟨o0, lv, hb1, hb2⟩ := hbase
    -- place_fields(made)
    repeat walk_at "ev"
    walk_at "call"
    repeat walk_at "ev"
    refine place_fields_spec o1 (hroom.mono (by omega) : Room φ 4) X.cx.wf X.cx.le tx hb1 hfl (fun f hf => ⟨(F.at_ f hf).1, (F.at_ f hf).2.1, (F.at_ f hf).2.2.2.2⟩) F.nd gx (by omega) fun H5 tx5 ob5 kp5 => ⟨rfl, ?_⟩
    generalize hz : (Max.max 4 (wwN (endL o0 (L.map FE.zs))) : Nat) = z at tx5
    have X5 : Lx cp ct cr cm T G H5 ts pl rl bo ch b it ma rs B := X.keep (fun a => a = x ∨ a ∈ L.map FE.o) (fun a h => by
      rcases h with rfl | h
      · exact ⟨gx, .inl ⟨_, tx⟩⟩
      · obtain ⟨f, hf, rfl⟩ := List.mem_map.mp h
        exact ⟨(F.at_ f hf).2.2.2.2, .inr ⟨_, (F.at_ f hf).1⟩⟩) (fun a h o e => kp5 a (fun e' => h (.inl e')) (fun e' => h (.inr e')) o e)
    have nL : ∀ {a v}, σ.H a = some (.lst v) → a ∉ L.map FE.o := fun {a v} e h => by
      obtain ⟨f, hf, rfl⟩ := List.mem_map.mp h
      exact (F.at_ f hf).1.ne_lst e rfl
    have hfl5 := kp5 fl (Ne.symm (tx.ne_lst hfl)) (nL hfl) _ hfl
    have hha5 := kp5 ha (Ne.symm (tx.ne_lst hha)) (nL hha) _ hha
    -- low
    walk_at "ev"
    refine Exs.cons (Ex1.join (fun σ' => σ'.m "made" = some (.ref x) ∧ σ'.m "low" = some (.int (o0 : Nat)) ∧ σ'.H = H5) ?_ ?_)
    · intro PJ hPJ
      repeat walk_at "ev"
      refine Att.t_base o1 tx5 ?_
      repeat walk_at "ev"
      rcases hb1 with ⟨rfl, e0, _⟩ | ⟨y, vb, rfl, v1, v2, _⟩
      · refine ⟨_, rfl, ite_f rfl ?_⟩
        repeat walk_at "ev"
        exact ⟨m1, by rw [e0]; rfl, rfl⟩
      · refine ⟨_, rfl, ite_t rfl ?_⟩
        repeat walk_at "ev"
        refine Att.t_base o1 tx5 ?_
        refine Att.t_size o1 (X5.cx.le.ty v1) ?_
        rw [v2]
        repeat walk_at "ev"
        exact ⟨m1, rfl, rfl⟩
    clear m1
    rintro σ1 ⟨m1, m2, eH⟩
    rw [← eH] at tx5 ob5 X5 hfl5 hha5
    -- packed
    repeat walk_at "ev"
    walk_at "call"
    repeat walk_at "ev"
    refine Att.t_fields o1 tx5 ?_
    repeat walk_at "ev"
    refine law_packed_spec o1 (hroom.mono (by omega) : Room φ 4) X5.cx.wf X5.cx.le (L := plc o0 L) (s0 := o0) (by rw [plc_refs]; exact hfl5) (fun i f hi => ?_) (by rw [plc_length]; omega) fun H6 l6 => ?_
    · obtain ⟨g, a, h1, h2, rfl⟩ := plc_get o0 L i f hi
      obtain ⟨a', h3, h4⟩ := ob5 i g h1
      rw [h2] at h3
      obtain rfl := Option.some.inj h3
      exact ⟨h4, (F.at_ g (List.mem_of_getElem? h1)).2.1, a, by rw [plc_zs]; exact h2, rfl⟩
    rw [plc_zs]
    have X6 := X5.le l6
    have tx6 := l6.ty tx5
    refine thn_next (Exs.cons (Ex1.if_ (Co.weak (P := fun c σ' => c = false ∧ σ'.m "made" = some (.ref x) ∧ σ'.H = H6) ?_ ?_)))
    · repeat walk_at "ev"
      refine ⟨_, rfl, ite_f (decide_eq_false (by omega)) ?_⟩
      repeat walk_at "ev"
      walk_at "call"
      repeat walk_at "ev"
      refine CallA.max ?_
      repeat walk_at "ev"
      refine Att.t_size o1 tx6 ?_
      repeat walk_at "ev"
      refine ⟨_, rfl, ite_f (by rw [← hz]; simp; omega) ?_⟩
      repeat walk_at "ev"
      refine Att.t_level o1 tx6 ?_
      repeat walk_at "ev"
      refine Att.t_base o1 tx6 ?_
      repeat walk_at "ev"
      rcases hb1 with ⟨rfl, e0, e1⟩ | ⟨y, vb, rfl, v1, v2, v3⟩
      · refine ⟨_, rfl, ite_f rfl ?_⟩
        repeat walk_at "ev"
        refine ⟨_, rfl, ite_f (by rw [e1]; rfl) ?_⟩
        repeat walk_at "ev"
        exact ⟨rfl, m1, rfl⟩
      · refine ⟨_, rfl, ite_t rfl ?_⟩
        repeat walk_at "ev"
        refine Att.t_base o1 tx6 ?_
        refine Att.t_level o1 (X6.cx.le.ty v1) ?_
        repeat walk_at "ev"
        refine ⟨_, rfl, ite_f (by rw [v3]; simp) ?_⟩
        repeat walk_at "ev"
        exact ⟨rfl, m1, rfl⟩
    have ob6 : ∀ (i : Nat) (f : FE), L[i]? = some f → ∃ a : Nat, (lay o0 (L.map FE.zs))[i]? = some a ∧ ObAt H6 f.o { f.ov with offset := (a : Nat) } := fun i f hi => let ⟨a, h1, h2⟩ := ob5 i f hi; ⟨a, h1, l6.ob h2⟩
    have hfl6 := l6 _ _ hfl5
    have hha6 := l6 _ _ hha5
    clear X5 tx5 ob5 hfl5 hha5 kp5 m1 m2 eH nL
    rintro c σ2 ⟨rfl, m1, eH⟩
    rw [if_neg Bool.false_ne_true]
    subst eH
    walk_at "ev"
    walk_at "ev"
    have hp := X6.p
    have ht := X6.t
    have hr := X6.r
    -- hidden
    refine Exs.cons (Ex1.join (fun σ' => σ'.m "made" = some (.ref x) ∧ ∃ (hid : List Nat) (hb : Addr), TyAt σ'.H x ⟨"record", (z : Nat), o, 0, fl, lv, hb⟩ ∧ σ'.H hb = some (.lst (nl hid)) ∧ (∀ s ∈ hid, s = 4 ∧ 8 < z) ∧ hid.length ≤ 1 ∧ G hb = none ∧ (hb ≠ ts ∧ hb ≠ pl ∧ hb ≠ rl) ∧ σ'.H fl = some (.lst (L.map fun f : FE => AV.ref f.o)) ∧
      (∀ (i : Nat) (f : FE), L[i]? = some f → ∃ a : Nat, (lay o0 (L.map FE.zs))[i]? = some a ∧ ObAt σ'.H f.o { f.ov with offset := (a : Nat) }) ∧ Lx cp ct cr cm T G σ'.H ts pl rl bo ch b it ma rs B) ?_ ?_)
    · intro PJ hPJ
      repeat walk_at "ev"
      refine Att.t_size o1 tx6 ?_
      repeat walk_at "ev"
      refine ⟨_, rfl, ite_b (fun e => ?_) fun e => ?_⟩
      · have e8 : 8 < z := by
          have := of_decide_eq_true e
          have : (8 : Int) < (z : Nat) := this
          omega
        repeat walk_at "ev"
        walk_at "call"
        repeat walk_at "ev"
        refine law_pick_spec o1 (hroom.mono (by omega) : Room φ 2) X6.cx.p (by decide) fun q H7 hq hp7 k7 => ?_
        have X7 := X6.pool hp7 k7
        have K7 : Kp ts pl σ2.H H7 := fun y _ hy => k7 y hy
        have tx7 := kp_ty X6.cx K7 tx6
        have hfl7 := k7 fl nfl.2.1 _ hfl6
        have hha7 := k7 ha nha.2.1 _ hha6
        have ob7 : ∀ (i : Nat) (f : FE), L[i]? = some f → ∃ a : Nat, (lay o0 (L.map FE.zs))[i]? = some a ∧ ObAt H7 f.o { f.ov with offset := (a : Nat) } := fun i f hi => let ⟨a, h1, h2⟩ := ob6 i f hi; ⟨a, h1, kp_ob X6.cx K7 h2⟩
        repeat walk_at "ev"
        refine ⟨_, rfl, ite_b (fun e => ?_) fun e => ?_⟩
        · repeat walk_at "ev"
          rw [if_pos rfl]
          repeat walk_at "ev"
          refine ⟨by decide, fun a haf => ?_⟩
          have l8 := fun o => Le.new (o := o) (Le.rfl' (G := H7)) haf
          repeat walk_at "ev"
          refine SetAtt.t_hidden o1 a ((l8 _).ty tx7) fun H9 tx9 k9 => ?_
          have X9 := (X7.le (l8 (.lst [.int 4]))).obj ((l8 _).ty tx7) gx k9
          have nax : a ≠ x := fun e => by
            obtain ⟨gs, g, _⟩ := tx7
            have haf' : H7 a = none := haf
            rw [e, g] at haf'; cases haf'
          have hH : H7 a = none := haf
          repeat walk_at "ev"
          refine ⟨m1, [4], a, tx9, (k9 a nax).trans hset_self, fun s hs => ⟨by simpa using hs, e8⟩, by decide, X7.cx.le.none haf, ⟨fun e => ?_, fun e => ?_, fun e => ?_⟩, (k9 fl (Ne.symm (tx7.ne_lst hfl7))).trans (l8 _ _ _ hfl7), fun i f hi => ?_, X9⟩
          · obtain ⟨_, g, _⟩ := X7.cx.s
            rw [e, g] at hH; cases hH
          · obtain ⟨_, _, _, _, _, _, g, _⟩ := X7.cx.p
            rw [e, g] at hH; cases hH
          · rw [e, X7.cx.frl] at hH; cases hH
          · obtain ⟨a', h1, h2⟩ := ob7 i f hi
            exact ⟨a', h1, ((l8 _).ob h2).keep (k9 _ (Ne.symm (tx7.ne_ob h2)))⟩
        · repeat walk_at "ev"
          rw [if_neg Bool.false_ne_true]
          repeat walk_at "ev"
          exact ⟨m1, [], ha, tx7, hha7, fun s hs => absurd hs (by simp), by decide, gha, nha, hfl7, ob7, X7⟩
      · rw [if_neg Bool.false_ne_true]
        repeat walk_at "ev"
        exact ⟨m1, [], ha, tx6, hha6, fun s hs => absurd hs (by simp), by decide, gha, nha, hfl6, ob6, X6⟩
    clear hp ht hr X6 tx6 ob6 hfl6 hha6 m1
    rintro σ3 ⟨m1, hid, hb, tx6, hh, hs4, hh1, ghb, nhb, hfl6, ob6, X6⟩
    -- it is one of the ghost's from now on
    obtain ⟨ok, hz96, hchl⟩ := rec_ok (S := x :: fl :: hb :: L.map FE.o) X6.cx.wf X6.cx.le gx (by simp) (by simp) (by simp) (fun f hf => by
      refine List.mem_cons_of_mem _ (List.mem_cons_of_mem _ (List.mem_cons_of_mem _ (List.mem_map_of_mem hf)))) tx6 rfl rfl rfl hfl6 hh ob6 (fun f hf => ⟨(F.at_ f hf).2.1, (F.at_ f hf).2.2.1, (F.at_ f hf).2.2.2.1⟩) hl3 hb2 hz.symm hs4 hh1 (by omega)
    have nS : ∀ a, a ≠ x → a ≠ fl → a ≠ hb → (∀ v, ObAt σ3.H a v → False) → a ∉ x :: fl :: hb :: L.map FE.o := fun a h1 h2 h3 h4 hm => by
      simp only [List.mem_cons] at hm
      rcases hm with hm | hm | hm | hm
      · exact h1 hm
      · exact h2 hm
      · exact h3 hm
      · obtain ⟨f, hf, rfl⟩ := List.mem_map.mp hm
        obtain ⟨i, hi⟩ := List.getElem?_of_mem hf
        obtain ⟨a', _, h2⟩ := ob6 i f hi
        exact h4 _ h2
    have nxt := ty_not X6.cx tx6
    have sts := nS ts (Ne.symm nxt.1) (Ne.symm nfl.1) (Ne.symm nhb.1) fun v hv => (ob_not X6.cx hv).1 rfl
    have spl := nS pl (Ne.symm nxt.2) (Ne.symm nfl.2.1) (Ne.symm nhb.2.1) fun v hv => (ob_not X6.cx hv).2 rfl
    have srl := nS rl (Ne.symm (tx6.ne_lst X6.cx.frl)) (Ne.symm nfl.2.2) (Ne.symm nhb.2.2) fun v hv => hv.ne_lst X6.cx.frl rfl
    have scm := nS cm (fun e => by
        obtain ⟨v, g⟩ := X6.m
        obtain ⟨gs, g', _⟩ := tx6
        rw [e, g'] at g; cases g) (fun e => by
        obtain ⟨v, g⟩ := X6.m
        rw [e, hfl6] at g; cases g) (fun e => by
        obtain ⟨v, g⟩ := X6.m
        rw [e, hh] at g; cases g) fun v hv => by
        obtain ⟨v, g⟩ := X6.m
        obtain ⟨gs, g', _⟩ := hv
        rw [g'] at g; cases g
    have XR : Lx cp ct cr cm (upT T x (recI T B z o0 o L hid)) (ext G σ3.H (x :: fl :: hb :: L.map FE.o)) σ3.H ts pl rl bo ch b it ma rs (B + 3) :=
      ⟨(X6.cx.reg gx sts spl ok).mono (by omega) (by omega), X6.p, X6.t, X6.r, X6.m, ext_none X6.gm scm, ext_none X6.gr srl⟩
    have hTx : upT T x (recI T B z o0 o L hid) x = some (recI T B z o0 o L hid) := upT_self
    have hti : (recI T B z o0 o L hid).rank = B + 3 ∧ (recI T B z o0 o L hid).size = z ∧ (recI T B z o0 o L hid).kind.isRec = true ∧ (recI T B z o0 o L hid).kind.ch.length ≤ B + 1 := ⟨rfl, rfl, rfl, hchl⟩
    generalize upT T x (recI T B z o0 o L hid) = T2 at XR hTx
    generalize ext G σ3.H (x :: fl :: hb :: L.map FE.o) = G2 at XR
    generalize recI T B z o0 o L hid = ti at hTx hti
    obtain ⟨ti1, ti2, ti3, ti4⟩ := hti
    have hr := XR.r
    walk_at "ev"
    -- into the records
    refine Exs.cons (Ex1.join (fun σ' => σ'.m "made" = some (.ref x) ∧ ∃ rs', Lx cp ct cr cm T2 G2 σ'.H ts pl rl bo ch b it ma rs' (B + 3) ∧ rs'.length ≤ rs.length + 1) ?_ ?_)
    · intro PJ hPJ
      repeat walk_at "ev"
      refine Att.t_size o1 tx6 ?_
      repeat walk_at "ev"
      refine ⟨_, rfl, ite_b (fun e => ?_) fun e => ?_⟩
      · have e8 : z ≤ 24 := by
          have := of_decide_eq_true e
          have : (z : Int) ≤ 24 := this
          omega
        repeat walk_at "ev"
        refine ⟨rl, _, rfl, XR.cx.frl, ?_⟩
        repeat walk_at "ev"
        refine CallA.append XR.cx.frl (by rw [List.length_map]; omega) ⟨rfl, ?_⟩
        repeat walk_at "ev"
        exact ⟨m1, _, XR.push hTx ti3 (by omega) (by omega) (by omega) (by omega), by rw [List.length_append]; simp⟩
      · repeat walk_at "ev"
        exact ⟨m1, rs, XR, by omega⟩
    clear m1 hr XR X6 tx6 hh hfl6 ob6 nS sts spl srl scm
    rintro σ4 ⟨m1, rs', X4, hrs'⟩
    -- the marks
    walk_at "ev"
    refine Exs.cons (Ex1.assignC o1 (c := cm) (loc_of o2 (by rfl)) (cl_of o3 (by rfl)) ?_ (by rfl))
    walk_at "call"
    repeat walk_at "ev"
    refine mk_all X4.cx.wf (B + 4) φ _ _ x ti o1 (hroom.mono (by omega)) hTx (by omega) X4.cx.le fun r H5 r0 l5 hr5 => ?_
    have X5 := X4.le l5
    obtain ⟨mv, hmv⟩ := X5.m
    refine ⟨⟨mv, hmv⟩, ?_⟩
    have X6 := X5.mark hn1 hn2 hn3 (some (.ref r))
    have nrc : r ≠ cm := fun e => by rw [e, hmv] at hr5; cases hr5
    have hm6 : hset H5 cm (.cell (some (.ref r))) cm = some (.cell (some (.ref r))) := hset_self
    have hr6 := (hset_ne (H := H5) (o := .cell (some (.ref r))) nrc).trans hr5
    have gd := (X4.cx.wf _ _ hTx).gd
    have hml : ti.marks.length ≤ 100 := by rw [gd.len]; exact gd.big
    repeat walk_at "ev"
    walk_at "call"
    repeat walk_at "ev"
    refine po_all X6.cx.wf (B + 4) φ _ _ x ti o1 (hroom.mono (by omega)) hTx (by omega) X6.cx.le fun r2 H7 r20 l7 hr7 => ?_
    have X7 := X6.le l7
    have hm7 := l7 _ _ hm6
    have hr7' := l7 _ _ hr6
    refine Ev.comp (p := ⟨0, 0, 0, 0⟩) o1 (clos_of o3 (fun _ _ _ _ _ => by rfl)) (by decide) (by rfl) (by decide) (by rfl) ?_ (by intro _; rfl)
    refine comp_iter (fun v σ' => ∃ (rr : Addr), v = .ref rr ∧ σ'.H rr = some (.rng 0 (ti.marks.length : Nat)) ∧ Le H7 σ'.H) ?_ ?_
    · walk_at "call"
      repeat walk_at "ev"
      walk_at "call"
      repeat walk_at "ev"
      refine CallA.len hr7' (by rw [ml_length]; omega) ?_
      rw [ml_length]
      repeat walk_at "ev"
      refine CallA.range fun ra hra => ?_
      exact ⟨ra, rfl, hset_self, Le.new Le.rfl' hra⟩
    · rintro v0 σ5 ⟨rr, e, hrr, l8⟩
      obtain rfl := er_ref e
      refine ⟨rngL 0 (ti.marks.length : Nat), _, _, fun i ys σ' => σ' = σ5 ∧ ys = nl ((List.range i).filter fun s => ti.marks[s]? == some true), Src.rng (by decide) (by decide) (by omega) (by omega), hrr, ⟨rfl, rfl⟩, ?_, by rw [rngL_length]; omega, ?_, ?_⟩
      · rintro i ys σ' ⟨rfl, rfl⟩
        refine ⟨trivial, ?_⟩
        rw [nl_length]
        exact Nat.le_trans (List.length_filter_le _ _) (by rw [List.length_range]; exact Nat.le_refl _)
      · rintro i a ys σ' C oC hai ⟨rfl, rfl⟩ hC
        obtain ⟨rfl, hlt⟩ := rngL_get hai
        have hil : i < ti.marks.length := by omega
        have ofx := ok_fix o1 ((C, oC) :: φ.fix)
        have hm8 := l8 _ _ hm7
        have hr8 := l8 _ _ hr7'
        have er1 : (List.range (i + 1)).filter (fun s => ti.marks[s]? == some true) = (List.range i).filter (fun s => ti.marks[s]? == some true) ++ (if ti.marks[i] = true then [i] else []) := by
          rw [List.range_succ, List.filter_append]
          congr 1
          rw [List.filter_cons, List.filter_nil, List.getElem?_eq_getElem hil]
          cases ti.marks[i] <;> rfl
        refine tests_one ?_
        repeat first | walk_at "ec" | walk_at "ev"
        refine ⟨r, _, _, mk1 ti.marks[i], rfl, rfl, hr8, lget_nat (map_get (L := ti.marks) mk1 (List.getElem?_eq_getElem hil)), by rw [ml_length]; omega, ?_⟩
        unfold mk1
        repeat first | walk_at "ec" | walk_at "ev"
        refine ⟨_, rfl, ?_⟩
        cases hb : ti.marks[i] with
        | true =>
          rw [if_pos (by decide)]
          repeat first | walk_at "ec" | walk_at "ev"
          refine ⟨rfl, ?_⟩
          rw [er1, hb, if_pos rfl, nl_append]; rfl
        | false =>
          rw [if_neg (by decide)]
          refine ⟨rfl, ?_⟩
          rw [er1, hb, if_neg Bool.false_ne_true, List.append_nil]
      · rintro ys σ' ⟨rfl, rfl⟩ c hc
        rw [rngL_length, Int.toNat_natCast]
        have l9 := fun o => Le.new (o := o) (Le.rfl' (G := σ'.H)) hc
        refine Cmp.neL (xs := (posOf ti.marks).map Int.ofNat) (ys := (posOf ti.marks).map Int.ofNat) ?_ ?_ hroom.un ?_
        · rw [← nl_ints]; exact l9 _ _ _ (l8 _ _ hr7)
        · rw [← nl_ints]; exact hset_self
        · refine ⟨_, rfl, ite_f (by simp) ?_⟩
          repeat walk_at "ev"
          exact h _ T2 G2 rs' ((X7.le l8).le (l9 _)) hrs'⟩
end
section
variable {w : World} {mean : ExcName → Option Value} {mg mb : Str → Option Value}
theorem lawLoop : ∃ body scope, IsLaw w mean mg mb body scope ∧ ∀ (φ : Fx) (σ : St) (Q : AF → St → Prop) (T : Addr → Option TI) (G : Addr → Option AO) (cp ct cr cm ts pl rl bo ch b it ma : Addr) (rs : List Addr) (B : Nat),
    φ.Ok (WX w mean mg mb) → Room φ 60 → φ.cs = scope → φ.cl = [(Str.ofString "marks", cm), (Str.ofString "records", cr), (Str.ofString "types", ct), (Str.ofString "pool", cp)] → Lx cp ct cr cm T G σ.H ts pl rl bo ch b it ma rs B → B ≤ 12 → rs.length ≤ 10 → cm ≠ cp → cm ≠ ct → cm ≠ cr →
    (∀ σ' T' G' rs', Lx cp ct cr cm T' G' σ'.H ts pl rl bo ch b it ma rs' (B + 3) → rs'.length ≤ rs.length + 1 → Q .next σ') → Exs (WX w mean mg mb) φ (lbody body) Q σ := by
  exact ⟨_, _, ⟨_, _, _, _, _, _, _, _, _, _, _, _, _, by show List.lookup _ (hd.heap_1 _) = _; k_is⟩, by
    intro φ σ Q T G cp ct cr cm ts pl rl bo ch b it ma rs B o1 hroom o2 o3 X hB hrs hn1 hn2 hn3 h
    simp only [lbody, List.drop_succ_cons, List.drop_zero]
    obtain ⟨fs, hts, hS⟩ := X.cx.s
    obtain ⟨cn, hcn⟩ := hS.cnt
    have hp := X.p
    have ht := X.t
    have hr := X.r
    -- made = types.new('record', 0)
    repeat walk_at "ev"
    walk_at "call"
    repeat walk_at "ev"
    refine ⟨ts, 180, _, 170, rfl, hts, hS.new, mOk_new, ?_⟩
    repeat walk_at "ev"
    refine new_spec o1 (hroom.mono (by omega) : Room φ 3) hts hcn hS.short fun x fa ha H1 x0 tx fa0 fae ha0 hae d1 d2 d3 kp ets => ?_
    have X1 := X.cnt hts ets kp
    have gx : G x = none := X.cx.le.none x0
    have gfa : G fa = none := X.cx.le.none fa0
    have gha : G ha = none := X.cx.le.none ha0
    clear hp ht hr
    have hp := X1.p
    have ht := X1.t
    have hr := X1.r
    walk_at "ev"
    -- its base
    have nha : ha ≠ ts ∧ ha ≠ pl ∧ ha ≠ rl := by
      refine ⟨fun e => ?_, fun e => ?_, fun e => ?_⟩
      · rw [e, hts] at ha0; cases ha0
      · obtain ⟨_, _, _, _, _, _, g, _⟩ := X.cx.p
        rw [e, g] at ha0; cases ha0
      · rw [e, X.cx.frl] at ha0; cases ha0
    refine Exs.cons (Ex1.join (fun σ' => σ'.m "made" = some (.ref x) ∧ ∃ o : Option Addr, TyAt σ'.H x ⟨"record", 0, o, 0, fa, 0, ha⟩ ∧ (∀ y, o = some y → y ∈ rs) ∧ Lx cp ct cr cm T G σ'.H ts pl rl bo ch b it ma rs B ∧ σ'.H ha = some (.lst [])) ?_ ?_)
    · intro PJ hPJ
      repeat walk_at "ev"
      refine ⟨by decide, fun a haf => ?_⟩
      have X2 := X1.le (Le.new (o := .lst []) Le.rfl' haf)
      have l2 := fun o => Le.new (o := o) (Le.rfl' (G := H1)) haf
      refine Cmp.neNil X2.cx.frl hset_self hroom.un ?_
      refine ⟨_, rfl, ite_b (fun e0 => ?_) fun e0 => ?_⟩
      · clear hp ht hr
        have hp := X2.p
        have ht := X2.t
        have hr := X2.r
        repeat walk_at "ev"
        walk_at "call"
        repeat walk_at "ev"
        refine law_pick_spec o1 (hroom.mono (by omega) : Room φ 2) X2.cx.p (by decide) fun r H3 hr2 hp3 k3 => ?_
        have X3 := X2.pool hp3 k3
        have K3 : Kp ts pl (hset H1 a (.lst [])) H3 := fun y _ hy => k3 y hy
        have tx3 := kp_ty X2.cx K3 ((l2 _).ty tx)
        repeat walk_at "ev"
        refine ⟨_, rfl, ite_b (fun e => ?_) fun e => ?_⟩
        · clear hp ht hr
          have hp := X3.p
          have ht := X3.t
          have hr := X3.r
          repeat walk_at "ev"
          rw [if_pos rfl]
          repeat walk_at "ev"
          walk_at "call"
          repeat walk_at "ev"
          walk_at "call"
          repeat walk_at "ev"
          have hrn := X3.cx.rn
          refine CallA.len X3.cx.frl (by rw [List.length_map]; omega) ?_
          have hrp : 0 < rs.length := by
            cases rs with
            | nil => simp at e0
            | cons => simp
          repeat walk_at "ev"
          refine law_pick_spec o1 (hroom.mono (by omega) : Room φ 2) X3.cx.p (by rw [List.length_map]; omega) fun q H4 hq hp4 k4 => ?_
          rw [List.length_map] at hq
          have X4 := X3.pool hp4 k4
          have K4 : Kp ts pl H3 H4 := fun y _ hy => k4 y hy
          have tx4 := kp_ty X3.cx K4 tx3
          have hql : q < rs.length := by omega
          refine ⟨rl, _, _, .ref rs[q], rfl, rfl, X4.cx.frl, lget_nat (map_get AV.ref (List.getElem?_eq_getElem hql)), by rw [List.length_map]; omega, ?_⟩
          repeat walk_at "ev"
          refine SetAtt.t_base o1 (some rs[q]) tx4 fun H5 tx5 k5 => ?_
          have X5 := X4.obj tx4 gx k5
          have ha5 := (k5 ha (Ne.symm d2)).trans (k4 ha nha.2.1 _ (k3 ha nha.2.1 _ (l2 _ _ _ hae)))
          repeat walk_at "ev"
          exact ⟨rfl, _, tx5, fun y hy => by obtain rfl := Option.some.inj hy; exact List.getElem_mem hql, X5, ha5⟩
        · repeat walk_at "ev"
          rw [if_neg Bool.false_ne_true]
          repeat walk_at "ev"
          exact ⟨rfl, none, tx3, (fun y hy => by cases hy), X3, k3 ha nha.2.1 _ (l2 _ _ _ hae)⟩
      · rw [if_neg Bool.false_ne_true]
        repeat walk_at "ev"
        exact ⟨rfl, none, (l2 _).ty tx, (fun y hy => by cases hy), X2, l2 _ _ _ hae⟩
    clear hp ht hr X1
    rintro σ1 ⟨m1, o, tx1, ho, X1, ha1⟩
    have hp := X1.p
    have ht := X1.t
    have hr := X1.r
    -- its fields
    repeat walk_at "ev"
    refine Ev.comp (p := ⟨0, 0, 0, 0⟩) o1 (clos_of o3 (fun _ _ _ _ _ => by rfl)) (by decide) (by rfl) (by decide) (by rfl) ?_ (by intro _; rfl)
    refine comp_iter (fun v σ' => ∃ (rr : Addr) (q : Nat), v = .ref rr ∧ q < 4 ∧ σ'.m = σ1.m ∧ σ'.H rr = some (.rng 0 q) ∧ TyAt σ'.H x ⟨"record", 0, o, 0, fa, 0, ha⟩ ∧ Lx cp ct cr cm T G σ'.H ts pl rl bo ch b it ma rs B ∧ σ'.H ha = some (.lst [])) ?_ ?_
    · walk_at "call"
      repeat walk_at "ev"
      walk_at "call"
      repeat walk_at "ev"
      refine law_pick_spec o1 (hroom.mono (by omega) : Room φ 2) X1.cx.p (by decide) fun q H2 hq hp2 k2 => ?_
      have X2 := X1.pool hp2 k2
      have K2 : Kp ts pl σ1.H H2 := fun y _ hy => k2 y hy
      repeat walk_at "ev"
      refine CallA.range fun ra hra => ?_
      have l3 := fun o => Le.new (o := o) (Le.rfl' (G := H2)) hra
      exact ⟨ra, q, rfl, by omega, rfl, hset_self, (l3 _).ty (kp_ty X1.cx K2 tx1), X2.le (l3 _), l3 _ _ _ (k2 ha nha.2.1 _ ha1)⟩
    · rintro v0 σ2 ⟨rr, q, e, hq4, em, hrr, tx2, X2, ha2⟩
      obtain rfl := er_ref e
      refine ⟨rngL 0 q, _, _, fun i ys σ' => σ'.m = σ2.m ∧ ∃ (T' : Addr → Option TI) (G' : Addr → Option AO) (L : List FE), Lx cp ct cr cm T' G' σ'.H ts pl rl bo ch b it ma rs B ∧ Gw T G σ2.H T' G' ∧ Kp ts pl σ2.H σ'.H ∧ ys = L.map (fun f : FE => AV.ref f.o) ∧ L.length = i ∧ FObs T' G' σ'.H B L ∧ ∀ f ∈ L, σ2.H f.o = none,
        Src.rng (by decide) (by decide) (by omega) (by omega), hrr, ⟨rfl, T, G, [], X2, Gw.refl, Kp.refl, rfl, rfl, FObs.nil, fun f hf => absurd hf (by simp)⟩, ?_, by rw [rngL_length]; omega, ?_, ?_⟩
      · rintro i ys σ' ⟨_, T', G', L, _, _, _, rfl, hl, _⟩
        exact ⟨trivial, by rw [List.length_map]; omega⟩
      · rintro i a ys σ3 C oC hai ⟨em3, T', G', L, X3, g3, k3, rfl, hl, F3, hf3⟩ hC
        have ofx := ok_fix o1 ((C, oC) :: φ.fix)
        have rfx : Room (φ.withFix ((C, oC) :: φ.fix)) 60 := hroom
        have hp := X3.p
        have ht := X3.t
        have hr := X3.r
        refine tests_nil ?_
        repeat first | walk_at "ec" | walk_at "ev"
        refine law_shape_spec ofx (rfx.mono (by omega)) X3.cx fun t ti T4 G4 H4 C4 g4 t1 t2 t3 k4 => ?_
        have X4 := X3.go C4 g4 k4
        have F4 := F3.go X3.cx g4 k4
        repeat walk_at "ev"
        refine Obj_spec ofx (rfx.mono (by omega) : Room _ 2) fun x5 H5 x50 ob5 l5 => ?_
        refine ⟨em3, T4, G4, L ++ [⟨x5, _, ti⟩], X4.le l5, g3.trans (X2.cx.up X3.cx k3) g4, k3.trans (k4.trans l5.kp), by rw [List.map_append]; rfl, by rw [List.length_append, hl]; rfl, F4.snoc x50 C4.le l5 ob5 t1 t3 t2, fun f hf => ?_⟩
        rcases List.mem_append.mp hf with hf | hf
        · exact hf3 f hf
        · obtain rfl := List.mem_singleton.mp hf
          exact X2.cx.up C4 (k3.trans k4) x5 x50
      · rintro ys σ3 ⟨em3, T1, G1, L, X3, g3, k3, rfl, hl, F3, hf3⟩ fl hfl
        clear hp ht hr
        rw [rngL_length] at hl
        have hl3 : L.length ≤ 3 := by omega
        have mm : σ3.m "made" = some (.ref x) := by rw [em3, em]; exact m1
        have tx3 := kp_ty X2.cx k3 tx2
        have ha3 := k3 ha nha.1 nha.2.1 _ ha2
        have gx1 : G1 x = none := g3.keepNone gx (by obtain ⟨gs, e, _⟩ := tx2; rw [e]; simp)
        have gha1 : G1 ha = none := g3.keepNone gha (by rw [ha2]; simp)
        have gfl1 : G1 fl = none := X3.cx.le.none hfl
        have l4 := fun o => Le.new (o := o) (Le.rfl' (G := σ3.H)) hfl
        repeat walk_at "ev"
        refine SetAtt.t_fields o1 fl ((l4 _).ty tx3) fun H4 tx4 k4 => ?_
        have X4 := (X3.le (l4 (.lst (L.map fun f : FE => AV.ref f.o)))).obj ((l4 _).ty tx3) gx1 k4
        have F4 := (F3.le (l4 (.lst (L.map fun f : FE => AV.ref f.o)))).ty ((l4 _).ty tx3) k4
        have nfx : fl ≠ x := fun e => by
          obtain ⟨gs, g, _⟩ := tx3
          rw [← e, hfl] at g; cases g
        have hfl4 := (k4 fl nfx).trans (hset_self (H := σ3.H) (o := .lst (L.map fun f : FE => AV.ref f.o)))
        have ha4 := (k4 ha (Ne.symm d2)).trans (l4 (.lst (L.map fun f : FE => AV.ref f.o)) _ _ ha3)
        have nfh : fl ≠ ha := fun e => by rw [e, ha3] at hfl; cases hfl
        have nfl : fl ≠ ts ∧ fl ≠ pl ∧ fl ≠ rl := by
          refine ⟨fun e => ?_, fun e => ?_, fun e => ?_⟩
          · obtain ⟨_, g, _⟩ := X3.cx.s
            rw [e, g] at hfl; cases hfl
          · obtain ⟨_, _, _, _, _, _, g, _⟩ := X3.cx.p
            rw [e, g] at hfl; cases hfl
          · rw [e, X3.cx.frl] at hfl; cases hfl
        obtain ⟨b2, s2, i2, h2⟩ := lawLoop2 (w := w) (mean := mean) (mg := mg) (mb := mb)
        obtain ⟨rfl, rfl⟩ := i2.eq ⟨_, _, _, _, _, _, _, _, _, _, _, _, _, by show List.lookup _ (hd.heap_1 _) = _; k_is⟩
        exact h2 φ ⟨(σ3.put fl (.lst (L.map fun f : FE => AV.ref f.o))).m, H4⟩ Q T1 G1 cp ct cr cm ts pl rl bo ch b it ma rs B x fl ha o L o1 hroom o2 o3 X4 hB hrs hn1 hn2 hn3 mm tx4 ho F4 hl3 hfl4 ha4 gx1 gfl1 gha1 nfh nfl nha h⟩
end
section
variable {W : Wd} {φ : Fx} {σ : St} {Q : AV → St → Prop} {env : Env}
theorem Ev.cmp2 {l r r' : Expr} {op op' : CmpOp} {pos : Pos} (h : Ev W φ env l (fun x σ₁ => Ev W φ env r (fun y σ₂ => Cmp W φ op x y (fun c σ₃ => ∃ b, c = .bool b ∧ if b = true then Ev W φ env r' (fun z σ₄ => Cmp W φ op' y z Q σ₄) σ₃ else Q (.bool false) σ₃) σ₂) σ₁) σ)
    (hm : lastMarks [op, op'] [r, r'] = false) : Ev W φ env (.Compare l [op, op'] [r, r'] pos) Q σ := fun R s hR =>
  Compare_chain (wpr (h R s hR) (fun a σ₁ h₁ tk₁ r₁ q₁ => by
    refine chain_link (wpr (q₁ R _ r₁) (fun b σ₂ h₂ tk₂ r₂ q₂ => ?_))
    refine wpr (q₂ a b rfl rfl R _ r₂) (fun c σ₃ h₃ tk₃ r₃ q₃ => ?_)
    obtain ⟨b', eb, q₃⟩ := q₃
    rw [er_bool eb]
    refine wpAny_truthy_bool ?_
    cases b' with
    | true =>
      rw [if_pos rfl] at q₃ ⊢
      refine chain_last (wpr (q₃ R _ r₃) (fun d σ₄ h₄ tk₄ r₄ q₄ => ?_))
      exact (q₄ b d rfl rfl R { s with heap := h₄, toks := tk₄ } r₄)
    | false =>
      rw [if_neg Bool.false_ne_true] at q₃ ⊢
      exact ⟨σ₃, h₃, tk₃, rfl, r₃, q₃⟩)) hm
end
theorem sw_of {φ : Fx} {sc : Scope} {e : Expr} {t : Option Expr} {n : Nat} {b : Bool} (h : φ.cs = sc) (k : ∀ cn L a ccd cl, swapsWith e t n (envX cn sc L a ccd cl) = Pure.pure b) : swapsWith e t n φ.env = Pure.pure b := by
  show swapsWith e t n (envX φ.cn φ.cs φ.L φ.a φ.ccd φ.cl) = _
  rw [h]; exact k ..
theorem alignN_lt (s st : Nat) (h : st = 1 ∨ st = 4) : alignN s st < s + 4 ∧ alignN s st % st = 0 := by
  unfold alignN; rcases h with rfl | rfl <;> omega
theorem Gd.st0 {ti : TI} (g : Gd ti) : (ti.step : Int) ≠ 0 := by have := g.st; omega
section
variable {w : World} {mean : ExcName → Option Value} {mg mb : Str → Option Value}
theorem lawD : ∃ body scope, IsLaw w mean mg mb body scope ∧ ∀ (φ : Fx) (σ : St) (Q : AF → St → Prop) (T : Addr → Option TI) (G : Addr → Option AO) (cp ct cr cm sl : Addr) (B : Nat) (shp : List (Addr × TI)),
    φ.Ok (WX w mean mg mb) → Room φ 60 → φ.cs = scope → φ.cl = [(Str.ofString "marks", cm), (Str.ofString "records", cr), (Str.ofString "types", ct), (Str.ofString "pool", cp)] → WF T G → Le G σ.H →
    σ.m "shapes" = some (.ref sl) → σ.H sl = some (.lst (shp.map fun p : Addr × TI => AV.ref p.1)) → (∀ p ∈ shp, T p.1 = some p.2 ∧ p.2.rank ≤ B + 2 ∧ p.2.size ≤ 24) → shp.length ≤ 5 →
    (∀ σ', Q (.ret (.bool true)) σ') → Exs (WX w mean mg mb) φ (body.drop 18) Q σ := by
  exact ⟨_, _, ⟨_, _, _, _, _, _, _, _, _, _, _, _, _, by show List.lookup _ (hd.heap_1 _) = _; k_is⟩, by
    intro φ σ Q T G cp ct cr cm sl B shp o1 hroom o2 o3 hW hG m1 hsl hT hsl5 h
    simp only [List.drop_succ_cons, List.drop_zero]
    -- locals_of
    refine Exs.cons (Ex1.assignComp o1 (sw_of o2 (fun _ _ _ _ _ => by rfl)) (clos_of o3 (fun _ _ _ _ _ => by rfl)) (by decide) (by rfl) (by decide) (by rfl) (loc_of o2 (by rfl)) ?_ (by intro _; rfl))
    refine comp_iter (fun v σ' => v = .ref sl ∧ σ' = σ) ?_ ?_
    · repeat walk_at "ev"
      exact ⟨rfl, rfl⟩
    rintro v0 σ1 ⟨e, rfl⟩
    obtain rfl := er_ref e
    refine ⟨shp.map (fun p : Addr × TI => AV.ref p.1), _, _, fun i ys σ' => σ'.m = σ1.m ∧ ∃ L : List FE, Le σ1.H σ'.H ∧ ys = L.map (fun f => AV.ref f.o) ∧ L.length = i ∧ FObs T G σ'.H B L ∧ ∀ f ∈ L, f.ov.kind = "var" ∧ f.ov.isparam = false,
      Src.list, hsl, ⟨rfl, [], Le.rfl', rfl, rfl, FObs.nil, fun f hf => absurd hf (by simp)⟩, ?_, by rw [List.length_map]; omega, ?_, ?_⟩
    · rintro i ys σ' ⟨_, L, l, rfl, hl, _⟩
      exact ⟨l _ _ hsl, by rw [List.length_map]; omega⟩
    · rintro i a ys σ2 C oC hai ⟨em, L, l2, rfl, hl, F2, hk2⟩ hC
      have ofx := ok_fix o1 ((C, oC) :: φ.fix)
      have rfx : Room (φ.withFix ((C, oC) :: φ.fix)) 60 := hroom
      rw [List.getElem?_map] at hai
      cases hi : shp[i]? with
      | none => rw [hi] at hai; cases hai
      | some p =>
        rw [hi] at hai
        obtain rfl := Option.some.inj hai
        obtain ⟨t1, t2, t3⟩ := hT p (List.mem_of_getElem? hi)
        refine tests_nil ?_
        repeat first | walk_at "ec" | walk_at "ev"
        refine Obj_spec ofx (rfx.mono (by omega) : Room _ 2) fun x3 H3 x30 ob3 l3 => ?_
        refine ⟨em, L ++ [⟨x3, _, p.2⟩], l2.trans l3, by rw [List.map_append]; rfl, by rw [List.length_append, hl]; rfl, F2.snoc x30 (hG.trans l2) l3 ob3 t1 t2 t3, fun f hf => ?_⟩
        rcases List.mem_append.mp hf with hf | hf
        · exact hk2 f hf
        · obtain rfl := List.mem_singleton.mp hf
          exact ⟨rfl, rfl⟩
    rintro ys σ2 ⟨em, L, l2, rfl, hl, F2, hk2⟩ lo hlo
    have l3 := fun o => Le.new (o := o) (Le.rfl' (G := σ2.H)) hlo
    rw [List.length_map] at hl
    -- used_x
    walk_at "ev"
    repeat walk_at "ev"
    walk_at "call"
    repeat walk_at "ev"
    refine place_locals_spec o1 (hroom.mono (by omega) : Room φ 4) hW ((hG.trans l2).trans (l3 _)) hset_self (fun f hf => ?_) F2.nd (by omega) fun H4 g4 kp4 ob4 => ?_
    · obtain ⟨h1, h2, _, _, h5⟩ := F2.at_ f hf
      exact ⟨(l3 _).ob h1, h2, h5, hk2 f hf⟩
    have hlo4 := kp4 lo (fun hm => by
      obtain ⟨f, hf, e⟩ := List.mem_map.mp hm
      obtain ⟨gs, g, _⟩ := (F2.at_ f hf).1
      have hlo' : σ2.H lo = none := hlo
      rw [e, hlo'] at g; cases g) _ hset_self
    have hgd : ∀ f ∈ L, Gd f.ti := fun f hf => (hW _ _ (F2.at_ f hf).2.1).gd
    generalize hu : usedL 0 (L.map FE.zs) = u
    repeat walk_at "ev"
    refine Ex1.forL o1 (loc_of o2 (by rfl)) (fun i σ' => σ'.m "used_x" = some (.int (wwN u : Nat)) ∧ σ'.m "top" = some (.int (-8 - (usedL 0 ((L.map FE.zs).take i) : Nat))) ∧ Le H4 σ'.H) ?_ (by intro _; rfl)
    repeat walk_at "ev"
    refine ⟨lo, L.map (fun f : FE => AV.ref f.o), rfl, hlo4, ⟨rfl, by rfl, Le.rfl'⟩, fun i σ' hJ => hJ.2.2 _ _ hlo4, ?_, ?_⟩
    · rintro i a σ3 hai ⟨n1, n2, k3⟩
      intro JN hJN
      rw [List.getElem?_map] at hai
      cases hi : L[i]? with
      | none => rw [hi] at hai; cases hai
      | some f =>
        rw [hi] at hai
        obtain rfl := Option.some.inj hai
        have hmem := List.mem_of_getElem? hi
        have ob := ob4 i f hi
        have hzs : (L.map FE.zs)[i]? = some (f.ti.size, f.ti.step) := by rw [List.getElem?_map, hi]; rfl
        have eu := usedL_take_succ (o := 0) hzs
        have hTf := (F2.at_ f hmem).2.1
        have gd := hgd f hmem
        obtain ⟨vt, hvt, hvf, hvz⟩ := hW.ty hTf
        have a1 := alignN_le (usedL 0 ((L.map FE.zs).take i) + f.ti.size) f.ti.step gd.st
        have a2 := alignN_lt (usedL 0 ((L.map FE.zs).take i) + f.ti.size) f.ti.step gd.st
        rw [← eu] at a1 a2
        generalize usedL 0 ((L.map FE.zs).take i) = u0 at n2 a1 a2
        generalize hu1 : usedL 0 ((L.map FE.zs).take (i + 1)) = u1 at ob a1 a2
        repeat walk_at "ev"
        refine Att.o_offset o1 (k3.ob ob) ?_
        walk_at "call"
        repeat walk_at "ev"
        refine Att.o_type o1 (k3.ob ob) ?_
        repeat walk_at "ev"
        refine law_step_spec o1 (hroom.mono (by omega) : Room φ 1) hW hTf (g4.trans k3) fun H5 l5 => ?_
        have k5 := k3.trans l5
        refine Bin.mod gd.st0 ?_
        repeat walk_at "ev"
        have hmod : (-8 - (u1 : Int)).fmod (f.ti.step : Nat) = 0 := by
          rw [Int.fmod_eq_emod_of_nonneg _ (by omega)]
          rcases gd.st with e | e
          · rw [e]; omega
          · rw [e] at a2 ⊢; omega
        refine ⟨_, rfl, ite_f (by show ((-8 - (u1 : Int)).fmod (f.ti.step : Nat) != 0) = false; rw [hmod]; rfl) ?_⟩
        repeat walk_at "ev"
        refine Att.o_offset o1 (k5.ob ob) ?_
        repeat walk_at "ev"
        refine Att.o_type o1 (k5.ob ob) ?_
        refine Att.t_size o1 ((g4.trans k5).ty hvt) ?_
        rw [hvz]
        repeat walk_at "ev"
        refine ⟨_, rfl, ite_f (decide_eq_false (by show ¬ ((-8 - (u1 : Int)) + (f.ti.size : Nat) > _); omega)) ?_⟩
        repeat walk_at "ev"
        refine Att.o_offset o1 (k5.ob ob) ?_
        repeat walk_at "ev"
        refine Att.o_type o1 (k5.ob ob) ?_
        refine Att.t_size o1 ((g4.trans k5).ty hvt) ?_
        rw [hvz]
        repeat walk_at "ev"
        refine ⟨_, rfl, ite_f (decide_eq_false (by show ¬ (_ - (-8 - (u1 : Int)) - (f.ti.size : Nat) ≥ _); omega)) ?_⟩
        repeat walk_at "ev"
        rw [if_neg Bool.false_ne_true]
        repeat walk_at "ev"
        refine Att.o_offset o1 (k5.ob ob) ?_
        repeat walk_at "ev"
        exact ⟨n1, by rw [hu1]; rfl, k5⟩
    · rintro σ3 ⟨n1, n2, k3⟩
      have et : (L.map FE.zs).take (L.map (fun f : FE => AV.ref f.o)).length = L.map FE.zs := List.take_of_length_le (by simp)
      rw [et, hu] at n2
      have hw1 : wwN u % 4 = 0 ∧ u ≤ wwN u ∧ wwN u < u + 4 := by unfold wwN; omega
      repeat walk_at "ev"
      refine Ev.and2 ?_
      repeat walk_at "ev"
      refine ⟨_, rfl, ite_t (by have e := fmod_nat (wwN u) 4; rw [hw1.1] at e; exact beq_iff_eq.mpr e) ?_⟩
      refine Ev.cmp2 ?_ (by rfl)
      repeat walk_at "ev"
      refine ⟨_, rfl, ite_t (decide_eq_true (by omega)) ?_⟩
      repeat walk_at "ev"
      rw [decide_eq_true (by omega)]
      exact h _⟩
end
section
variable {w : World} {mean : ExcName → Option Value} {mg mb : Str → Option Value}
theorem lawB : ∃ body scope, IsLaw w mean mg mb body scope ∧ ∀ (φ : Fx) (σ : St) (Q : AF → St → Prop) (T : Addr → Option TI) (G : Addr → Option AO) (cp ct cr cm ts pl rl bo ch b it ma sl : Addr) (rs : List Addr) (B : Nat) (shp : List (Addr × TI)),
    φ.Ok (WX w mean mg mb) → Room φ 60 → φ.cs = scope → φ.cl = [(Str.ofString "marks", cm), (Str.ofString "records", cr), (Str.ofString "types", ct), (Str.ofString "pool", cp)] → Lx cp ct cr cm T G σ.H ts pl rl bo ch b it ma rs B →
    σ.m "shapes" = some (.ref sl) → σ.H sl = some (.lst (shp.map fun p : Addr × TI => AV.ref p.1)) → sl ≠ ts → sl ≠ pl → (∀ p ∈ shp, T p.1 = some p.2 ∧ p.2.rank ≤ B + 2 ∧ p.2.size ≤ 24) → shp.length ≤ 5 →
    (∀ σ', Lx cp ct cr cm T G σ'.H ts pl rl bo ch b it ma rs B → σ'.m "shapes" = some (.ref sl) → σ'.H sl = some (.lst (shp.map fun p : Addr × TI => AV.ref p.1)) → Exs (WX w mean mg mb) φ (body.drop 10) Q σ') → Exs (WX w mean mg mb) φ (body.drop 6) Q σ := by
  exact ⟨_, _, ⟨_, _, _, _, _, _, _, _, _, _, _, _, _, by show List.lookup _ (hd.heap_1 _) = _; k_is⟩, by
    intro φ σ Q T G cp ct cr cm ts pl rl bo ch b it ma sl rs B shp o1 hroom o2 o3 X m1 hsl ns1 ns2 hT hsl5 h
    simp only [List.drop_succ_cons, List.drop_zero] at h ⊢
    have hp := X.p
    -- start
    repeat walk_at "ev"
    walk_at "call"
    repeat walk_at "ev"
    refine law_pick_spec o1 (hroom.mono (by omega) : Room φ 2) X.cx.p (by decide) fun q H1 hq hp1 k1 => ?_
    have X1 := X.pool hp1 k1
    have hsl1 := k1 sl ns2 _ hsl
    refine Bin.mul (IntMulOk.of_left (by decide)) ?_
    rw [show (4 : Int) * (q : Int) = ((4 * q : Nat) : Int) by omega]
    clear hp
    -- globals_of
    refine thn_next ?_
    refine Exs.cons (Ex1.assignComp o1 (sw_of o2 (fun _ _ _ _ _ => by rfl)) (clos_of o3 (fun _ _ _ _ _ => by rfl)) (by decide) (by rfl) (by decide) (by rfl) (loc_of o2 (by rfl)) ?_ (by intro _; rfl))
    refine comp_iter (fun v σ' => v = .ref sl ∧ σ'.m = St.m ((⟨σ.m, H1⟩ : St).set "start" (.int ((4 * q : Nat) : Int))) ∧ σ'.H = H1) ?_ ?_
    · repeat walk_at "ev"
      exact ⟨rfl, rfl, rfl⟩
    rintro v0 σ1 ⟨e, em1, eH⟩
    obtain rfl := er_ref e
    subst eH
    refine ⟨shp.map (fun p : Addr × TI => AV.ref p.1), _, _, fun i ys σ' => σ'.m = σ1.m ∧ ∃ L : List FE, Kp ts pl σ1.H σ'.H ∧ Lx cp ct cr cm T G σ'.H ts pl rl bo ch b it ma rs B ∧ ys = L.map (fun f => AV.ref f.o) ∧ L.length = i ∧ FObs T G σ'.H B L,
      Src.list, hsl1, ⟨rfl, [], Kp.refl, X1, rfl, rfl, FObs.nil⟩, ?_, by rw [List.length_map]; omega, ?_, ?_⟩
    · rintro i ys σ' ⟨_, L, l, _, rfl, hl, _⟩
      exact ⟨l _ ns1 ns2 _ hsl1, by rw [List.length_map]; omega⟩
    · rintro i a ys σ2 C oC hai ⟨em, L, l2, X2, rfl, hl, F2⟩ hC
      have ofx := ok_fix o1 ((C, oC) :: φ.fix)
      have rfx : Room (φ.withFix ((C, oC) :: φ.fix)) 60 := hroom
      rw [List.getElem?_map] at hai
      cases hi : shp[i]? with
      | none => rw [hi] at hai; cases hai
      | some p =>
        rw [hi] at hai
        obtain rfl := Option.some.inj hai
        obtain ⟨t1, t2, t3⟩ := hT p (List.mem_of_getElem? hi)
        have hp := X2.p
        refine tests_nil ?_
        repeat first | walk_at "ec" | walk_at "ev"
        refine law_pick_spec ofx (rfx.mono (by omega) : Room _ 2) X2.cx.p (by decide) fun q3 H3 hq3 hp3 k3 => ?_
        have X3 := X2.pool hp3 k3
        have K3 : Kp ts pl σ2.H H3 := fun y _ hy => k3 y hy
        have F3 := F2.go X2.cx Gw.refl K3
        repeat first | walk_at "ec" | walk_at "ev"
        refine ⟨_, rfl, ite_b (fun e => ?_) fun e => ?_⟩
        all_goals
          repeat first | walk_at "ec" | walk_at "ev"
          refine Obj_spec ofx (rfx.mono (by omega) : Room _ 2) fun x4 H4 x40 ob4 l4 => ?_
          exact ⟨em, L ++ [⟨x4, _, p.2⟩], l2.trans (K3.trans l4.kp), X3.le l4, by rw [List.map_append]; rfl, by rw [List.length_append, hl]; rfl, F3.snoc x40 X3.cx.le l4 ob4 t1 t2 t3⟩
    rintro ys σ2 ⟨em, L, l2, X2, rfl, hl, F2⟩ lo hlo
    have l3 := fun o => Le.new (o := o) (Le.rfl' (G := σ2.H)) hlo
    rw [List.length_map] at hl
    have X3 := X2.le (l3 (.lst (L.map fun f : FE => AV.ref f.o)))
    have hsl3 := l3 (.lst (L.map fun f : FE => AV.ref f.o)) _ _ (l2 _ ns1 ns2 _ hsl1)
    have mst : σ2.m "start" = some (.int ((4 * q : Nat) : Int)) := by rw [em, em1]; rfl
    have msh : σ2.m "shapes" = some (.ref sl) := by rw [em, em1]; exact m1
    -- size
    walk_at "ev"
    repeat walk_at "ev"
    walk_at "call"
    repeat walk_at "ev"
    refine place_globals_spec o1 (hroom.mono (by omega) : Room φ 4) X3.cx.wf X3.cx.le hset_self (fun f hf => ?_) F2.nd (by omega) fun H4 g4 kp4 ob4 ob4' => ?_
    · obtain ⟨h1, h2, _, _, h5⟩ := F2.at_ f hf
      exact ⟨(l3 _).ob h1, h2, h5⟩
    have nL : ∀ {a v}, hset σ2.H lo (.lst (L.map fun f : FE => AV.ref f.o)) a = some (.lst v) → a ∉ L.map FE.o := fun {a v} e h => by
      obtain ⟨f, hf, rfl⟩ := List.mem_map.mp h
      exact ((l3 _).ob (F2.at_ f hf).1).ne_lst e rfl
    have hlo4 := kp4 lo (nL hset_self) _ hset_self
    have hsl4 := kp4 sl (nL hsl3) _ hsl3
    have X4 : Lx cp ct cr cm T G H4 ts pl rl bo ch b it ma rs B := X3.keep (fun a => a ∈ L.map FE.o) (fun a h => by
      obtain ⟨f, hf, rfl⟩ := List.mem_map.mp h
      exact ⟨(F2.at_ f hf).2.2.2.2, .inr ⟨_, (l3 _).ob (F2.at_ f hf).1⟩⟩) kp4
    have obk : ∀ f ∈ L, ∃ ov, ObAt H4 f.o ov ∧ ov.kind = f.ov.kind := fun f hf => by
      by_cases hv : isVar f = true
      · obtain ⟨j, hj⟩ := List.getElem?_of_mem (List.mem_filter.mpr ⟨hf, hv⟩)
        obtain ⟨a, _, h2⟩ := ob4 j f hj
        exact ⟨_, h2, rfl⟩
      · exact ⟨_, ob4' f hf (by simpa using hv), rfl⟩
    -- the check
    repeat walk_at "ev"
    walk_at "call"
    repeat walk_at "ev"
    refine Ev.comp (p := ⟨0, 0, 0, 0⟩) o1 (clos_of o3 (fun _ _ _ _ _ => by rfl)) (by decide) (by rfl) (by decide) (by rfl) ?_ (by intro _; rfl)
    refine comp_iter (fun v σ' => v = .ref lo ∧ σ'.m "shapes" = some (.ref sl) ∧ σ'.m "start" = some (.int ((4 * q : Nat) : Int)) ∧ σ'.m "size" = some (.int (wwN (endL (4 * q) ((L.filter isVar).map FE.zs)) : Nat)) ∧ σ'.H = H4) ?_ ?_
    · repeat walk_at "ev"
      exact ⟨rfl, msh, mst, rfl, rfl⟩
    rintro v0 σ5 ⟨e, n1, n2, n3, eH⟩
    obtain rfl := er_ref e
    subst eH
    refine ⟨L.map (fun f : FE => AV.ref f.o), _, _, fun i ys σ' => σ' = σ5 ∧ ys = ((L.take i).filter isVar).map (fun f : FE => AV.ref f.o), Src.list, hlo4, ⟨rfl, rfl⟩, ?_, by rw [List.length_map]; omega, ?_, ?_⟩
    · rintro i ys σ' ⟨rfl, rfl⟩
      refine ⟨hlo4, ?_⟩
      rw [List.length_map]
      exact Nat.le_trans (List.length_filter_le _ _) (by rw [List.length_take]; exact Nat.min_le_left _ _)
    · rintro i a ys σ' C oC hai ⟨rfl, rfl⟩ hC
      have ofx := ok_fix o1 ((C, oC) :: φ.fix)
      rw [List.getElem?_map] at hai
      cases hi : L[i]? with
      | none => rw [hi] at hai; cases hai
      | some f =>
        rw [hi] at hai
        obtain rfl := Option.some.inj hai
        obtain ⟨ov, ho1, ho2⟩ := obk f (List.mem_of_getElem? hi)
        have et : (L.take (i + 1)).filter isVar = (L.take i).filter isVar ++ (if isVar f = true then [f] else []) := by
          rw [List.take_add_one, hi, List.filter_append]
          congr 1
          cases hv : isVar f <;> simp [hv]
        refine tests_one ?_
        repeat first | walk_at "ec" | walk_at "ev"
        refine Att.o_kind ofx ho1 ?_
        rw [ho2]
        repeat first | walk_at "ec" | walk_at "ev"
        refine ⟨_, rfl, ?_⟩
        show if isVar f = true then _ else _
        cases hb : isVar f with
        | true =>
          rw [if_pos rfl]
          repeat first | walk_at "ec" | walk_at "ev"
          refine ⟨rfl, ?_⟩
          rw [et, hb, if_pos rfl, List.map_append]; rfl
        | false =>
          rw [if_neg Bool.false_ne_true]
          refine ⟨rfl, ?_⟩
          rw [et, hb, if_neg Bool.false_ne_true, List.append_nil]
    rintro ys σ' ⟨rfl, rfl⟩ c hc
    have eall : L.take (L.map (fun f : FE => AV.ref f.o)).length = L := List.take_of_length_le (by simp)
    rw [eall]
    have l6 := fun o => Le.new (o := o) (Le.rfl' (G := σ'.H)) hc
    repeat walk_at "ev"
    refine law_packed_spec o1 (hroom.mono (by omega) : Room φ 4) X4.cx.wf (X4.cx.le.trans (l6 _)) (L := plc (4 * q) (L.filter isVar)) (s0 := 4 * q) (by rw [plc_refs]; exact hset_self) (fun i f hi => ?_) (by rw [plc_length]; exact Nat.le_trans (List.length_filter_le _ _) (by omega)) fun H6 k6 => ?_
    · obtain ⟨g, a, h1, h2, rfl⟩ := plc_get _ _ i f hi
      obtain ⟨a', h3, h4⟩ := ob4 i g h1
      rw [h2] at h3
      obtain rfl := Option.some.inj h3
      exact ⟨(l6 _).ob h4, (F2.at_ g (List.mem_filter.mp (List.mem_of_getElem? h1)).1).2.1, a, by rw [plc_zs]; exact h2, rfl⟩
    rw [plc_zs]
    repeat walk_at "ev"
    refine ⟨_, rfl, ite_f (by simp) ?_⟩
    walk_at "ev"
    walk_at "ev"
    refine h ⟨σ'.m, H6⟩ ?_ n1 ?_
    · exact (X4.le (l6 (.lst ((L.filter isVar).map fun f : FE => AV.ref f.o)))).le k6
    · exact k6 _ _ (l6 _ _ _ hsl4)⟩
end
section
variable {w : World} {mean : ExcName → Option Value} {mg mb : Str → Option Value}
theorem lawA : ∃ body scope, IsLaw w mean mg mb body scope ∧ ∀ (φ : Fx) (σ : St) (Q : AF → St → Prop) (T : Addr → Option TI) (G : Addr → Option AO) (cp ct cr cm ts pl rl bo ch b it ma : Addr) (rs : List Addr) (B : Nat),
    φ.Ok (WX w mean mg mb) → Room φ 60 → φ.cs = scope → φ.cl = [(Str.ofString "marks", cm), (Str.ofString "records", cr), (Str.ofString "types", ct), (Str.ofString "pool", cp)] → Lx cp ct cr cm T G σ.H ts pl rl bo ch b it ma rs B → B ≤ 12 → cm ≠ cp → cm ≠ ct → cm ≠ cr →
    (∀ (σ' : St) (T' : Addr → Option TI) (G' : Addr → Option AO) (sl : Addr) (shp : List (Addr × TI)), Lx cp ct cr cm T' G' σ'.H ts pl rl bo ch b it ma rs B → σ'.m "shapes" = some (.ref sl) → σ'.H sl = some (.lst (shp.map fun p : Addr × TI => AV.ref p.1)) → sl ≠ ts → sl ≠ pl → (∀ p ∈ shp, T' p.1 = some p.2 ∧ p.2.rank ≤ B + 2 ∧ p.2.size ≤ 24) → shp.length ≤ 5 →
      Exs (WX w mean mg mb) φ (body.drop 6) Q σ') → Exs (WX w mean mg mb) φ (body.drop 4) Q σ := by
  exact ⟨_, _, ⟨_, _, _, _, _, _, _, _, _, _, _, _, _, by show List.lookup _ (hd.heap_1 _) = _; k_is⟩, by
    intro φ σ Q T G cp ct cr cm ts pl rl bo ch b it ma rs B o1 hroom o2 o3 X hB hn1 hn2 hn3 h
    simp only [List.drop_succ_cons, List.drop_zero] at h ⊢
    have hp := X.p
    -- shapes
    refine Exs.cons (Ex1.assignComp o1 (sw_of o2 (fun _ _ _ _ _ => by rfl)) (clos_of o3 (fun _ _ _ _ _ => by rfl)) (by decide) (by rfl) (by decide) (by rfl) (loc_of o2 (by rfl)) ?_ (by intro _; rfl))
    refine comp_iter (fun v σ' => ∃ (rr : Addr) (q : Nat), v = .ref rr ∧ q < 6 ∧ σ'.H rr = some (.rng 0 q) ∧ Lx cp ct cr cm T G σ'.H ts pl rl bo ch b it ma rs B) ?_ ?_
    · walk_at "call"
      repeat walk_at "ev"
      walk_at "call"
      repeat walk_at "ev"
      refine law_pick_spec o1 (hroom.mono (by omega) : Room φ 2) X.cx.p (by decide) fun q H2 hq hp2 k2 => ?_
      have X2 := X.pool hp2 k2
      repeat walk_at "ev"
      refine CallA.range fun ra hra => ?_
      have l3 := fun o => Le.new (o := o) (Le.rfl' (G := H2)) hra
      exact ⟨ra, q, rfl, by omega, hset_self, X2.le (l3 _)⟩
    rintro v0 σ2 ⟨rr, q, e, hq6, hrr, X2⟩
    obtain rfl := er_ref e
    refine ⟨rngL 0 q, _, _, fun i ys σ' => ∃ (T' : Addr → Option TI) (G' : Addr → Option AO) (shp : List (Addr × TI)), Lx cp ct cr cm T' G' σ'.H ts pl rl bo ch b it ma rs B ∧ ys = shp.map (fun p : Addr × TI => AV.ref p.1) ∧ shp.length = i ∧ ∀ p ∈ shp, T' p.1 = some p.2 ∧ p.2.rank ≤ B + 2 ∧ p.2.size ≤ 24,
      Src.rng (by decide) (by decide) (by omega) (by omega), hrr, ⟨T, G, [], X2, rfl, rfl, fun p hp => absurd hp (by simp)⟩, ?_, by rw [rngL_length]; omega, ?_, ?_⟩
    · rintro i ys σ' ⟨T', G', L, _, rfl, hl, _⟩
      exact ⟨trivial, by rw [List.length_map]; omega⟩
    · rintro i a ys σ3 C oC hai ⟨T', G', L, X3, rfl, hl, hT3⟩ hC
      have ofx := ok_fix o1 ((C, oC) :: φ.fix)
      have rfx : Room (φ.withFix ((C, oC) :: φ.fix)) 60 := hroom
      clear hp
      have hp := X3.p
      have ht := X3.t
      have hr := X3.r
      refine tests_nil ?_
      repeat first | walk_at "ec" | walk_at "ev"
      refine law_shape_spec ofx (rfx.mono (by omega)) X3.cx fun t ti T4 G4 H4 C4 g4 t1 t2 t3 k4 => ?_
      refine ⟨T4, G4, L ++ [(t, ti)], X3.go C4 g4 k4, by rw [List.map_append]; rfl, by rw [List.length_append, hl]; rfl, fun p hp => ?_⟩
      rcases List.mem_append.mp hp with hp | hp
      · obtain ⟨h1, h2⟩ := hT3 p hp
        exact ⟨g4.t _ _ h1, h2⟩
      · obtain rfl := List.mem_singleton.mp hp
        exact ⟨t1, t3, t2⟩
    rintro ys σ3 ⟨T3, G3, shp, X3, rfl, hl, hT3⟩ sl hsl
    rw [rngL_length] at hl
    have hl5 : shp.length ≤ 5 := by omega
    have l4 := fun o => Le.new (o := o) (Le.rfl' (G := σ3.H)) hsl
    have X4 := X3.le (l4 (.lst (shp.map fun p : Addr × TI => AV.ref p.1)))
    have ns1 : sl ≠ ts := fun e => by
      obtain ⟨_, g, _⟩ := X3.cx.s
      rw [e, g] at hsl; cases hsl
    have ns2 : sl ≠ pl := fun e => by
      obtain ⟨_, _, _, _, _, _, g, _⟩ := X3.cx.p
      rw [e, g] at hsl; cases hsl
    walk_at "ev"
    walk_at "ev"
    refine Ex1.join (fun σ' => Lx cp ct cr cm T3 G3 σ'.H ts pl rl bo ch b it ma rs B ∧ σ'.m "shapes" = some (.ref sl) ∧ σ'.H sl = some (.lst (shp.map fun p : Addr × TI => AV.ref p.1))) ?_ ?_
    · intro PJ hPJ
      refine Ex1.forL o1 (loc_of o2 (by rfl)) (fun i σ' => Lx cp ct cr cm T3 G3 σ'.H ts pl rl bo ch b it ma rs B ∧ σ'.m "shapes" = some (.ref sl) ∧ σ'.H sl = some (.lst (shp.map fun p : Addr × TI => AV.ref p.1))) ?_ (by intro _; rfl)
      repeat walk_at "ev"
      refine ⟨sl, shp.map (fun p : Addr × TI => AV.ref p.1), rfl, hset_self, ⟨X4, rfl, hset_self⟩, fun i σ' h => h.2.2, ?_, ?_⟩
      · rintro i a σ5 hai ⟨X5, m5, hs5⟩
        intro JN hJN
        rw [List.getElem?_map] at hai
        cases hi : shp[i]? with
        | none => rw [hi] at hai; cases hai
        | some p =>
          rw [hi] at hai
          obtain rfl := Option.some.inj hai
          obtain ⟨t, ti⟩ := p
          obtain ⟨t1, t2, t3⟩ := hT3 (t, ti) (List.mem_of_getElem? hi)
          dsimp only at t1 t2 t3
          have gd := (X5.cx.wf _ _ t1).gd
          have hml : ti.marks.length ≤ 100 := by rw [gd.len]; exact gd.big
          obtain ⟨v, hv, hvf, hvz, hk⟩ := ty_kind X5.cx.wf t1
          -- marks
          refine Exs.cons (Ex1.assignC o1 (c := cm) (loc_of o2 (by rfl)) (cl_of o3 (by rfl)) ?_ (by rfl))
          walk_at "call"
          repeat walk_at "ev"
          refine mk_all X5.cx.wf (B + 4) φ _ _ t ti o1 (hroom.mono (by omega)) t1 (by omega) X5.cx.le fun r H6 r0 l6 hr6 => ?_
          have X6 := X5.le l6
          obtain ⟨mv, hmv⟩ := X6.m
          refine ⟨⟨mv, hmv⟩, ?_⟩
          have X7 := X6.mark hn1 hn2 hn3 (some (.ref r))
          have nrc : r ≠ cm := fun e => by rw [e, hmv] at hr6; cases hr6
          have hm7 : hset H6 cm (.cell (some (.ref r))) cm = some (.cell (some (.ref r))) := hset_self
          have hr7 := (hset_ne (H := H6) (o := .cell (some (.ref r))) nrc).trans hr6
          have hs6 := l6 _ _ hs5
          have nsc : sl ≠ cm := fun e => by rw [e, hmv] at hs6; cases hs6
          have hs7 := (hset_ne (H := H6) (o := .cell (some (.ref r))) nsc).trans hs6
          clear hp
          walk_at "ev"
          -- the length
          refine Exs.cons (Ex1.if_ (Co.weak (P := fun c σ' => c = false ∧ σ'.m "shapes" = some (.ref sl) ∧ σ'.m "t" = some (.ref t) ∧ Le (hset H6 cm (.cell (some (.ref r)))) σ'.H) ?_ ?_))
          · repeat walk_at "ev"
            walk_at "call"
            repeat walk_at "ev"
            refine CallA.len hr7 (by rw [ml_length]; omega) ?_
            rw [ml_length]
            repeat walk_at "ev"
            refine Att.t_size o1 (X7.cx.le.ty hv) ?_
            rw [hvz]
            repeat walk_at "ev"
            refine ⟨_, rfl, ite_f (by rw [gd.len]; simp) ?_⟩
            exact ⟨rfl, m5, rfl, Le.rfl'⟩
          · rintro c σ8 ⟨rfl, m8, mt8, l8⟩
            rw [if_neg Bool.false_ne_true]
            have X8 := X7.le l8
            have hm8 := l8 _ _ hm7
            have hr8 := l8 _ _ hr7
            have hs8 := l8 _ _ hs7
            walk_at "ev"
            walk_at "ev"
            refine Exs.cons (Ex1.if_ (Co.weak (P := fun c σ' => c = false ∧ σ'.m "shapes" = some (.ref sl) ∧ Le σ8.H σ'.H) ?_ ?_))
            · repeat walk_at "ev"
              refine Att.t_form o1 (X8.cx.le.ty hv) ?_
              repeat walk_at "ev"
              refine ⟨by decide, fun fa hfa => ?_⟩
              refine Cmp.inL (ys := ["array", "pointer"]) hset_self ⟨_, rfl, ?_⟩
              have l9 := fun o => Le.new (o := o) (Le.rfl' (G := σ8.H)) hfa
              refine ite_b (fun e => ?_) fun e => ?_
              · have X9 := X8.le (l9 (.lst [.str "array", .str "pointer"]))
                have hm9 := l9 (.lst [.str "array", .str "pointer"]) _ _ hm8
                have hr9 := l9 (.lst [.str "array", .str "pointer"]) _ _ hr8
                repeat walk_at "ev"
                walk_at "call"
                repeat walk_at "ev"
                refine po_all X9.cx.wf (B + 4) φ _ _ t ti o1 (hroom.mono (by omega)) t1 (by omega) X9.cx.le fun r2 H7 r20 l7 hr27 => ?_
                have hm10 := l7 _ _ hm9
                have hr10 := l7 _ _ hr9
                refine Ev.comp (p := ⟨0, 0, 0, 0⟩) o1 (clos_of o3 (fun _ _ _ _ _ => by rfl)) (by decide) (by rfl) (by decide) (by rfl) ?_ (by intro _; rfl)
                refine comp_iter (fun v σ' => ∃ (rr : Addr), v = .ref rr ∧ σ'.H rr = some (.rng 0 (ti.marks.length : Nat)) ∧ Le H7 σ'.H ∧ σ'.m = σ8.m) ?_ ?_
                · walk_at "call"
                  repeat walk_at "ev"
                  walk_at "call"
                  repeat walk_at "ev"
                  refine CallA.len hr10 (by rw [ml_length]; omega) ?_
                  rw [ml_length]
                  repeat walk_at "ev"
                  refine CallA.range fun ra hra => ?_
                  exact ⟨ra, rfl, hset_self, Le.new Le.rfl' hra, rfl⟩
                · rintro v0 σ9 ⟨rr, e, hrr, l11, em⟩
                  obtain rfl := er_ref e
                  refine ⟨rngL 0 (ti.marks.length : Nat), _, _, fun i ys σ' => σ' = σ9 ∧ ys = nl ((List.range i).filter fun s => ti.marks[s]? == some true), Src.rng (by decide) (by decide) (by omega) (by omega), hrr, ⟨rfl, rfl⟩, ?_, by rw [rngL_length]; omega, ?_, ?_⟩
                  · rintro i ys σ' ⟨rfl, rfl⟩
                    refine ⟨trivial, ?_⟩
                    rw [nl_length]
                    exact Nat.le_trans (List.length_filter_le _ _) (by rw [List.length_range]; exact Nat.le_refl _)
                  · rintro i a ys σ' C oC hai ⟨rfl, rfl⟩ hC
                    obtain ⟨rfl, hlt⟩ := rngL_get hai
                    have hil : i < ti.marks.length := by omega
                    have ofx := ok_fix o1 ((C, oC) :: φ.fix)
                    have hm12 := l11 _ _ hm10
                    have hr12 := l11 _ _ hr10
                    have er1 : (List.range (i + 1)).filter (fun s => ti.marks[s]? == some true) = (List.range i).filter (fun s => ti.marks[s]? == some true) ++ (if ti.marks[i] = true then [i] else []) := by
                      rw [List.range_succ, List.filter_append]
                      congr 1
                      rw [List.filter_cons, List.filter_nil, List.getElem?_eq_getElem hil]
                      cases ti.marks[i] <;> rfl
                    refine tests_one ?_
                    repeat first | walk_at "ec" | walk_at "ev"
                    refine ⟨r, _, _, mk1 ti.marks[i], rfl, rfl, hr12, lget_nat (map_get (L := ti.marks) mk1 (List.getElem?_eq_getElem hil)), by rw [ml_length]; omega, ?_⟩
                    unfold mk1
                    repeat first | walk_at "ec" | walk_at "ev"
                    refine ⟨_, rfl, ?_⟩
                    cases hb : ti.marks[i] with
                    | true =>
                      rw [if_pos (by decide)]
                      repeat first | walk_at "ec" | walk_at "ev"
                      refine ⟨rfl, ?_⟩
                      rw [er1, hb, if_pos rfl, nl_append]; rfl
                    | false =>
                      rw [if_neg (by decide)]
                      refine ⟨rfl, ?_⟩
                      rw [er1, hb, if_neg Bool.false_ne_true, List.append_nil]
                  · rintro ys σ' ⟨rfl, rfl⟩ c hc
                    rw [rngL_length, Int.toNat_natCast]
                    have l13 := fun o => Le.new (o := o) (Le.rfl' (G := σ'.H)) hc
                    refine Cmp.neL (xs := (posOf ti.marks).map Int.ofNat) (ys := (posOf ti.marks).map Int.ofNat) ?_ ?_ hroom.un ?_
                    · rw [← nl_ints]; exact l13 _ _ _ (l11 _ _ hr27)
                    · rw [← nl_ints]; exact hset_self
                    · refine ⟨_, rfl, ite_f (by simp) ?_⟩
                      refine ⟨rfl, by show σ'.m _ = _; rw [em]; exact m8, ?_⟩
                      exact (((l9 (.lst [.str "array", .str "pointer"])).trans l7).trans l11).trans (l13 _)
              · exact ⟨rfl, m8, l9 _⟩
            · rintro c σ9 ⟨rfl, m9, l9⟩
              rw [if_neg Bool.false_ne_true]
              repeat walk_at "ev"
              exact ⟨X8.le l9, m9, l9 _ _ hs8⟩
      · rintro σ5 ⟨X5, m5, hs5⟩
        rw [hPJ]; exact ⟨X5, m5, hs5⟩
    · rintro σ5 ⟨X5, m5, hs5⟩
      exact h σ5 T3 G3 sl shp X5 m5 hs5 ns1 ns2 hT3 hl5⟩
end
/-- the words' places -/
def spotsGo : Nat → List PE → List Int
  | _, [] => []
  | w, p :: r => 4 * (w : Int) :: spotsGo (w + pwN p) r
theorem wordsN_cons (w : Nat) (p : PE) (r : List PE) : wordsN w (p :: r) = wordsN (w + pwN p) r := by unfold wordsN; simp; omega
theorem spotsGo_append : ∀ (w : Nat) (L : List PE) (p : PE), spotsGo w (L ++ [p]) = spotsGo w L ++ [4 * ((wordsN w L : Nat) : Int)]
  | w, [], p => rfl
  | w, q :: r, p => by
    simp only [List.cons_append, spotsGo, spotsGo_append, wordsN_cons]
theorem spotsGo_length : ∀ (w : Nat) (L : List PE), (spotsGo w L).length = L.length
  | _, [] => rfl
  | w, q :: r => by simp only [spotsGo, List.length_cons, spotsGo_length]
theorem spotsGo_get (w : Nat) (L : List PE) : ∀ (j : Nat) (p : PE), L[j]? = some p → (spotsGo w L)[j]? = some (4 * ((wordsN w (L.take j) : Nat) : Int)) := by
  induction L generalizing w with
  | nil => intro j p h; cases h
  | cons q r ih =>
    intro j p h
    cases j with
    | zero => rfl
    | succ j =>
      simp only [List.getElem?_cons_succ] at h
      simp only [spotsGo, List.getElem?_cons_succ, List.take_succ_cons, wordsN_cons]
      exact ih _ j p h
theorem wordsN_snoc (w : Nat) (L : List PE) (p : PE) : wordsN w (L ++ [p]) = wordsN w L + pwN p := by
  unfold wordsN; rw [List.map_append, List.sum_append]; simp; omega
/-- parameters placed -/
def plcP : Nat → Nat → List PE → List PE
  | _, _, [] => []
  | i, w, p :: r => ⟨p.o, p.placed i (4 * (w : Int)), p.tv⟩ :: plcP (i + 1) (w + pwN p) r
theorem plcP_refs : ∀ (i w : Nat) (L : List PE), (plcP i w L).map (fun p => AV.ref p.o) = L.map fun p => AV.ref p.o
  | _, _, [] => rfl
  | i, w, p :: r => by simp only [plcP, List.map_cons, plcP_refs]
theorem plcP_due : ∀ (i w : Nat) (L : List PE), dueL w (plcP i w L) = dueL w L
  | _, _, [] => rfl
  | i, w, p :: r => by
    have e : pwN ⟨p.o, p.placed i (4 * (w : Int)), p.tv⟩ = pwN p := rfl
    simp only [plcP, dueL, e, plcP_due]
    rfl
theorem plcP_length : ∀ (i w : Nat) (L : List PE), (plcP i w L).length = L.length
  | _, _, [] => rfl
  | i, w, p :: r => by simp only [plcP, List.length_cons, plcP_length]
theorem plcP_get : ∀ (i w : Nat) (L : List PE) (j : Nat) (q : PE), (plcP i w L)[j]? = some q → ∃ p, L[j]? = some p ∧ q = ⟨p.o, p.placed (i + j) (4 * ((wordsN w (L.take j) : Nat) : Int)), p.tv⟩
  | _, _, [], j, q, h => by simp [plcP] at h
  | i, w, p :: r, 0, q, h => by
    simp only [plcP, List.getElem?_cons_zero, Option.some.injEq] at h
    exact ⟨p, rfl, h.symm⟩
  | i, w, p :: r, j + 1, q, h => by
    simp only [plcP, List.getElem?_cons_succ] at h
    obtain ⟨p', h1, h2⟩ := plcP_get _ _ r j q h
    refine ⟨p', h1, ?_⟩
    rw [h2, List.take_succ_cons, wordsN_cons]
    rw [show i + 1 + j = i + (j + 1) by omega]
section
variable {w : World} {mean : ExcName → Option Value} {mg mb : Str → Option Value} {φ : Fx} {σ : St} {Q : AV → St → Prop}
/-- a pick, with the pool's figures where they were -/
theorem law_pick_specS (hok : φ.Ok (WX w mean mg mb)) {n : Nat} (hroom : Room φ (n + 2)) {pl av : Addr} {b : Int} (hp : PoolAt σ.H pl av) (hb : 0 < b)
    (h : ∀ (r : Nat) H', (r : Int) < b → PoolAt H' pl av → (∀ x, x ≠ pl → ∀ o, σ.H x = some o → H' x = some o) → (∀ fl ys, σ.H pl = some (.lst (.ref fl :: ys)) → ∃ ys', H' pl = some (.lst (.ref fl :: ys'))) → Q (.int r) ⟨σ.m, H'⟩) : CallA (WX w mean mg mb) φ (.ref 198) [.ref pl, .int b] Q σ := by
  obtain ⟨fl, figs, i, mix, a, r, hpl, hfl, hfs, hne⟩ := hp
  refine' CallA.fn2 "pool" "bound_x" hok (by walk_at "fn") hroom.lt (by walk_at "bd") (by decide) ?_
  intro φ' o1 o2 o3 o4 o5
  refine Exs.cons (Ex1.join (fun σ' => σ'.m "bound_x" = some (.int b) ∧ (∃ g : Int, σ'.m "figure" = some (.int g)) ∧ PoolAt σ'.H pl av ∧ (∀ x, x ≠ pl → ∀ o, σ.H x = some o → σ'.H x = some o) ∧ ∃ ys', σ'.H pl = some (.lst (.ref fl :: ys'))) ?_ ?_)
  · intro PJ hPJ
    repeat walk_at "ev"
    refine ⟨pl, _, _, .int i, rfl, rfl, hpl, rfl, by simp, ?_⟩
    walk_at "call"
    repeat walk_at "ev"
    refine ⟨pl, _, _, .ref fl, rfl, rfl, hpl, rfl, by simp, ?_⟩
    repeat walk_at "ev"
    refine CallA.len hfl (by rw [List.length_map]; omega) ?_
    repeat walk_at "ev"
    refine ⟨_, rfl, ite_b (fun e => ?_) fun e => ?_⟩
    · have e' := of_decide_eq_true e
      rw [List.length_map] at e'
      have hi : i < figs.length := by omega
      repeat walk_at "ev"
      refine ⟨pl, _, _, .ref fl, rfl, rfl, hpl, rfl, by simp, ?_⟩
      repeat walk_at "ev"
      refine ⟨pl, _, _, .int i, rfl, rfl, hpl, rfl, by simp, ?_⟩
      refine ⟨fl, _, _, .int figs[i], rfl, rfl, hfl, lget_nat (map_get AV.int (List.getElem?_eq_getElem hi)), by rw [List.length_map]; omega, ?_⟩
      repeat walk_at "ev"
      refine Itm.get hpl rfl (by simp) ?_
      repeat walk_at "ev"
      refine SetItm.lst hpl (by decide) (by simp) (by simp) ?_
      repeat walk_at "ev"
      refine ⟨rfl, ⟨_, rfl⟩, ⟨fl, figs, i + 1, mix, a, r, hset_self, (hset_ne hne.1).trans hfl, hfs, hne⟩, fun x hx o e => (hset_ne hx).trans e, _, hset_self⟩
    · repeat walk_at "ev"
      walk_at "call"
      repeat walk_at "ev"
      refine ⟨pl, _, _, .ref fl, rfl, rfl, hpl, rfl, by simp, ?_⟩
      repeat walk_at "ev"
      refine CallA.len hfl (by rw [List.length_map]; omega) ?_
      repeat walk_at "ev"
      refine ⟨_, rfl, ite_b (fun e => ?_) fun e => ?_⟩
      · repeat walk_at "ev"
        exact ⟨rfl, ⟨_, rfl⟩, ⟨fl, figs, i, mix, a, r, hpl, hfl, hfs, hne⟩, fun x hx o e => e, _, hpl⟩
      · repeat walk_at "ev"
        refine ⟨pl, _, _, .int mix, rfl, rfl, hpl, rfl, by simp, ?_⟩
        repeat walk_at "ev"
        refine SetItm.lst hpl (by decide) (by simp) (by simp) ?_
        repeat walk_at "ev"
        refine ⟨pl, _, _, .int _, rfl, rfl, hset_self, rfl, by simp, ?_⟩
        repeat walk_at "ev"
        refine ⟨rfl, ⟨_, rfl⟩, ⟨fl, figs, i, _, a, r, hset_self, (hset_ne hne.1).trans hfl, hfs, hne⟩, fun x hx o e => (hset_ne hx).trans e, _, hset_self⟩
  · rintro σ1 ⟨m0, ⟨g, m1⟩, hp1, kp, ys', hys⟩
    repeat walk_at "ev"
    refine Bin.mod (by omega) ?_
    repeat walk_at "ev"
    have f0 : 0 ≤ g.fmod b := Int.fmod_nonneg_of_pos g hb
    have f1 : g.fmod b < b := Int.fmod_lt_of_pos g hb
    have := h (g.fmod b).toNat σ1.H (by omega) hp1 kp (fun fl' ys e => by
      rw [hpl] at e
      injection e with e
      injection e with e
      injection e with e _
      injection e with e
      exact ⟨ys', by rw [← e]; exact hys⟩)
    rwa [Int.toNat_of_nonneg f0] at this
end
structure HC (G : Addr → Option AO) (pl rl pa da sa sl c0 fl : Addr) : Prop where
  pd : pa ≠ da
  ps : pa ≠ sa
  ds : da ≠ sa
  p : pa ≠ pl ∧ pa ≠ rl ∧ pa ≠ sl ∧ pa ≠ c0 ∧ pa ≠ fl
  d : da ≠ pl ∧ da ≠ rl ∧ da ≠ sl ∧ da ≠ c0 ∧ da ≠ fl
  s : sa ≠ pl ∧ sa ≠ rl ∧ sa ≠ sl ∧ sa ≠ c0 ∧ sa ≠ fl
  sl : sl ≠ pl
  c0 : c0 ≠ pl
  gp : G pa = none
  gd : G da = none
  gs : G sa = none
structure HP (cp ct cr cm : Addr) (T : Addr → Option TI) (G : Addr → Option AO) (ts pl rl bo ch b it ma : Addr) (rs : List Addr) (B : Nat) (pa da sa sl c0 fl : Addr) (shl cll : List AV) (H : Addr → Option AO) (L : List PE) (ps ds ss : List AV) : Prop where
  x : Lx cp ct cr cm T G H ts pl rl bo ch b it ma rs B
  pa : H pa = some (.lst ps)
  da : H da = some (.lst ds)
  sa : H sa = some (.lst ss)
  sl : H sl = some (.lst shl)
  c0 : H c0 = some (.lst cll)
  fl : ∃ ys, H pl = some (.lst (.ref fl :: ys))
  ob : ∀ p ∈ L, ObAt H p.o p.ov ∧ TyAt H p.ov.type p.tv ∧ G p.o = none
  nd : (L.map PE.o).Nodup
section
variable {cp ct cr cm : Addr} {T : Addr → Option TI} {G H H' : Addr → Option AO} {ts pl rl bo ch b it ma : Addr} {rs : List Addr} {B : Nat} {pa da sa sl c0 fl : Addr} {shl cll : List AV} {L : List PE} {ps ds ss : List AV}
theorem Lx.nlst (X : Lx cp ct cr cm T G H ts pl rl bo ch b it ma rs B) {a : Addr} {v : List AV} (h : H a = some (.lst v)) : a ≠ ts := fun e => by
  obtain ⟨_, g, _⟩ := X.cx.s
  rw [e, g] at h; cases h
theorem HP.go (P : HP cp ct cr cm T G ts pl rl bo ch b it ma rs B pa da sa sl c0 fl shl cll H L ps ds ss) (C : HC G pl rl pa da sa sl c0 fl) (X' : Lx cp ct cr cm T G H' ts pl rl bo ch b it ma rs B) (k : Kp ts pl H H') (hfl : ∃ ys, H' pl = some (.lst (.ref fl :: ys))) :
    HP cp ct cr cm T G ts pl rl bo ch b it ma rs B pa da sa sl c0 fl shl cll H' L ps ds ss :=
  ⟨X', k _ (P.x.nlst P.pa) C.p.1 _ P.pa, k _ (P.x.nlst P.da) C.d.1 _ P.da, k _ (P.x.nlst P.sa) C.s.1 _ P.sa, k _ (P.x.nlst P.sl) C.sl _ P.sl, k _ (P.x.nlst P.c0) C.c0 _ P.c0, hfl,
    fun p hp => ⟨kp_ob P.x.cx k (P.ob p hp).1, kp_ty P.x.cx k (P.ob p hp).2.1, (P.ob p hp).2.2⟩, P.nd⟩
theorem HP.le (P : HP cp ct cr cm T G ts pl rl bo ch b it ma rs B pa da sa sl c0 fl shl cll H L ps ds ss) (C : HC G pl rl pa da sa sl c0 fl) (k : Le H H') : HP cp ct cr cm T G ts pl rl bo ch b it ma rs B pa da sa sl c0 fl shl cll H' L ps ds ss :=
  P.go C (P.x.le k) k.kp (let ⟨ys, e⟩ := P.fl; ⟨ys, k _ _ e⟩)
theorem Lx.lst (X : Lx cp ct cr cm T G H ts pl rl bo ch b it ma rs B) {a : Addr} {v v' : List AV} (ha : H a = some (.lst v)) (h1 : a ≠ pl) (h2 : a ≠ rl) (hg : G a = none) (hf : ∀ f ys, H pl = some (.lst (.ref f :: ys)) → a ≠ f) : Lx cp ct cr cm T G (hset H a (.lst v')) ts pl rl bo ch b it ma rs B := by
  have nc : ∀ {c u}, H c = some (.cell u) → hset H a (.lst v') c = some (.cell u) := fun {c u} e => (hset_ne (fun e' => by rw [e', ha] at e; cases e)).trans e
  obtain ⟨fs, s1, s2⟩ := X.cx.s
  obtain ⟨fl, figs, i, mix, a1, r, p1, p2, p3⟩ := X.cx.p
  obtain ⟨mv, m1⟩ := X.m
  exact ⟨{ X.cx with
    le := X.cx.le.upd hg fun c hc => hset_ne hc
    s := ⟨fs, (hset_ne (fun e => by rw [e, ha] at s1; cases s1)).trans s1, s2⟩
    p := ⟨fl, figs, i, mix, a1, r, (hset_ne (Ne.symm h1)).trans p1, (hset_ne (Ne.symm (hf _ _ p1))).trans p2, p3⟩
    frl := (hset_ne (Ne.symm h2)).trans X.cx.frl }, nc X.p, nc X.t, nc X.r, ⟨mv, nc m1⟩, X.gm, X.gr⟩
theorem HP.hf (P : HP cp ct cr cm T G ts pl rl bo ch b it ma rs B pa da sa sl c0 fl shl cll H L ps ds ss) {a : Addr} (h : a ≠ fl) : ∀ f ys, H pl = some (.lst (.ref f :: ys)) → a ≠ f := fun f ys e => by
  obtain ⟨ys', e'⟩ := P.fl
  rw [e'] at e
  injection e with e
  injection e with e
  injection e with e _
  injection e with e
  rw [← e]; exact h
theorem ob_ne {H : Addr → Option AO} {a c : Addr} {v : ObV} {u : List AV} {o : AO} (h : ObAt H a v) (k : H c = some (.lst u)) : hset H c o a = H a := hset_ne (h.ne_lst k)
theorem ty_ne {H : Addr → Option AO} {a c : Addr} {v : TyV} {u : List AV} {o : AO} (h : TyAt H a v) (k : H c = some (.lst u)) : hset H c o a = H a := hset_ne (h.ne_lst k)
theorem HP.pushP (P : HP cp ct cr cm T G ts pl rl bo ch b it ma rs B pa da sa sl c0 fl shl cll H L ps ds ss) (C : HC G pl rl pa da sa sl c0 fl) (v : List AV) : HP cp ct cr cm T G ts pl rl bo ch b it ma rs B pa da sa sl c0 fl shl cll (hset H pa (.lst v)) L v ds ss :=
  ⟨P.x.lst P.pa C.p.1 C.p.2.1 C.gp (P.hf C.p.2.2.2.2), hset_self, (hset_ne (Ne.symm C.pd)).trans P.da, (hset_ne (Ne.symm C.ps)).trans P.sa, (hset_ne (Ne.symm C.p.2.2.1)).trans P.sl, (hset_ne (Ne.symm C.p.2.2.2.1)).trans P.c0,
    let ⟨ys, e⟩ := P.fl; ⟨ys, (hset_ne (Ne.symm C.p.1)).trans e⟩, fun p hp => ⟨(P.ob p hp).1.keep (ob_ne (P.ob p hp).1 P.pa), (P.ob p hp).2.1.keep (ty_ne (P.ob p hp).2.1 P.pa), (P.ob p hp).2.2⟩, P.nd⟩
theorem HP.pushD (P : HP cp ct cr cm T G ts pl rl bo ch b it ma rs B pa da sa sl c0 fl shl cll H L ps ds ss) (C : HC G pl rl pa da sa sl c0 fl) (v : List AV) : HP cp ct cr cm T G ts pl rl bo ch b it ma rs B pa da sa sl c0 fl shl cll (hset H da (.lst v)) L ps v ss :=
  ⟨P.x.lst P.da C.d.1 C.d.2.1 C.gd (P.hf C.d.2.2.2.2), (hset_ne C.pd).trans P.pa, hset_self, (hset_ne (Ne.symm C.ds)).trans P.sa, (hset_ne (Ne.symm C.d.2.2.1)).trans P.sl, (hset_ne (Ne.symm C.d.2.2.2.1)).trans P.c0,
    let ⟨ys, e⟩ := P.fl; ⟨ys, (hset_ne (Ne.symm C.d.1)).trans e⟩, fun p hp => ⟨(P.ob p hp).1.keep (ob_ne (P.ob p hp).1 P.da), (P.ob p hp).2.1.keep (ty_ne (P.ob p hp).2.1 P.da), (P.ob p hp).2.2⟩, P.nd⟩
theorem HP.pushS (P : HP cp ct cr cm T G ts pl rl bo ch b it ma rs B pa da sa sl c0 fl shl cll H L ps ds ss) (C : HC G pl rl pa da sa sl c0 fl) (v : List AV) : HP cp ct cr cm T G ts pl rl bo ch b it ma rs B pa da sa sl c0 fl shl cll (hset H sa (.lst v)) L ps ds v :=
  ⟨P.x.lst P.sa C.s.1 C.s.2.1 C.gs (P.hf C.s.2.2.2.2), (hset_ne C.ps).trans P.pa, (hset_ne C.ds).trans P.da, hset_self, (hset_ne (Ne.symm C.s.2.2.1)).trans P.sl, (hset_ne (Ne.symm C.s.2.2.2.1)).trans P.c0,
    let ⟨ys, e⟩ := P.fl; ⟨ys, (hset_ne (Ne.symm C.s.1)).trans e⟩, fun p hp => ⟨(P.ob p hp).1.keep (ob_ne (P.ob p hp).1 P.sa), (P.ob p hp).2.1.keep (ty_ne (P.ob p hp).2.1 P.sa), (P.ob p hp).2.2⟩, P.nd⟩
theorem HP.snoc (P : HP cp ct cr cm T G ts pl rl bo ch b it ma rs B pa da sa sl c0 fl shl cll H L ps ds ss) (C : HC G pl rl pa da sa sl c0 fl) {x : Addr} {ov : ObV} {tv : TyV} (hx : H x = none) (k : Le H H') (ho : ObAt H' x ov) (ht : TyAt H' ov.type tv) : HP cp ct cr cm T G ts pl rl bo ch b it ma rs B pa da sa sl c0 fl shl cll H' (L ++ [⟨x, ov, tv⟩]) ps ds ss := by
  have P' := P.le C k
  refine ⟨P'.x, P'.pa, P'.da, P'.sa, P'.sl, P'.c0, P'.fl, fun p hp => ?_, ?_⟩
  · rcases List.mem_append.mp hp with hp | hp
    · exact P'.ob p hp
    · obtain rfl := List.mem_singleton.mp hp
      exact ⟨ho, ht, P.x.cx.le.none hx⟩
  · rw [List.map_append, List.nodup_append]
    refine ⟨P.nd, by simp, fun a ha c hc => ?_⟩
    simp only [List.map_cons, List.map_nil, List.mem_singleton] at hc
    subst hc
    obtain ⟨f, hf, rfl⟩ := List.mem_map.mp ha
    intro e
    obtain ⟨⟨gs, e1, _⟩, _⟩ := P.ob f hf
    rw [e, hx] at e1; cases e1
end
theorem Ev.at_ {W : Wd} {φ : Fx} {env : Env} {e : Expr} {σ : St} {Q : AV → St → Prop} (a : AV) (h : Ev W φ env e (fun v σ' => v = a ∧ σ' = σ) σ) (k : Q a σ) : Ev W φ env e Q σ := Tr.mono h fun v σ' ⟨e1, e2⟩ => by rw [e1, e2]; exact k
theorem Co.at_ {W : Wd} {φ : Fx} {env : Env} {e : Expr} {σ : St} {Q : Bool → St → Prop} (a : Bool) (h : Co W φ env e (fun v σ' => v = a ∧ σ' = σ) σ) (k : Q a σ) : Co W φ env e Q σ := Tr.mono h fun v σ' ⟨e1, e2⟩ => by rw [e1, e2]; exact k
def MJ (lk : Bool) (pa da sa sl : Addr) (w : Nat) (σ : St) : Prop := σ.m "linked" = some (.bool lk) ∧ σ.m "params" = some (.ref pa) ∧ σ.m "due" = some (.ref da) ∧ σ.m "spots" = some (.ref sa) ∧ σ.m "shapes" = some (.ref sl) ∧ σ.m "words" = some (.int (w : Nat))
def cbody (b : List Stmt) : List Stmt := match b.drop 15 with
  | .For _ _ x _ _ :: _ => x
  | _ => []
section
variable {w : World} {mean : ExcName → Option Value} {mg mb : Str → Option Value}
theorem lawC2 : ∃ body scope, IsLaw w mean mg mb body scope ∧ ∀ (φ : Fx) (σ : St) (Q : AF → St → Prop) (T : Addr → Option TI) (G : Addr → Option AO) (cp ct cr cm ts pl rl bo ch b it ma : Addr) (rs : List Addr) (B : Nat) (pa da sa sl c0 fl : Addr) (shl cll : List AV) (L : List PE) (lk : Bool) (t0 : Addr) (ti : TI),
    φ.Ok (WX w mean mg mb) → Room φ 60 → φ.cs = scope → φ.cl = [(Str.ofString "marks", cm), (Str.ofString "records", cr), (Str.ofString "types", ct), (Str.ofString "pool", cp)] → HC G pl rl pa da sa sl c0 fl →
    HP cp ct cr cm T G ts pl rl bo ch b it ma rs B pa da sa sl c0 fl shl cll σ.H L (L.map fun p : PE => AV.ref p.o) ((dueL (w0N lk) L).map AV.int) ((spotsGo (w0N lk) L).map AV.int) → MJ lk pa da sa sl (wordsN (w0N lk) L) σ → σ.m "t" = some (.ref t0) → T t0 = some ti → L.length ≤ 10 →
    (∀ σ' p, HP cp ct cr cm T G ts pl rl bo ch b it ma rs B pa da sa sl c0 fl shl cll σ'.H (L ++ [p]) ((L ++ [p]).map fun p : PE => AV.ref p.o) ((dueL (w0N lk) (L ++ [p])).map AV.int) ((spotsGo (w0N lk) (L ++ [p])).map AV.int) → MJ lk pa da sa sl (wordsN (w0N lk) (L ++ [p])) σ' → Q .next σ') →
    Exs (WX w mean mg mb) φ (cbody body) Q σ := by
  exact ⟨_, _, ⟨_, _, _, _, _, _, _, _, _, _, _, _, _, by show List.lookup _ (hd.heap_1 _) = _; k_is⟩, by
    intro φ σ Q T G cp ct cr cm ts pl rl bo ch b it ma rs B pa da sa sl c0 fl shl cll L lk t0 ti o1 hroom o2 o3 C P M mt hT hL h
    simp only [cbody, List.drop_succ_cons, List.drop_zero]
    have hp := P.x.p
    have ht := P.x.t
    -- way
    repeat walk_at "ev"
    walk_at "call"
    repeat walk_at "ev"
    refine law_pick_specS o1 (hroom.mono (by omega) : Room φ 2) P.x.cx.p (by decide) fun r H1 hr hp1 k1 hh => ?_
    have X1 := P.x.pool hp1 k1
    have P1 := P.go C X1 (fun y _ hy => k1 y hy) (let ⟨ys, e⟩ := P.fl; hh _ _ e)
    have hT' := P.x.cx.wf.ty hT
    obtain ⟨v, hv, hvf, hvz⟩ := hT'
    obtain ⟨g1, g2, g3, g4, g5, g6⟩ := M
    clear hp ht
    -- by_place
    refine thn_next ?_
    refine Exs.cons (Ex1.join (fun σ' => (∃ bp : Bool, σ'.m "by_place" = some (.bool bp)) ∧ σ'.m "way" = some (.int r) ∧ σ'.m "t" = some (.ref t0) ∧ MJ lk pa da sa sl (wordsN (w0N lk) L) σ' ∧ HP cp ct cr cm T G ts pl rl bo ch b it ma rs B pa da sa sl c0 fl shl cll σ'.H L (L.map fun p : PE => AV.ref p.o) ((dueL (w0N lk) L).map AV.int) ((spotsGo (w0N lk) L).map AV.int)) ?_ ?_)
    · intro PJ hPJ
      refine Ex1.assign o1 (loc_of o2 (by rfl)) (Ev.or2 ?_) (by rfl)
      repeat walk_at "ev"
      refine ⟨_, rfl, ite_b (fun e => ?_) fun e => ?_⟩
      · repeat walk_at "ev"
        exact ⟨⟨_, rfl⟩, rfl, mt, ⟨g1, g2, g3, g4, g5, g6⟩, P1⟩
      · repeat walk_at "ev"
        refine Att.t_form o1 (P1.x.cx.le.ty hv) ?_
        repeat walk_at "ev"
        refine ⟨by decide, fun a ha => ?_⟩
        refine Cmp.inL (ys := ["array", "record"]) hset_self ?_
        repeat walk_at "ev"
        exact ⟨⟨_, rfl⟩, rfl, mt, ⟨g1, g2, g3, g4, g5, g6⟩, P1.le C (Le.new Le.rfl' ha)⟩
    clear g1 g2 g3 g4 g5 g6 P1 X1 mt P
    rintro σ2 ⟨⟨bp, mbp⟩, mw, mt, ⟨g1, g2, g3, g4, g5, g6⟩, P2⟩
    have ht := P2.x.t
    walk_at "ev"
    -- a wide one
    refine Exs.cons (Ex1.join (fun σ' => ∃ (t' : Addr) (tv : TyV), σ'.m "t" = some (.ref t') ∧ TyAt σ'.H t' tv ∧ σ'.m "by_place" = some (.bool bp) ∧ MJ lk pa da sa sl (wordsN (w0N lk) L) σ' ∧ HP cp ct cr cm T G ts pl rl bo ch b it ma rs B pa da sa sl c0 fl shl cll σ'.H L (L.map fun p : PE => AV.ref p.o) ((dueL (w0N lk) L).map AV.int) ((spotsGo (w0N lk) L).map AV.int)) ?_ ?_)
    · intro PJ hPJ
      have same : ∃ (t' : Addr) (tv : TyV), σ2.m "t" = some (.ref t') ∧ TyAt σ2.H t' tv ∧ σ2.m "by_place" = some (.bool bp) ∧ MJ lk pa da sa sl (wordsN (w0N lk) L) σ2 ∧ HP cp ct cr cm T G ts pl rl bo ch b it ma rs B pa da sa sl c0 fl shl cll σ2.H L (L.map fun p : PE => AV.ref p.o) ((dueL (w0N lk) L).map AV.int) ((spotsGo (w0N lk) L).map AV.int) :=
        ⟨t0, v, mt, P2.x.cx.le.ty hv, mbp, ⟨g1, g2, g3, g4, g5, g6⟩, P2⟩
      repeat walk_at "ev"
      refine Co.val ?_ (by with_unfolding_all rfl)
      repeat walk_at "ev"
      refine ⟨bp, rfl, ite_b (fun e => ?_) fun e => ?_⟩
      · repeat walk_at "ev"
        refine Att.t_form o1 (P2.x.cx.le.ty hv) ?_
        repeat walk_at "ev"
        refine ⟨_, rfl, ite_b (fun e => ?_) fun e => ?_⟩
        · repeat walk_at "ev"
          refine ⟨_, rfl, ite_b (fun e => ?_) fun e => ?_⟩
          · repeat walk_at "ev"
            rw [if_pos rfl]
            repeat walk_at "ev"
            walk_at "call"
            repeat walk_at "ev"
            obtain ⟨fs, hts, hS⟩ := P2.x.cx.s
            obtain ⟨cn, hcn⟩ := hS.cnt
            refine ⟨ts, 180, _, 170, rfl, hts, hS.new, mOk_new, ?_⟩
            repeat walk_at "ev"
            refine new_spec o1 (hroom.mono (by omega) : Room φ 3) hts hcn hS.short fun x fa ha H1 x0 tx fa0 fae ha0 hae d1 d2 d3 kp ets => ?_
            have X3 := P2.x.cnt hts ets kp
            have gx : G x = none := P2.x.cx.le.none x0
            repeat walk_at "ev"
            refine Att.t_base o1 (X3.cx.le.ty hv) ?_
            repeat walk_at "ev"
            refine SetAtt.t_base o1 v.base tx fun H4 tx4 k4 => ?_
            have X4 := X3.obj tx gx k4
            repeat walk_at "ev"
            refine SetAtt.t_length o1 (-1) tx4 fun H5 tx5 k5 => ?_
            have X5 := X4.obj tx4 gx k5
            repeat walk_at "ev"
            have K5 : Kp ts pl σ2.H H5 := fun y h1 h2 o e => by
              have hyx : y ≠ x := fun e' => by rw [e', x0] at e; cases e
              exact (k5 y hyx).trans ((k4 y hyx).trans (kp y h1 o e))
            refine ⟨x, _, rfl, tx5, mbp, ⟨g1, g2, g3, g4, g5, g6⟩, P2.go C X5 K5 ?_⟩
            obtain ⟨ys, e⟩ := P2.fl
            have hplx : pl ≠ x := fun e' => by rw [e', x0] at e; cases e
            exact ⟨ys, (k5 _ hplx).trans ((k4 _ hplx).trans (kp _ (Ne.symm P2.x.cx.nts) _ e))⟩
          · repeat walk_at "ev"
            rw [if_neg Bool.false_ne_true]
            repeat walk_at "ev"
            exact same
        · rw [if_neg Bool.false_ne_true]
          repeat walk_at "ev"
          exact same
      · rw [if_neg Bool.false_ne_true]
        repeat walk_at "ev"
        exact same
    clear g1 g2 g3 g4 g5 g6 P2 mt mbp mw
    rintro σ3 ⟨t', tv, mt, htv, mbp, ⟨g1, g2, g3, g4, g5, g6⟩, P3⟩
    -- the parameter
    repeat walk_at "ev"
    refine ⟨pa, _, rfl, P3.pa, ?_⟩
    repeat walk_at "ev"
    walk_at "call"
    walk_at "ev"
    walk_at "ev"
    walk_at "ev"
    refine Ev.at_ (.str (if bp = true then Str.ofString "par" else Str.ofString "var")) ?_ ?_
    · refine Ev.ifx (Co.val ?_ (by with_unfolding_all rfl))
      repeat walk_at "ev"
      refine ⟨bp, rfl, ?_⟩
      cases bp
      · rw [if_neg Bool.false_ne_true]
        repeat walk_at "ev"
        exact ⟨rfl, rfl⟩
      · rw [if_pos rfl]
        repeat walk_at "ev"
        exact ⟨rfl, rfl⟩
    repeat walk_at "ev"
    have ho3 : True := trivial
    refine Obj_spec o1 (hroom.mono (by omega) : Room φ 2) fun x4 H4 x40 ob4 l4 => ?_
    have P4 := P3.snoc C x40 l4 ob4 (l4.ty htv)
    have hdl := dueL_length (w0N lk) L
    repeat walk_at "ev"
    refine CallA.append P4.pa (by rw [List.length_map]; omega) ⟨rfl, ?_⟩
    have P5 := P4.pushP C ((L.map fun p : PE => AV.ref p.o) ++ [.ref x4])
    repeat walk_at "ev"
    refine ⟨sa, _, rfl, P5.sa, ?_⟩
    repeat walk_at "ev"
    refine CallA.append P5.sa (by rw [List.length_map, spotsGo_length]; omega) ⟨rfl, ?_⟩
    have P60 := P5.pushS C ((spotsGo (w0N lk) L).map AV.int ++ [.int (4 * ((wordsN (w0N lk) L : Nat) : Int))])
    have epr : (L ++ [(⟨x4, ⟨if bp = true then Str.ofString "par" else Str.ofString "var", t', 0, 0, false⟩, tv⟩ : PE)]).map (fun p : PE => AV.ref p.o) = (L.map fun p : PE => AV.ref p.o) ++ [.ref x4] := by rw [List.map_append]; rfl
    have esp : (spotsGo (w0N lk) (L ++ [(⟨x4, ⟨if bp = true then Str.ofString "par" else Str.ofString "var", t', 0, 0, false⟩, tv⟩ : PE)])).map AV.int = (spotsGo (w0N lk) L).map AV.int ++ [.int (4 * ((wordsN (w0N lk) L : Nat) : Int))] := by rw [spotsGo_append, List.map_append]; rfl
    have P6 : HP cp ct cr cm T G ts pl rl bo ch b it ma rs B pa da sa sl c0 fl shl cll (hset (hset H4 pa (.lst ((L.map fun p : PE => AV.ref p.o) ++ [.ref x4]))) sa (.lst ((spotsGo (w0N lk) L).map AV.int ++ [.int (4 * ((wordsN (w0N lk) L : Nat) : Int))]))) (L ++ [(⟨x4, ⟨if bp = true then Str.ofString "par" else Str.ofString "var", t', 0, 0, false⟩, tv⟩ : PE)]) ((L ++ [(⟨x4, ⟨if bp = true then Str.ofString "par" else Str.ofString "var", t', 0, 0, false⟩, tv⟩ : PE)]).map fun p : PE => AV.ref p.o) ((dueL (w0N lk) L).map AV.int) ((spotsGo (w0N lk) (L ++ [(⟨x4, ⟨if bp = true then Str.ofString "par" else Str.ofString "var", t', 0, 0, false⟩, tv⟩ : PE)])).map AV.int) := by
      rw [epr, esp]; exact P60
    generalize hP : (⟨x4, ⟨if bp = true then Str.ofString "par" else Str.ofString "var", t', 0, 0, false⟩, tv⟩ : PE) = p at P6
    have htv6 := (P6.ob p (List.mem_append_right _ (List.mem_singleton.mpr rfl))).2.1
    have eqv : p.ov.type = t' ∧ p.tv = tv := by rw [← hP]; exact ⟨rfl, rfl⟩
    rw [eqv.1, eqv.2] at htv6
    have hkd : (p.ov.kind == Str.ofString "par") = bp := by rw [← hP]; cases bp <;> rfl
    have htvp : p.tv = tv := by rw [← hP]
    have edl : dueL (w0N lk) (L ++ [p]) = dueL (w0N lk) L ++ (if (bp || tv.form == Str.ofString "pointer") = true then [4 * ((wordsN (w0N lk) L : Nat) : Int)] else []) := by
      rw [dueL_append]
      simp only [dueL, List.append_nil, hkd, htvp]
    walk_at "ev"
    -- due
    refine Exs.cons (Ex1.join (fun σ' => σ'.m "t" = some (.ref t') ∧ σ'.m "by_place" = some (.bool bp) ∧ MJ lk pa da sa sl (wordsN (w0N lk) L) σ' ∧ TyAt σ'.H t' tv ∧ HP cp ct cr cm T G ts pl rl bo ch b it ma rs B pa da sa sl c0 fl shl cll σ'.H (L ++ [p]) ((L ++ [p]).map fun p : PE => AV.ref p.o) ((dueL (w0N lk) (L ++ [p])).map AV.int) ((spotsGo (w0N lk) (L ++ [p])).map AV.int)) ?_ ?_)
    · intro PJ hPJ
      have yes : (bp || tv.form == Str.ofString "pointer") = true → (dueL (w0N lk) (L ++ [p])).map AV.int = (dueL (w0N lk) L).map AV.int ++ [.int (4 * ((wordsN (w0N lk) L : Nat) : Int))] := fun e => by rw [edl, if_pos e, List.map_append]; rfl
      refine Ex1.if_ (Co.at_ (bp || tv.form == Str.ofString "pointer") ?_ ?_)
      · repeat walk_at "ev"
        refine Co.val ?_ (by with_unfolding_all rfl)
        repeat walk_at "ev"
        refine ⟨bp, rfl, ite_b (fun e => ?_) fun e => ?_⟩
        · rw [e]; exact ⟨rfl, rfl⟩
        · repeat walk_at "ev"
          refine Att.t_form o1 htv6 ?_
          repeat walk_at "ev"
          refine ⟨_, rfl, ite_b (fun e2 => ?_) fun e2 => ?_⟩
          · rw [e, e2]; exact ⟨rfl, rfl⟩
          · repeat walk_at "ev"
            rw [e, e2]; exact ⟨rfl, rfl⟩
      · refine ite_b (fun e => ?_) fun e => ?_
        · repeat walk_at "ev"
          refine ⟨da, _, rfl, P6.da, ?_⟩
          repeat walk_at "ev"
          refine CallA.append P6.da (by rw [List.length_map]; omega) ⟨rfl, ?_⟩
          have P7 := P6.pushD C ((dueL (w0N lk) L).map AV.int ++ [.int (4 * ((wordsN (w0N lk) L : Nat) : Int))])
          repeat walk_at "ev"
          refine ⟨mt, mbp, ⟨g1, g2, g3, g4, g5, g6⟩, htv6.keep (ty_ne htv6 P6.da), ?_⟩
          rw [yes e]
          exact P7
        · repeat walk_at "ev"
          refine ⟨mt, mbp, ⟨g1, g2, g3, g4, g5, g6⟩, htv6, ?_⟩
          rw [edl, e, if_neg Bool.false_ne_true, List.append_nil]
          exact P6
    clear P3 P4 P5 P60 P6 htv6 htv mt mbp g1 g2 g3 g4 g5 g6
    rintro σ7 ⟨mt, mbp, ⟨g1, g2, g3, g4, g5, g6⟩, htv, P7⟩
    -- words
    have epw : pwN p = if (bp && (tv.form == Str.ofString "record" || (tv.form == Str.ofString "array" && decide (tv.len < 0)))) = true then 2 else 1 := by
      unfold pwN
      rw [hkd, htvp]
    refine thn_next (Exs.cons (Ex1.aug o1 (loc_of o2 (by rfl)) g6 (Ev.at_ (.int (pwN p : Nat)) ?_ ?_)))
    · rw [epw]
      refine Ev.ifx (Co.at_ (bp && (tv.form == Str.ofString "record" || (tv.form == Str.ofString "array" && decide (tv.len < 0)))) ?_ ?_)
      · repeat walk_at "ev"
        refine Co.val ?_ (by with_unfolding_all rfl)
        repeat walk_at "ev"
        refine ⟨bp, rfl, ite_b (fun e => ?_) fun e => ?_⟩
        · rw [e]
          repeat walk_at "ev"
          refine Att.t_form o1 htv ?_
          repeat walk_at "ev"
          refine ⟨_, rfl, ite_b (fun e2 => ?_) fun e2 => ?_⟩
          · rw [e2]
            repeat walk_at "ev"
            rw [if_pos rfl]
            repeat walk_at "ev"
            exact ⟨rfl, rfl⟩
          · rw [e2]
            repeat walk_at "ev"
            refine Att.t_form o1 htv ?_
            repeat walk_at "ev"
            refine ⟨_, rfl, ite_b (fun e3 => ?_) fun e3 => ?_⟩
            · rw [e3]
              repeat walk_at "ev"
              refine Att.t_length o1 htv ?_
              repeat walk_at "ev"
              refine ⟨_, rfl, ?_⟩
              cases decide (tv.len < 0)
              · rw [if_neg Bool.false_ne_true]
                repeat walk_at "ev"
                rw [if_neg Bool.false_ne_true]
                repeat walk_at "ev"
                exact ⟨rfl, rfl⟩
              · repeat first | walk_at "ev" | rw [if_pos rfl]
                exact ⟨rfl, rfl⟩
            · rw [e3]
              repeat walk_at "ev"
              rw [if_neg Bool.false_ne_true]
              repeat walk_at "ev"
              exact ⟨rfl, rfl⟩
        · rw [e]
          exact ⟨rfl, rfl⟩
      · cases (bp && (tv.form == Str.ofString "record" || (tv.form == Str.ofString "array" && decide (tv.len < 0))))
        · rw [if_neg Bool.false_ne_true, if_neg Bool.false_ne_true]
          repeat walk_at "ev"
          exact ⟨rfl, rfl⟩
        · rw [if_pos rfl, if_pos rfl]
          repeat walk_at "ev"
          exact ⟨rfl, rfl⟩
    · repeat walk_at "ev"
      refine h _ p P7 ⟨g1, g2, g3, g4, g5, ?_⟩
      rw [wordsN_snoc]
      rfl⟩
end
section
variable {w : World} {mean : ExcName → Option Value} {mg mb : Str → Option Value}
theorem lawC : ∃ body scope, IsLaw w mean mg mb body scope ∧ ∀ (φ : Fx) (σ : St) (Q : AF → St → Prop) (T : Addr → Option TI) (G : Addr → Option AO) (cp ct cr cm ts pl rl bo ch b it ma sl : Addr) (rs : List Addr) (B : Nat) (shp : List (Addr × TI)),
    φ.Ok (WX w mean mg mb) → Room φ 60 → φ.cs = scope → φ.cl = [(Str.ofString "marks", cm), (Str.ofString "records", cr), (Str.ofString "types", ct), (Str.ofString "pool", cp)] → Lx cp ct cr cm T G σ.H ts pl rl bo ch b it ma rs B →
    σ.m "shapes" = some (.ref sl) → σ.H sl = some (.lst (shp.map fun p : Addr × TI => AV.ref p.1)) → sl ≠ ts → sl ≠ pl → (∀ p ∈ shp, T p.1 = some p.2) → shp.length ≤ 5 →
    (∀ σ', Le G σ'.H → σ'.m "shapes" = some (.ref sl) → σ'.H sl = some (.lst (shp.map fun p : Addr × TI => AV.ref p.1)) → Exs (WX w mean mg mb) φ (body.drop 18) Q σ') → Exs (WX w mean mg mb) φ (body.drop 10) Q σ := by
  exact ⟨_, _, ⟨_, _, _, _, _, _, _, _, _, _, _, _, _, by show List.lookup _ (hd.heap_1 _) = _; k_is⟩, by
    intro φ σ Q T G cp ct cr cm ts pl rl bo ch b it ma sl rs B shp o1 hroom o2 o3 X m1 hsl ns1 ns2 hT hsl5 h
    simp only [List.drop_succ_cons, List.drop_zero] at h ⊢
    have hp := X.p
    -- linked
    repeat walk_at "ev"
    walk_at "call"
    repeat walk_at "ev"
    refine law_pick_spec o1 (hroom.mono (by omega) : Room φ 2) X.cx.p (by decide) fun q H1 hq hp1 k1 => ?_
    have X1 := X.pool hp1 k1
    have hsl1 := k1 sl ns2 _ hsl
    clear hp
    repeat walk_at "ev"
    generalize ((q : Int) == 1) = lk
    refine ⟨by decide, fun pa hpa => ?_⟩
    have hpa' : H1 pa = none := hpa
    walk_at "ev"
    -- words
    refine Exs.cons (Ex1.join (fun σ' => σ'.m "linked" = some (.bool lk) ∧ σ'.m "params" = some (.ref pa) ∧ σ'.m "shapes" = some (.ref sl) ∧ σ'.m "words" = some (.int (w0N lk : Nat)) ∧ σ'.H = hset H1 pa (.lst [])) ?_ ?_)
    · intro PJ hPJ
      refine Ex1.assign o1 (loc_of o2 (by rfl)) (Ev.ifx (Co.val ?_ (by with_unfolding_all rfl))) (by rfl)
      repeat walk_at "ev"
      refine ⟨lk, rfl, ?_⟩
      cases lk
      · rw [if_neg Bool.false_ne_true]
        repeat walk_at "ev"
        exact ⟨rfl, rfl, m1, rfl, rfl⟩
      · rw [if_pos rfl]
        repeat walk_at "ev"
        exact ⟨rfl, rfl, m1, rfl, rfl⟩
    rintro ⟨m2, H2⟩ ⟨g1, g2, g3, g4, eH⟩
    obtain rfl : H2 = hset H1 pa (.lst []) := eH
    repeat walk_at "ev"
    refine ⟨by decide, fun da hda => ?_⟩
    repeat walk_at "ev"
    refine ⟨by decide, fun sa hsa => ?_⟩
    have hda' : hset H1 pa (.lst []) da = none := hda
    have hsa' : hset (hset H1 pa (.lst [])) da (.lst []) sa = none := hsa
    have l1 : Le H1 (hset H1 pa (.lst [])) := Le.new Le.rfl' hpa'
    have l2 : Le H1 (hset (hset H1 pa (.lst [])) da (.lst [])) := Le.new l1 hda'
    have l3 : Le H1 (hset (hset (hset H1 pa (.lst [])) da (.lst [])) sa (.lst [])) := Le.new l2 hsa'
    obtain ⟨fl, figs, i0, mix, a0, r0, hpl, hfl, hpool⟩ := X1.cx.p
    have X4 := X1.le l3
    have epa : hset (hset (hset H1 pa (.lst [])) da (.lst [])) sa (.lst []) pa = some (.lst []) := (Le.new (Le.new Le.rfl' hda') hsa') _ _ hset_self
    have eda : hset (hset (hset H1 pa (.lst [])) da (.lst [])) sa (.lst []) da = some (.lst []) := (Le.new Le.rfl' hsa') _ _ hset_self
    have esa : hset (hset (hset H1 pa (.lst [])) da (.lst [])) sa (.lst []) sa = some (.lst []) := hset_self
    have f1 : ∀ {a o}, H1 a = some o → pa ≠ a := fun e e' => by rw [← e', hpa'] at e; cases e
    have f2 : ∀ {a o}, H1 a = some o → da ≠ a := fun e e' => by have := Le.new (o := .lst []) Le.rfl' hpa' _ _ e; rw [← e', hda'] at this; cases this
    have f3 : ∀ {a o}, H1 a = some o → sa ≠ a := fun e e' => by have := l2 _ _ e; rw [← e', hsa'] at this; cases this
    have npd : pa ≠ da := fun e => by rw [← e] at hda'; exact absurd (hset_self.symm.trans hda') (by simp)
    have nps : pa ≠ sa := fun e => by
      have := (Le.new (o := .lst []) Le.rfl' hda') _ _ (hset_self (H := H1) (a := pa) (o := .lst []))
      rw [← e] at hsa'
      exact absurd (this.symm.trans hsa') (by simp)
    have nds : da ≠ sa := fun e => by rw [← e] at hsa'; exact absurd (hset_self.symm.trans hsa') (by simp)
    have gpa : G pa = none := X1.cx.le.none hpa'
    have gda : G da = none := (X1.cx.le.trans l1).none hda'
    have gsa : G sa = none := (X1.cx.le.trans l2).none hsa'
    have ht := X4.t
    walk_at "ev"
    -- the loop
    refine Exs.cons (Ex1.join (fun σ' => ∃ (c0 : Addr) (L : List PE) (cll : List AV), HC G pl rl pa da sa sl c0 fl ∧ L.length ≤ 6 ∧ HP cp ct cr cm T G ts pl rl bo ch b it ma rs B pa da sa sl c0 fl (shp.map fun p : Addr × TI => AV.ref p.1) cll σ'.H L (L.map fun p : PE => AV.ref p.o) ((dueL (w0N lk) L).map AV.int) ((spotsGo (w0N lk) L).map AV.int) ∧ MJ lk pa da sa sl (wordsN (w0N lk) L) σ') ?_ ?_)
    · intro PJ hPJ
      refine Ex1.forK o1 (loc_of o2 (by rfl)) ?_ (by intro _; rfl)
      repeat walk_at "ev"
      obtain ⟨fs, hts, hS⟩ := X4.cx.s
      refine Att.own o1 hts aOk_S_integer hS.it (fun w h => by cases h) ?_
      repeat walk_at "ev"
      refine ⟨by simp, fun a ha => ?_⟩
      have ha' : hset (hset (hset H1 pa (.lst [])) da (.lst [])) sa (.lst []) a = none := ha
      have l5 : Le (hset (hset (hset H1 pa (.lst [])) da (.lst [])) sa (.lst [])) (hset (hset (hset (hset H1 pa (.lst [])) da (.lst [])) sa (.lst [])) a (.lst [.ref it])) := Le.new Le.rfl' ha'
      refine Bin.cat (l5 _ _ (l3 _ _ hsl1)) hset_self (by rw [List.length_map]; omega) (by simp) fun c0 hc0 => ?_
      have hc0' : hset (hset (hset (hset H1 pa (.lst [])) da (.lst [])) sa (.lst [])) a (.lst [.ref it]) c0 = none := hc0
      obtain ⟨tit, ti1, _⟩ := X4.cx.pr it (by simp)
      have e : (shp.map fun p : Addr × TI => AV.ref p.1) ++ [.ref it] = (shp ++ [(it, tit)]).map fun p : Addr × TI => AV.ref p.1 := by rw [List.map_append]; rfl
      rw [e]
      have l6 := l5.trans (Le.new (o := .lst ((shp ++ [(it, tit)]).map fun p : Addr × TI => AV.ref p.1)) Le.rfl' hc0')
      have f4 : ∀ {y o}, hset (hset (hset H1 pa (.lst [])) da (.lst [])) sa (.lst []) y = some o → y ≠ c0 := fun e e' => by have := l5 _ _ e; rw [e', hc0'] at this; cases this
      have nc0 : c0 ≠ pl := Ne.symm (f4 (l3 _ _ hpl))
      have C : HC G pl rl pa da sa sl c0 fl := ⟨npd, nps, nds, ⟨f1 hpl, f1 X1.cx.frl, f1 hsl1, f4 epa, f1 hfl⟩, ⟨f2 hpl, f2 X1.cx.frl, f2 hsl1, f4 eda, f2 hfl⟩, ⟨f3 hpl, f3 X1.cx.frl, f3 hsl1, f4 esa, f3 hfl⟩, ns2, nc0, gpa, gda, gsa⟩
      refine ⟨c0, _, fun i σ' => ∃ L : List PE, L.length = i ∧ HP cp ct cr cm T G ts pl rl bo ch b it ma rs B pa da sa sl c0 fl (shp.map fun p : Addr × TI => AV.ref p.1) ((shp ++ [(it, tit)]).map fun p : Addr × TI => AV.ref p.1) σ'.H L (L.map fun p : PE => AV.ref p.o) ((dueL (w0N lk) L).map AV.int) ((spotsGo (w0N lk) L).map AV.int) ∧ MJ lk pa da sa sl (wordsN (w0N lk) L) σ',
        rfl, hset_self, ⟨[], rfl, ⟨X4.le l6, l6 _ _ epa, l6 _ _ eda, l6 _ _ esa, l6 _ _ (l3 _ _ hsl1), hset_self, ⟨_, l6 _ _ (l3 _ _ hpl)⟩, fun p hp => absurd hp (by simp), by simp⟩, ⟨g1, g2, rfl, rfl, g3, g4⟩⟩, fun i σ' ⟨L, _, P, _⟩ => P.c0, ?_, ?_⟩
      · rintro i a2 σ' hai ⟨L, hl, P, M⟩
        intro JN hJN
        rw [List.getElem?_map] at hai
        cases hi : (shp ++ [(it, tit)])[i]? with
        | none => rw [hi] at hai; cases hai
        | some p =>
          rw [hi] at hai
          obtain rfl := Option.some.inj hai
          have hTp : T p.1 = some p.2 := by
            rcases List.mem_append.mp (List.mem_of_getElem? hi) with hm | hm
            · exact hT p hm
            · obtain rfl := List.mem_singleton.mp hm
              exact ti1
          have hil := (List.getElem?_eq_some_iff.mp hi).1
          rw [List.length_append] at hil
          simp only [List.length_cons, List.length_nil] at hil
          obtain ⟨b2, s2, i2, h2⟩ := lawC2 (w := w) (mean := mean) (mg := mg) (mb := mb)
          obtain ⟨rfl, rfl⟩ := i2.eq ⟨_, _, _, _, _, _, _, _, _, _, _, _, _, by show List.lookup _ (hd.heap_1 _) = _; k_is⟩
          obtain ⟨q1, q2, q3, q4, q5, q6⟩ := M
          exact h2 φ (σ'.set (Str.ofString "t") (.ref p.1)) _ T G cp ct cr cm ts pl rl bo ch b it ma rs B pa da sa sl c0 fl _ _ L lk p.1 p.2 o1 hroom o2 o3 C P ⟨q1, q2, q3, q4, q5, q6⟩ rfl hTp (by omega) (fun σ'' p' P' M' => turn_next hJN ⟨L ++ [p'], by rw [List.length_append, hl]; rfl, P', M'⟩)
      · rintro σ' ⟨L, hl, P, M⟩
        rw [List.length_map, List.length_append] at hl
        simp only [List.length_cons, List.length_nil] at hl
        rw [hPJ]; exact ⟨c0, L, _, C, by omega, P, M⟩
    · rintro σ3 ⟨c0, L, cll, C, hL6, P, ⟨q1, q2, q3, q4, q5, q6⟩⟩
      have hnd := P.nd
      refine thn_next (Exs.cons (Ex1.if_ (Co.weak (P := fun c σ' => c = false ∧ σ'.m = σ3.m ∧ Le G σ'.H ∧ σ'.H sl = some (.lst (shp.map fun p : Addr × TI => AV.ref p.1)) ∧ σ'.H pa = some (.lst (L.map fun p : PE => AV.ref p.o)) ∧ σ'.H da = some (.lst ((dueL (w0N lk) L).map AV.int)) ∧
        ∀ (j : Nat) (p : PE), L[j]? = some p → ObAt σ'.H p.o (p.placed j (4 * ((wordsN (w0N lk) (L.take j) : Nat) : Int))) ∧ TyAt σ'.H p.ov.type p.tv) ?_ ?_)))
      · repeat walk_at "ev"
        walk_at "call"
        repeat walk_at "ev"
        refine place_params_spec o1 (hroom.mono (by omega) : Room φ 2) P.pa (fun p hp => ⟨(P.ob p hp).1, (P.ob p hp).2.1⟩) hnd (by omega) fun H4 kp4 ob4 => ?_
        have nO : ∀ {y u}, σ3.H y = some (.lst u) → y ∉ L.map PE.o := fun {y u} e hm => by
          obtain ⟨p, hp, rfl⟩ := List.mem_map.mp hm
          exact (P.ob p hp).1.ne_lst e rfl
        have hpa4 := kp4 _ (nO P.pa) _ P.pa
        have hda4 := kp4 _ (nO P.da) _ P.da
        have hsa4 := kp4 _ (nO P.sa) _ P.sa
        have hsl4 := kp4 _ (nO P.sl) _ P.sl
        have g4' : Le G H4 := fun y o e => kp4 y (fun hm => by
          obtain ⟨p, hp, rfl⟩ := List.mem_map.mp hm
          rw [(P.ob p hp).2.2] at e; cases e) o (P.x.cx.le y o e)
        have ty4 : ∀ p ∈ L, TyAt H4 p.ov.type p.tv := fun p hp => by
          obtain ⟨gs, e1, e2⟩ := (P.ob p hp).2.1
          refine ⟨gs, kp4 _ (fun hm => ?_) _ e1, e2⟩
          obtain ⟨p', hp', e⟩ := List.mem_map.mp hm
          obtain ⟨gs', e3, _⟩ := (P.ob p' hp').1
          rw [e, e1] at e3; cases e3
        repeat walk_at "ev"
        refine ⟨_, rfl, ite_f (by simp) ?_⟩
        repeat walk_at "ev"
        -- the places
        refine Ev.comp (p := ⟨0, 0, 0, 0⟩) o1 (clos_of o3 (fun _ _ _ _ _ => by rfl)) (by decide) (by rfl) (by decide) (by rfl) ?_ (by intro _; rfl)
        refine comp_iter (fun v σ' => v = .ref pa ∧ σ' = ⟨σ3.m, H4⟩) ?_ ?_
        · repeat walk_at "ev"
          exact ⟨rfl, rfl⟩
        rintro v0 σ5 ⟨e, rfl⟩
        obtain rfl := er_ref e
        refine ⟨L.map (fun p : PE => AV.ref p.o), _, _, fun i ys σ' => σ' = ⟨σ3.m, H4⟩ ∧ ys = ((spotsGo (w0N lk) L).take i).map AV.int, Src.list, hpa4, ⟨rfl, rfl⟩, ?_, by rw [List.length_map]; omega, ?_, ?_⟩
        · rintro i ys σ' ⟨rfl, rfl⟩
          refine ⟨hpa4, ?_⟩
          rw [List.length_map, List.length_take]; exact Nat.min_le_left _ _
        · rintro i a ys σ' Ca oC hai ⟨rfl, rfl⟩ hC
          have ofx := ok_fix o1 ((Ca, oC) :: φ.fix)
          rw [List.getElem?_map] at hai
          cases hi : L[i]? with
          | none => rw [hi] at hai; cases hai
          | some p =>
            rw [hi] at hai
            obtain rfl := Option.some.inj hai
            refine tests_nil ?_
            repeat first | walk_at "ec" | walk_at "ev"
            refine Att.o_offset ofx (ob4 i p hi) ?_
            refine ⟨rfl, ?_⟩
            rw [List.take_add_one, spotsGo_get _ _ _ _ hi, List.map_append]; rfl
        rintro ys σ' ⟨rfl, rfl⟩ c hc
        have hc' : H4 c = none := hc
        have l5 := fun o => Le.new (o := o) (Le.rfl' (G := H4)) hc'
        have eall : (spotsGo (w0N lk) L).take (L.map (fun p : PE => AV.ref p.o)).length = spotsGo (w0N lk) L := List.take_of_length_le (by rw [spotsGo_length, List.length_map]; exact Nat.le_refl _)
        rw [eall]
        repeat walk_at "ev"
        refine Cmp.neL (xs := spotsGo (w0N lk) L) (ys := spotsGo (w0N lk) L) hset_self (l5 _ _ _ hsa4) hroom.un ?_
        refine ⟨_, rfl, ite_f (by simp) ?_⟩
        repeat walk_at "ev"
        -- the slots
        refine Ev.comp (p := ⟨0, 0, 0, 0⟩) o1 (clos_of o3 (fun _ _ _ _ _ => by rfl)) (by decide) (by rfl) (by decide) (by rfl) ?_ (by intro _; rfl)
        refine comp_iter (fun v σ' => v = .ref pa ∧ σ'.m = σ3.m ∧ σ'.H = hset H4 c (.lst ((spotsGo (w0N lk) L).map AV.int))) ?_ ?_
        · repeat walk_at "ev"
          exact ⟨rfl, rfl, rfl⟩
        rintro v0 ⟨m6, H6⟩ ⟨e, em, eH6⟩
        obtain rfl := er_ref e
        obtain rfl : m6 = σ3.m := em
        obtain rfl : H6 = hset H4 c (.lst ((spotsGo (w0N lk) L).map AV.int)) := eH6
        refine ⟨L.map (fun p : PE => AV.ref p.o), _, _, fun i ys σ' => σ' = ⟨σ3.m, hset H4 c (.lst ((spotsGo (w0N lk) L).map AV.int))⟩ ∧ ys = (List.range i).map (fun j : Nat => AV.int j), Src.list, l5 _ _ _ hpa4, ⟨rfl, rfl⟩, ?_, by rw [List.length_map]; omega, ?_, ?_⟩
        · rintro i ys σ' ⟨rfl, rfl⟩
          refine ⟨l5 _ _ _ hpa4, ?_⟩
          rw [List.length_map, List.length_range]; exact Nat.le_refl _
        · rintro i a ys σ' Ca oC hai ⟨rfl, rfl⟩ hC
          have ofx := ok_fix o1 ((Ca, oC) :: φ.fix)
          rw [List.getElem?_map] at hai
          cases hi : L[i]? with
          | none => rw [hi] at hai; cases hai
          | some p =>
            rw [hi] at hai
            obtain rfl := Option.some.inj hai
            refine tests_nil ?_
            repeat first | walk_at "ec" | walk_at "ev"
            refine Att.o_slot ofx ((l5 _).ob (ob4 i p hi)) ?_
            refine ⟨rfl, ?_⟩
            rw [List.range_succ, List.map_append]; rfl
        rintro ys σ' ⟨rfl, rfl⟩ d hd
        have hd' : hset H4 c (.lst ((spotsGo (w0N lk) L).map AV.int)) d = none := hd
        rw [List.length_map]
        have l6 := fun o => Le.new (o := o) (Le.rfl' (G := hset H4 c (.lst ((spotsGo (w0N lk) L).map AV.int)))) hd'
        repeat walk_at "ev"
        walk_at "call"
        repeat walk_at "ev"
        walk_at "call"
        repeat walk_at "ev"
        walk_at "call"
        repeat walk_at "ev"
        refine CallA.len (l6 _ _ _ (l5 _ _ _ hpa4)) (by rw [List.length_map]; omega) ?_
        rw [List.length_map]
        repeat walk_at "ev"
        refine CallA.range fun ra hra => ?_
        have hra' : hset (hset H4 c (.lst ((spotsGo (w0N lk) L).map AV.int))) d (.lst ((List.range L.length).map (fun j : Nat => AV.int j))) ra = none := hra
        have l7 := fun o => Le.new (o := o) (Le.rfl' (G := hset (hset H4 c (.lst ((spotsGo (w0N lk) L).map AV.int))) d (.lst ((List.range L.length).map (fun j : Nat => AV.int j))))) hra'
        repeat walk_at "ev"
        refine CallA.listRange hset_self (by decide) (by decide) (by omega) (by omega) (by omega) fun e he => ?_
        have l8 : Le H4 (hset (hset (hset (hset H4 c (.lst ((spotsGo (w0N lk) L).map AV.int))) d (.lst ((List.range L.length).map (fun j : Nat => AV.int j)))) ra (.rng 0 (L.length : Nat))) e (.lst (rngL 0 (L.length : Nat)))) := (((l5 _).trans (l6 _)).trans (l7 _)).trans (Le.new Le.rfl' he)
        repeat walk_at "ev"
        refine Cmp.neL (xs := (List.range L.length).map Int.ofNat) (ys := (List.range L.length).map Int.ofNat) ?_ ?_ hroom.un ?_
        · refine Le.new (o := .lst (rngL 0 (L.length : Nat))) Le.rfl' he _ _ (l7 (.rng 0 (L.length : Nat)) _ _ ?_)
          rw [List.map_map]
          exact hset_self
        · rw [List.map_map]
          refine hset_self.trans ?_
          congr 2
          unfold rngL
          rw [Int.sub_zero, Int.toNat_natCast]
          exact List.map_congr_left fun i _ => by rw [Int.zero_add]; rfl
        refine ⟨_, rfl, ?_⟩
        rw [show (!decide ((List.range L.length).map Int.ofNat = (List.range L.length).map Int.ofNat)) = false by simp]
        try rw [if_neg Bool.false_ne_true]
        repeat walk_at "ev"
        exact ⟨rfl, rfl, g4'.trans l8, l8 _ _ hsl4, l8 _ _ hpa4, l8 _ _ hda4, fun j p hj => ⟨l8.ob (ob4 j p hj), l8.ty (ty4 p (List.mem_of_getElem? hj))⟩⟩
      · rintro c ⟨m4, H4⟩ ⟨rfl, em, g4, hsl4, hpa4, hda4, ob4⟩
        obtain rfl : m4 = σ3.m := em
        rw [if_neg Bool.false_ne_true]
        walk_at "ev"
        walk_at "ev"
        refine Exs.cons (Ex1.if_ (Co.weak (P := fun c σ' => c = false ∧ σ'.m = σ3.m ∧ Le H4 σ'.H) ?_ ?_))
        · repeat walk_at "ev"
          walk_at "call"
          repeat walk_at "ev"
          refine address_words_spec (L := plcP 0 (w0N lk) L) (b := lk) o1 (hroom.mono (by omega) : Room φ 2) ?_ ?_ ?_ fun r H5 l5 hr5 => ?_
          · rw [plcP_refs]; exact hpa4
          · intro q hq
            obtain ⟨j, hj⟩ := List.getElem?_of_mem hq
            obtain ⟨p, hp, rfl⟩ := plcP_get _ _ _ _ _ hj
            obtain ⟨e1, e2⟩ := ob4 j p hp
            rw [Nat.zero_add]
            exact ⟨e1, e2⟩
          · rw [plcP_length]; omega
          rw [plcP_due] at hr5
          repeat walk_at "ev"
          refine Cmp.neL (xs := dueL (w0N lk) L) (ys := dueL (w0N lk) L) hr5 (l5 _ _ hda4) hroom.un ?_
          refine ⟨_, rfl, ?_⟩
          exact ⟨by simp, rfl, l5⟩
        · rintro c ⟨m5, H5⟩ ⟨rfl, em5, l5⟩
          obtain rfl : m5 = σ3.m := em5
          rw [if_neg Bool.false_ne_true]
          walk_at "ev"
          walk_at "ev"
          exact h ⟨σ3.m, H5⟩ (g4.trans l5) q5 (l5 _ _ hsl4)⟩
end
/-- all but the cells stays -/
def NC (H H' : Addr → Option AO) : Prop := ∀ a o, (∀ v, o ≠ .cell v) → H a = some o → H' a = some o
theorem NC.trans {H H' H'' : Addr → Option AO} (h : NC H H') (k : NC H' H'') : NC H H'' := fun a o n e => k a o n (h a o n e)
theorem Le.nc {H H' : Addr → Option AO} (h : Le H H') : NC H H' := fun a o _ e => h a o e
theorem NC.cell {H : Addr → Option AO} {c : Addr} {u : Option AV} {o : AO} (h : H c = some (.cell u)) : NC H (hset H c o) := fun a x n e => (hset_ne (fun e' => by
  rw [e', h] at e
  exact n _ (Option.some.inj e).symm)).trans e
theorem NC.pr {H H' : Addr → Option AO} (k : NC H H') {t : Addr} {f : Str} {z : Int} (h : PrAt H t f z) : PrAt H' t f z := by
  obtain ⟨v, ⟨gs, e1, e2⟩, h2⟩ := h
  exact ⟨v, ⟨gs, k _ _ (fun v e => by cases e) e1, e2⟩, h2⟩
theorem NC.pool {H H' : Addr → Option AO} (k : NC H H') {pl av : Addr} (h : PoolAt H pl av) : PoolAt H' pl av := by
  obtain ⟨fl, figs, i, mix, a, r, h1, h2, h3⟩ := h
  exact ⟨fl, figs, i, mix, a, r, k _ _ (fun v e => by cases e) h1, k _ _ (fun v e => by cases e) h2, h3⟩
theorem prim_ok {T : Addr → Option TI} {G : Addr → Option AO} {t : Addr} {f : Str} {z : Nat} (h : PrAt G t f (z : Nat)) (hz : z ≤ 100) (h1 : f ≠ "array") (h2 : f ≠ "record") (h3 : f ≠ "pointer") : TyOk T G t (primI f z) := by
  obtain ⟨v, hv, e1, e2⟩ := h
  exact ⟨gd_prim f z hz, v, hv, e1, e2, h1, h2, h3, rfl, rfl⟩
def T0 (bo ch b it ma : Addr) : Addr → Option TI := fun a =>
  if a = bo then some (primI "boolean" 1) else if a = ch then some (primI "char" 1) else if a = b then some (primI "byte" 1) else if a = it then some (primI "integer" 4) else if a = ma then some (primI "set" 4) else none
theorem T0_wf {G : Addr → Option AO} {bo ch b it ma : Addr} (h1 : PrAt G bo "boolean" 1) (h2 : PrAt G ch "char" 1) (h3 : PrAt G b "byte" 1) (h4 : PrAt G it "integer" 4) (h5 : PrAt G ma "set" 4) : WF (T0 bo ch b it ma) G := fun t ti e => by
  unfold T0 at e
  by_cases c1 : t = bo
  · rw [if_pos c1] at e; subst c1; obtain rfl := Option.some.inj e; exact prim_ok h1 (by decide) (by decide) (by decide) (by decide)
  rw [if_neg c1] at e
  by_cases c2 : t = ch
  · rw [if_pos c2] at e; subst c2; obtain rfl := Option.some.inj e; exact prim_ok h2 (by decide) (by decide) (by decide) (by decide)
  rw [if_neg c2] at e
  by_cases c3 : t = b
  · rw [if_pos c3] at e; subst c3; obtain rfl := Option.some.inj e; exact prim_ok h3 (by decide) (by decide) (by decide) (by decide)
  rw [if_neg c3] at e
  by_cases c4 : t = it
  · rw [if_pos c4] at e; subst c4; obtain rfl := Option.some.inj e; exact prim_ok h4 (by decide) (by decide) (by decide) (by decide)
  rw [if_neg c4] at e
  by_cases c5 : t = ma
  · rw [if_pos c5] at e; subst c5; obtain rfl := Option.some.inj e; exact prim_ok h5 (by decide) (by decide) (by decide) (by decide)
  rw [if_neg c5] at e
  cases e
theorem T0_pr {bo ch b it ma x : Addr} (hx : x ∈ [b, it, ch, bo, ma]) : ∃ ti, T0 bo ch b it ma x = some ti ∧ ti.size ≤ 24 ∧ ti.rank ≤ 0 := by
  unfold T0
  by_cases c1 : x = bo
  · rw [if_pos c1]; exact ⟨_, rfl, by decide, by decide⟩
  rw [if_neg c1]
  by_cases c2 : x = ch
  · rw [if_pos c2]; exact ⟨_, rfl, by decide, by decide⟩
  rw [if_neg c2]
  by_cases c3 : x = b
  · rw [if_pos c3]; exact ⟨_, rfl, by decide, by decide⟩
  rw [if_neg c3]
  by_cases c4 : x = it
  · rw [if_pos c4]; exact ⟨_, rfl, by decide, by decide⟩
  rw [if_neg c4]
  by_cases c5 : x = ma
  · rw [if_pos c5]; exact ⟨_, rfl, by decide, by decide⟩
  simp only [List.mem_cons, List.not_mem_nil, or_false] at hx
  rcases hx with h | h | h | h | h <;> contradiction
theorem PrAt.ext {H : Addr → Option AO} {S : List Addr} {t : Addr} {f : Str} {z : Int} (h : PrAt H t f z) (ht : t ∈ S) : PrAt (ext (fun _ => none) H S) t f z := by
  obtain ⟨v, hv, h2⟩ := h
  exact ⟨v, ext_ty (fun _ _ e => by cases e) ht hv, h2⟩
/-- the first ghosts -/
theorem Cx.start {H : Addr → Option AO} {ts pl rl bo ch b it ma : Addr} {fs : List (Str × AV)} (s1 : H ts = some (.ins 180 fs)) (s2 : IsS fs bo ch b it ma) (hp : PoolAt H pl rl) (hr : H rl = some (.lst [])) (ne : rl ≠ pl)
    (h1 : PrAt H bo "boolean" 1) (h2 : PrAt H ch "char" 1) (h3 : PrAt H b "byte" 1) (h4 : PrAt H it "integer" 4) (h5 : PrAt H ma "set" 4) :
    ∃ G, (∀ a, (∀ v, ¬ TyAt H a v) → G a = none) ∧ Cx (T0 bo ch b it ma) G H ts pl rl bo ch b it ma [] 0 := by
  have key : ∀ a, (∀ v, ¬ TyAt H a v) → ext (fun _ => none) H [b, it, ch, bo, ma] a = none := fun a ha => ext_none rfl fun hm => by
    simp only [List.mem_cons, List.not_mem_nil, or_false] at hm
    rcases hm with rfl | rfl | rfl | rfl | rfl
    · obtain ⟨v, hv, _⟩ := h3; exact ha v hv
    · obtain ⟨v, hv, _⟩ := h4; exact ha v hv
    · obtain ⟨v, hv, _⟩ := h2; exact ha v hv
    · obtain ⟨v, hv, _⟩ := h1; exact ha v hv
    · obtain ⟨v, hv, _⟩ := h5; exact ha v hv
  refine ⟨ext (fun _ => none) H [b, it, ch, bo, ma], key, ?_⟩
  exact {
    wf := T0_wf (h1.ext (by simp)) (h2.ext (by simp)) (h3.ext (by simp)) (h4.ext (by simp)) (h5.ext (by simp))
    le := ext_sub fun _ _ e => by cases e
    s := ⟨fs, s1, s2⟩
    gts := key _ fun v hv => cls_ne hv s1 rfl
    p := hp
    gpl := key _ fun v hv => by
      obtain ⟨_, _, _, _, _, _, g, _⟩ := hp
      exact hv.ne_lst g rfl
    pr := fun x hx => T0_pr hx
    frl := hr
    frs := fun r hr => absurd hr (by simp)
    rn := by simp
    ne := ne
    hB := by omega }
section
variable {w : World} {mean : ExcName → Option Value} {mg mb : Str → Option Value}
theorem lawAll : ∃ body scope, IsLaw w mean mg mb body scope ∧ ∀ (φ : Fx) (σ : St) (Q : AF → St → Prop) (cp ct cr cm sc : Addr) (xs : List Int),
    φ.Ok (WX w mean mg mb) → Room φ 60 → φ.cs = scope → φ.cl = [(Str.ofString "marks", cm), (Str.ofString "records", cr), (Str.ofString "types", ct), (Str.ofString "pool", cp)] →
    σ.m "script" = some (.ref sc) → σ.H sc = some (.old (xs.map AV.int)) → xs.length ≤ 1000 → σ.H cp = some (.cell none) → σ.H ct = some (.cell none) → σ.H cr = some (.cell none) → σ.H cm = some (.cell none) →
    cp ≠ ct → cp ≠ cr → ct ≠ cr → cm ≠ cp → cm ≠ ct → cm ≠ cr → (∀ σ', Q (.ret (.bool true)) σ') → Exs (WX w mean mg mb) φ body Q σ := by
  exact ⟨_, _, ⟨_, _, _, _, _, _, _, _, _, _, _, _, _, by show List.lookup _ (hd.heap_1 _) = _; k_is⟩, by
    intro φ σ Q cp ct cr cm sc xs o1 hroom o2 o3 ms hsc hxs hcp hct hcr hcm n1 n2 n3 n4 n5 n6 h
    -- the pool
    refine Exs.cons (Ex1.assignC o1 (c := cp) (loc_of o2 (by rfl)) (cl_of o3 (by rfl)) ?_ (by rfl))
    walk_at "call"
    repeat walk_at "ev"
    refine law_pool_spec o1 (hroom.mono (by omega) : Room φ 2) hsc hxs fun pl H1 pl0 hp1 l1 hfl1 => ?_
    refine ⟨⟨_, l1 _ _ hcp⟩, ?_⟩
    have p2 : PoolAt (hset H1 cp (.cell (some (.ref pl)))) pl pl := (NC.cell (l1 _ _ hcp)).pool hp1
    have cp2 : hset H1 cp (.cell (some (.ref pl))) cp = some (.cell (some (.ref pl))) := hset_self
    have ct2 : hset H1 cp (.cell (some (.ref pl))) ct = some (.cell none) := (hset_ne (Ne.symm n1)).trans (l1 _ _ hct)
    have cr2 : hset H1 cp (.cell (some (.ref pl))) cr = some (.cell none) := (hset_ne (Ne.symm n2)).trans (l1 _ _ hcr)
    have cm2 : hset H1 cp (.cell (some (.ref pl))) cm = some (.cell none) := (hset_ne n4).trans (l1 _ _ hcm)
    refine thn_next ?_
    show Exs _ _ _ _ ⟨σ.m, hset H1 cp (.cell (some (.ref pl)))⟩
    generalize hset H1 cp (.cell (some (.ref pl))) = H2 at p2 cp2 ct2 cr2 cm2
    -- the types
    refine (Exs.cons (Ex1.assignC o1 (c := ct) (loc_of o2 (by rfl)) (cl_of o3 (by rfl)) ?_ (by rfl)))
    walk_at "call"
    repeat walk_at "ev"
    refine Types_spec o1 (hroom.mono (by omega) : Room φ 5) fun ts fs bo ch b it ma H3 ts0 hts hS hbo hch hb hit hma bo0 ch0 b0 it0 ma0 l3 => ?_
    have ts0' : H2 ts = none := ts0
    have l3' : Le H2 H3 := l3
    refine ⟨⟨_, l3' _ _ ct2⟩, ?_⟩
    have nc4 : NC H3 (hset H3 ct (.cell (some (.ref ts)))) := NC.cell (l3' _ _ ct2)
    have p4 : PoolAt (hset H3 ct (.cell (some (.ref ts)))) pl pl := nc4.pool (l3'.nc.pool p2)
    have ts4 := nc4 _ _ (fun v e => by cases e) hts
    have bo4 := nc4.pr hbo
    have ch4 := nc4.pr hch
    have b4 := nc4.pr hb
    have it4 := nc4.pr hit
    have ma4 := nc4.pr hma
    have cp4 : hset H3 ct (.cell (some (.ref ts))) cp = some (.cell (some (.ref pl))) := (hset_ne n1).trans (l3' _ _ cp2)
    have ct4 : hset H3 ct (.cell (some (.ref ts))) ct = some (.cell (some (.ref ts))) := hset_self
    have cr4 : hset H3 ct (.cell (some (.ref ts))) cr = some (.cell none) := (hset_ne (Ne.symm n3)).trans (l3' _ _ cr2)
    have cm4 : hset H3 ct (.cell (some (.ref ts))) cm = some (.cell none) := (hset_ne n5).trans (l3' _ _ cm2)
    refine thn_next ?_
    show Exs _ _ _ _ ⟨σ.m, hset H3 ct (.cell (some (.ref ts)))⟩
    generalize hset H3 ct (.cell (some (.ref ts))) = H4 at p4 ts4 bo4 ch4 b4 it4 ma4 cp4 ct4 cr4 cm4
    -- the records
    refine (Exs.cons (Ex1.assignC o1 (c := cr) (loc_of o2 (by rfl)) (cl_of o3 (by rfl)) ?_ (by rfl)))
    repeat walk_at "ev"
    refine ⟨by decide, fun rl rl0 => ?_⟩
    have rl0' : H4 rl = none := rl0
    have l5 : Le H4 (hset H4 rl (.lst [])) := Le.new Le.rfl' rl0'
    refine ⟨⟨_, l5 _ _ cr4⟩, ?_⟩
    have nc6 : NC H4 (hset (hset H4 rl (.lst [])) cr (.cell (some (.ref rl)))) := l5.nc.trans (NC.cell (l5 _ _ cr4))
    have ncr : rl ≠ cr := fun e => by rw [e, cr4] at rl0'; cases rl0'
    have nrl : rl ≠ pl := fun e => by
      obtain ⟨_, _, _, _, _, _, g, _⟩ := p4
      rw [e, g] at rl0'; cases rl0'
    obtain ⟨G, hG, C⟩ := Cx.start (rl := rl) (nc6 _ _ (fun v e => by cases e) ts4) hS (nc6.pool (p4.re rl0')) ((hset_ne ncr).trans hset_self) nrl (nc6.pr bo4) (nc6.pr ch4) (nc6.pr b4) (nc6.pr it4) (nc6.pr ma4)
    have gcm : hset (hset H4 rl (.lst [])) cr (.cell (some (.ref rl))) cm = some (.cell none) := (hset_ne n6).trans (l5 _ _ cm4)
    have X0 : Lx cp ct cr cm (T0 bo ch b it ma) G (hset (hset H4 rl (.lst [])) cr (.cell (some (.ref rl)))) ts pl rl bo ch b it ma [] 0 :=
      ⟨C, (hset_ne n2).trans (l5 _ _ cp4), (hset_ne n3).trans (l5 _ _ ct4), hset_self, ⟨_, gcm⟩, hG _ (fun v ⟨gs, e, _⟩ => (by rw [gcm] at e; cases e)), hG _ fun v hv => hv.ne_lst C.frl rfl⟩
    refine thn_next ?_
    show Exs _ _ _ _ ⟨σ.m, hset (hset H4 rl (.lst [])) cr (.cell (some (.ref rl)))⟩
    generalize hset (hset H4 rl (.lst [])) cr (.cell (some (.ref rl))) = H6 at X0
    have hp6 := X0.p
    -- the loop
    refine Exs.cons (Ex1.forR o1 (loc_of o2 (by rfl)) (fun i σ' => i ≤ 4 ∧ ∃ (T : Addr → Option TI) (G : Addr → Option AO) (rs : List Addr), Lx cp ct cr cm T G σ'.H ts pl rl bo ch b it ma rs (3 * i) ∧ rs.length ≤ i) ?_ (by intro _; rfl))
    walk_at "call"
    repeat walk_at "ev"
    walk_at "call"
    repeat walk_at "ev"
    refine law_pick_spec o1 (hroom.mono (by omega) : Room φ 2) X0.cx.p (by decide) fun q H7 hq hp7 k7 => ?_
    have X7 := X0.pool hp7 k7
    repeat walk_at "ev"
    refine CallA.range fun ra hra => ?_
    have X8 := X7.le (Le.new (o := .rng 0 (1 + (q : Nat))) (Le.rfl' (G := H7)) hra)
    refine ⟨ra, _, rfl, hset_self, by omega, by omega, ⟨by omega, _, G, [], X8, Nat.le_refl _⟩, ?_, ?_⟩
    · rintro i σ' hi ⟨hi4, T, G', rs, X, hrs⟩
      intro JN hJN
      obtain ⟨b2, s2, i2, h2⟩ := lawLoop (w := w) (mean := mean) (mg := mg) (mb := mb)
      obtain ⟨rfl, rfl⟩ := i2.eq ⟨_, _, _, _, _, _, _, _, _, _, _, _, _, by show List.lookup _ (hd.heap_1 _) = _; k_is⟩
      exact h2 φ (σ'.set (Str.ofString "step") (.int i)) _ T G' cp ct cr cm ts pl rl bo ch b it ma rs (3 * i) o1 hroom o2 o3 X (by omega) (by omega) n4 n5 n6 fun σ'' T'' G'' rs' X'' hrs' => turn_next hJN ⟨by omega, T'', G'', rs', X'', by omega⟩
    · rintro σ' ⟨hi4, T, G', rs, X, hrs⟩
      have X12 : Lx cp ct cr cm T G' σ'.H ts pl rl bo ch b it ma rs 12 := ⟨X.cx.mono (by omega) (by omega), X.p, X.t, X.r, X.m, X.gm, X.gr⟩
      refine thn_next ?_
      obtain ⟨b2, s2, i2, hA⟩ := lawA (w := w) (mean := mean) (mg := mg) (mb := mb)
      obtain ⟨rfl, rfl⟩ := i2.eq ⟨_, _, _, _, _, _, _, _, _, _, _, _, _, by show List.lookup _ (hd.heap_1 _) = _; k_is⟩
      refine hA φ σ' Q T G' cp ct cr cm ts pl rl bo ch b it ma rs 12 o1 hroom o2 o3 X12 (by omega) n4 n5 n6 fun σ1 T1 G1 sl shp X1 m1 hsl ns1 ns2 hT hl => ?_
      obtain ⟨b2, s2, i2, hB⟩ := lawB (w := w) (mean := mean) (mg := mg) (mb := mb)
      obtain ⟨rfl, rfl⟩ := i2.eq ⟨_, _, _, _, _, _, _, _, _, _, _, _, _, by show List.lookup _ (hd.heap_1 _) = _; k_is⟩
      refine hB φ σ1 Q T1 G1 cp ct cr cm ts pl rl bo ch b it ma sl rs 12 shp o1 hroom o2 o3 X1 m1 hsl ns1 ns2 hT hl fun σ2 X2 m2 hsl2 => ?_
      obtain ⟨b2, s2, i2, hC⟩ := lawC (w := w) (mean := mean) (mg := mg) (mb := mb)
      obtain ⟨rfl, rfl⟩ := i2.eq ⟨_, _, _, _, _, _, _, _, _, _, _, _, _, by show List.lookup _ (hd.heap_1 _) = _; k_is⟩
      refine hC φ σ2 Q T1 G1 cp ct cr cm ts pl rl bo ch b it ma sl rs 12 shp o1 hroom o2 o3 X2 m2 hsl2 ns1 ns2 (fun p hp => (hT p hp).1) hl fun σ3 g3 m3 hsl3 => ?_
      obtain ⟨b2, s2, i2, hD⟩ := lawD (w := w) (mean := mean) (mg := mg) (mb := mb)
      obtain ⟨rfl, rfl⟩ := i2.eq ⟨_, _, _, _, _, _, _, _, _, _, _, _, _, by show List.lookup _ (hd.heap_1 _) = _; k_is⟩
      exact hD φ σ3 Q T1 G1 cp ct cr cm sl 12 shp o1 hroom o2 o3 X2.cx.wf g3 m3 hsl3 hT hl h⟩
end
theorem ints_er : ∀ {vs : List Value} {xs : List Int}, IntsAre vs xs → vs.map er = xs.map AV.int
  | _, _, .nil => rfl
  | _, _, .cons n t h => by rw [List.map_cons, List.map_cons, ints_er h]; rfl
def H00 (a1 a2 a3 a4 sc : Addr) (xs : List Int) : Addr → Option AO := fun a =>
  if a = a1 ∨ a = a2 ∨ a = a3 ∨ a = a4 then some (.cell none) else if a = sc then some (.old (xs.map AV.int)) else none
theorem H00_c {a1 a2 a3 a4 sc a : Addr} {xs : List Int} (h : a = a1 ∨ a = a2 ∨ a = a3 ∨ a = a4) : H00 a1 a2 a3 a4 sc xs a = some (.cell none) := if_pos h
theorem lawFin {w : World} {mean : ExcName → Option Value} {mg mb : Str → Option Value} {body : List Stmt} {scope : Scope} {cn : Str} {fa L sc : Addr} {ccd : Value} {h₀ : Heap} {c1 c2 c3 c4 : Obj} {vs : List Value} {xs : List Int}
    {m : Str → Option Value} {s : Shared} {Q : Flow → Shared → Prop} {E : Value → Shared → Prop}
    (I : IsLaw w mean mg mb body scope) (hk : scope.kind = .function)
    (hcl : cellsFrom (L + 1) scope.names [] = [(Str.ofString "marks", L + 1 + 1 + 1 + 1), (Str.ofString "records", L + 1 + 1 + 1), (Str.ofString "types", L + 1 + 1), (Str.ofString "pool", L + 1)])
    (K : Below callerA h₀ [] h₀) (X : (WX w mean mg mb).K.In h₀) (T : Top (WX w mean mg mb).p (WX w mean mg mb).loose mean mg mb h₀)
    (F : Fr h₀ L s.heap m) (N : News h₀ L s.heap [(L + 1 + 1 + 1 + 1, c4), (L + 1 + 1 + 1, c3), (L + 1 + 1, c2), (L + 1, c1)])
    (d4 : c4.data = .cell none) (d3 : c3.data = .cell none) (d2 : c2.data = .cell none) (d1 : c1.data = .cell none)
    (hm : m "script" = some (.ref sc)) (hL : h₀.IsList sc vs.toArray) (hI : IntsAre vs xs) (hlen : xs.length ≤ 1000)
    (hQ : ∀ h tk m', Fr h₀ L h m' → Q (.ret (.bool true)) { s with heap := h, toks := tk }) :
    wpAny (model (WX w mean mg mb).prog w) (callerA.deeper (envOfC cn scope L fa ccd)) (execs body (envOfC cn scope L fa ccd)) Q E s := by
  obtain ⟨b2, s2, i2, h2⟩ := lawAll (w := w) (mean := mean) (mg := mg) (mb := mb)
  obtain ⟨rfl, rfl⟩ := i2.eq I
  have hsc : ∃ o, h₀.get? sc = some o := let ⟨o, e, _⟩ := hL; ⟨o, e⟩
  obtain ⟨osc, hsc⟩ := hsc
  have nsc : ∀ k o, (k, o) ∈ [(L + 1 + 1 + 1 + 1, c4), (L + 1 + 1 + 1, c3), (L + 1 + 1, c2), (L + 1, c1)] → sc ≠ k := fun k o hm e => by
    have := (N _ hm).2.2
    rw [← e, hsc] at this; cases this
  have key := h2 ⟨callerA.depth + 1, 7, some [], cn, s2, L, fa, ccd, cellsFrom (L + 1) s2.names [], [], callerA, h₀, h₀, []⟩
    ⟨fun x => if x = "script" then some (.ref sc) else none, H00 (L + 1) (L + 1 + 1) (L + 1 + 1 + 1) (L + 1 + 1 + 1 + 1) sc xs⟩ (fun f _ => f = .ret (.bool true)) (L + 1) (L + 1 + 1) (L + 1 + 1 + 1) (L + 1 + 1 + 1 + 1) sc xs
    ⟨K, X, T, hk⟩ ⟨show callerA.depth + 1 + 60 ≤ 900 by decide, show 7 + 8 * 60 ≤ 9000 by decide⟩ rfl hcl (by show (if Str.ofString "script" = "script" then some (AV.ref sc) else none) = _; exact if_pos rfl)
    (by
      unfold H00
      show (if _ then _ else _) = _
      rw [if_neg, if_pos rfl]
      rintro (e | e | e | e)
      · exact nsc _ c1 (by simp) e
      · exact nsc _ c2 (by simp) e
      · exact nsc _ c3 (by simp) e
      · exact nsc _ c4 (by simp) e) hlen
    (H00_c (.inl rfl)) (H00_c (.inr (.inl rfl))) (H00_c (.inr (.inr (.inl rfl)))) (H00_c (.inr (.inr (.inr rfl)))) (Nat.ne_of_lt (by omega)) (Nat.ne_of_lt (by omega)) (Nat.ne_of_lt (by omega)) (Nat.ne_of_gt (by omega)) (Nat.ne_of_gt (by omega)) (Nat.ne_of_gt (by omega)) (fun _ => rfl)
  have R0 : Rel (⟨callerA.depth + 1, 7, some [], cn, s2, L, fa, ccd, cellsFrom (L + 1) s2.names [], [], callerA, h₀, h₀, []⟩ : Fx) []
      ⟨fun x => if x = "script" then some (.ref sc) else none, H00 (L + 1) (L + 1 + 1) (L + 1 + 1 + 1) (L + 1 + 1 + 1 + 1) sc xs⟩ s.heap := by
    refine ⟨m, _, fun _ => 0, ⟨fun _ _ e => e, F, N, ?_, ?_, ?_, fun p hp => absurd hp (by simp), fun p hp => absurd hp (by simp)⟩⟩
    · intro x v e
      by_cases hx : x = "script"
      · have e' : some (AV.ref sc) = some v := (if_pos hx).symm.trans e
        obtain rfl := Option.some.inj e'
        exact ⟨_, hx ▸ hm, rfl⟩
      · have e' : none = some v := (if_neg hx).symm.trans e
        cases e'
    · intro a o e
      have e' : H00 (L + 1) (L + 1 + 1) (L + 1 + 1 + 1) (L + 1 + 1 + 1 + 1) sc xs a = some o := e
      unfold H00 at e'
      by_cases ha : a = L + 1 ∨ a = L + 1 + 1 ∨ a = L + 1 + 1 + 1 ∨ a = L + 1 + 1 + 1 + 1
      · rw [if_pos ha] at e'
        obtain rfl := Option.some.inj e'
        rcases ha with rfl | rfl | rfl | rfl
        · exact ⟨c1, _, by simp, d1, rfl⟩
        · exact ⟨c2, _, by simp, d2, rfl⟩
        · exact ⟨c3, _, by simp, d3, rfl⟩
        · exact ⟨c4, _, by simp, d4, rfl⟩
      · rw [if_neg ha] at e'
        by_cases hs : a = sc
        · rw [if_pos hs] at e'
          obtain rfl := Option.some.inj e'
          exact ⟨vs, hs ▸ hL, ints_er hI⟩
        · rw [if_neg hs] at e'; cases e'
    · intro a C fs e
      have e' : H00 (L + 1) (L + 1 + 1) (L + 1 + 1 + 1) (L + 1 + 1 + 1 + 1) sc xs a = some (.ins C fs) := e
      unfold H00 at e'
      split at e'
      · cases e'
      · split at e'
        · cases e'
        · cases e'
  refine wpAny_mono (key [] s R0) (fun f s' ⟨σ', h, tk, e, r, q⟩ => ?_) fun _ _ x => x.elim
  subst e
  obtain ⟨m', _, _, Y⟩ := r
  have : f = .ret (.bool true) := by
    cases f with
    | ret v =>
      have q' : AF.ret (er v) = .ret (.bool true) := q
      injection q' with q'
      rw [er_bool q']
    | _ => cases q
  subst this
  exact hQ h tk m' Y.F
end Mine
set_option maxRecDepth 100000 in
set_option maxHeartbeats 8000000 in
theorem PySem.Challenge.cw_xw0225_01_holds : PySem.Challenge.rw_xw0225_01.Holds := by
  w_on
  o_law
  refine holds_open (q := Mine.hd.view_1) (loose := [Str.ofString "place_globals"]) (Xt := fun s => xlAt Mine.hd.view_1 [] s && recOk (RowW.records (OpenRow.toRowW PySem.Challenge.rw_xw0225_01.row)) s)
    (XP := XL Mine.hd.view_1 []) (Yf := Hook.obs Mine.HK) (Ya := Hook.val Mine.HK) (YP := Hook.says Mine.HK) (N := 2984) Mine.left (Hook.of Mine.HK) (Hook.keeps Mine.HK)
    (fun s e => xl_of s (Bool.and_eq_true_iff.mp e).1) XL.keeps (by rfl) (by rfl) (by rfl) (fun s e => recFacts_of (Bool.and_eq_true_iff.mp e).2) (by rfl) (by assumption) (by decide +kernel) ⟨rfl, rfl, rfl, rfl, rfl, by decide +kernel⟩ ?hw ?hc
  case hw => w_witness2
  case hc =>
    k_fill
    intro w s₀ s₁ mg mb G Y fa o pm cd doc dV kV ho hd hcd hD hmg hg args vals as hpre hlay hrd hwl hlo
    have KX := kIn_of (K := Mine.hd.heap_1) Y
    refine Ground.open G ?_
    intro T B D TE TW
    have TA := at_of_top T
    clear hmg
    wrow_args hpre hlay hrd hwl hlo
    all_goals (
      first | refine enter_call ?_ | w_how
      w_top on
      try refine codeAny_mono ?_ (fun _ _ g => GoodW.toG g)
      have K0 := below_caller (Top.heap T)
      w_call any ho hd hcd hD T F
      clear hd TA
      k_drop)
    all_goals try k_fold
    refine Mine.lawFin (mean := ?mean) (mg := ?mg) (mb := ?mb) (h₀ := ?h0) (c1 := ?c1) (c2 := ?c2) (c3 := ?c3) (c4 := ?c4) (vs := ?vs) (xs := ?xs) (m := ?m) (sc := ?sc) (I := ?I) (hk := ?hk) (hcl := ?hcl) (K := ?K) (X := ?X) (T := ?T) (F := ?F) (N := ?N) (d4 := ?d4) (d3 := ?d3) (d2 := ?d2) (d1 := ?d1) (hm := ?hm) (hL := ?hL) (hI := ?hI) (hlen := ?hlen) (hQ := ?hQ)
    case T => assumption
    case X => assumption
    case K => assumption
    case F => assumption
    case N => assumption
    case hk => rfl
    case hcl => rfl
    case d4 => exact Eq.trans (by assumption) (by rfl)
    case d3 => exact Eq.trans (by assumption) (by rfl)
    case d2 => exact Eq.trans (by assumption) (by rfl)
    case d1 => exact Eq.trans (by assumption) (by rfl)
    case hL => assumption
    case hI => assumption
    case hm => rfl
    case hlen => omega
    case I => exact ⟨_, _, _, _, _, _, _, _, _, _, _, _, _, by show List.lookup _ (Mine.hd.heap_1 _) = _; k_is⟩
    case hQ =>
      intro h tk m' F'
      exact goodW_bool F' (by assumption) (by intro; rfl) (by wrow_post)
