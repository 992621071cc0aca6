import PyProof.Rows.All
import HandS.ForMost
import HandS.ForExc
import HandS.CallSlots
import HandS.Flow
import HandS.Conv
import HandS.Deep
import HandS.Style
import HandS.TupLen
import HandS.IsInst
import HandS.MethStar
import HandS.Zip
import HandS.Zip0
import KE.SortData
import KE.KDictKeyed
import KE.DataCmp
import HandS.Small
import KE.GoesEnum
import HandS.DictComp
import HandS.TupAny
import PyProof.Rows.NestShow
import HandS.Words
import HandS.BoundDict
import KE.KDictDisplayH
import PyProof.EnumIter
import PySem.Challenge.RW_pairnets_k47_whole_partitions_that_meet
set_option Elab.async false
set_option linter.all false
set_option maxRecDepth 100000
namespace PN
open PySem
/-! ## data without addresses of tuples: D; objects: Ob; the heap of objects: Hd -/
inductive D where
  | non
  | bl (b : Bool)
  | int (i : Int)
  | str (s : Str)
  | tup (l : List D)
  | ref (n : Nat)
mutual
def D.beq : D → D → Bool
  | .non, .non => true
  | .bl a, .bl b => a == b
  | .int a, .int b => a == b
  | .str a, .str b => a == b
  | .tup a, .tup b => D.beqL a b
  | .ref a, .ref b => a == b
  | .non, .bl _ => false
  | .non, .int _ => false
  | .non, .str _ => false
  | .non, .tup _ => false
  | .non, .ref _ => false
  | .bl _, .non => false
  | .bl _, .int _ => false
  | .bl _, .str _ => false
  | .bl _, .tup _ => false
  | .bl _, .ref _ => false
  | .int _, .non => false
  | .int _, .bl _ => false
  | .int _, .str _ => false
  | .int _, .tup _ => false
  | .int _, .ref _ => false
  | .str _, .non => false
  | .str _, .bl _ => false
  | .str _, .int _ => false
  | .str _, .tup _ => false
  | .str _, .ref _ => false
  | .tup _, .non => false
  | .tup _, .bl _ => false
  | .tup _, .int _ => false
  | .tup _, .str _ => false
  | .tup _, .ref _ => false
  | .ref _, .non => false
  | .ref _, .bl _ => false
  | .ref _, .int _ => false
  | .ref _, .str _ => false
  | .ref _, .tup _ => false
def D.beqL : List D → List D → Bool
  | [], [] => true
  | a :: l, b :: m => D.beq a b && D.beqL l m
  | [], _ :: _ => false
  | _ :: _, [] => false
end
mutual
theorem D.eq_of_beq : ∀ a b : D, D.beq a b = true → a = b
  | .non, b, h => by cases b <;> simp [D.beq] at h <;> rfl
  | .bl x, b, h => by cases b <;> simp [D.beq] at h; rw [h]
  | .int x, b, h => by cases b <;> simp [D.beq] at h; rw [h]
  | .str x, b, h => by cases b <;> simp [D.beq] at h; rw [h]
  | .tup x, b, h => by
    cases b with
    | tup y => simp [D.beq] at h; rw [D.eq_of_beqL x y h]
    | _ => simp [D.beq] at h
  | .ref x, b, h => by cases b <;> simp [D.beq] at h; rw [h]
theorem D.eq_of_beqL : ∀ a b : List D, D.beqL a b = true → a = b
  | [], [], _ => rfl
  | a :: l, b :: m, h => by
    simp [D.beqL] at h
    rw [D.eq_of_beq a b h.1, D.eq_of_beqL l m h.2]
  | [], _ :: _, h => by simp [D.beqL] at h
  | _ :: _, [], h => by simp [D.beqL] at h
end
mutual
theorem D.beq_self : ∀ a : D, D.beq a a = true
  | .non => by simp [D.beq]
  | .bl x => by simp [D.beq]
  | .int x => by simp [D.beq]
  | .str x => by simp [D.beq]
  | .tup x => by simp [D.beq, D.beqL_self x]
  | .ref x => by simp [D.beq]
theorem D.beqL_self : ∀ a : List D, D.beqL a a = true
  | [] => by simp [D.beqL]
  | a :: l => by simp [D.beqL, D.beq_self a, D.beqL_self l]
end
instance : DecidableEq D := fun a b => if h : D.beq a b = true then isTrue (D.eq_of_beq a b h) else isFalse fun e => h (e ▸ D.beq_self a)
mutual
/-- as the library's data; an address stands as None -/
def D.py : D → PyData
  | .non => .none
  | .bl b => .bool b
  | .int i => .int i
  | .str s => .str s
  | .tup l => .tuple (D.pyL l)
  | .ref _ => .none
def D.pyL : List D → List PyData
  | [] => []
  | d :: l => d.py :: D.pyL l
end
mutual
/-- all addresses in it are below b -/
def D.und (b : Nat) : D → Bool
  | .ref n => decide (n < b)
  | .tup l => D.undL b l
  | .non => true
  | .bl _ => true
  | .int _ => true
  | .str _ => true
def D.undL (b : Nat) : List D → Bool
  | [] => true
  | d :: l => d.und b && D.undL b l
end
/-- no address -/
abbrev D.flat : D → Bool := D.und 0
abbrev D.flatL : List D → Bool := D.undL 0
mutual
def D.strsOk : D → Bool
  | .str x => PyData.canLay0 (.str x)
  | .tup l => D.strsOkL l
  | .non => true
  | .bl _ => true
  | .int _ => true
  | .ref _ => true
def D.strsOkL : List D → Bool
  | [] => true
  | d :: l => d.strsOk && D.strsOkL l
end
mutual
theorem D.und_mono {a b : Nat} (h : a ≤ b) : ∀ d : D, d.und a = true → d.und b = true
  | .ref n, q => by simp [D.und] at q ⊢; omega
  | .tup l, q => by simp [D.und] at q ⊢; exact D.undL_mono h l q
  | .non, _ => by simp [D.und]
  | .bl _, _ => by simp [D.und]
  | .int _, _ => by simp [D.und]
  | .str _, _ => by simp [D.und]
theorem D.undL_mono {a b : Nat} (h : a ≤ b) : ∀ d : List D, D.undL a d = true → D.undL b d = true
  | [], _ => by simp [D.undL]
  | d :: l, q => by simp [D.undL] at q ⊢; exact ⟨D.und_mono h d q.1, D.undL_mono h l q.2⟩
end
inductive Ob where
  | lst (l : List D)
  | frz (l : List D)
  | dic (kvs : List (D × D))
  | ins (c : Str) (fs : List (Str × D))
  deriving DecidableEq
def Ob.mut : Ob → Bool
  | .frz _ => false
  | .lst _ => true
  | .dic _ => true
  | .ins _ _ => true
abbrev Hd := List Ob
/-- an exception: its class's name, its fields -/
structure Ex where
  cls : Str
  fs : List (Str × D)
inductive Rs (α : Type) where
  | ok (a : α) (h : Hd)
  | err (x : Ex) (h : Hd)
  | bad
def Rs.bind {α β : Type} : Rs α → (α → Hd → Rs β) → Rs β
  | .ok a h, f => f a h
  | .err x h, _ => .err x h
  | .bad, _ => .bad
@[simp] theorem Rs.bind_ok {α β : Type} (a : α) (h : Hd) (f : α → Hd → Rs β) : (Rs.ok a h).bind f = f a h := rfl
@[simp] theorem Rs.bind_bad {α β : Type} (f : α → Hd → Rs β) : (Rs.bad : Rs α).bind f = .bad := rfl
@[simp] theorem Rs.bind_err {α β : Type} (x : Ex) (h : Hd) (f : α → Hd → Rs β) : (Rs.err x h : Rs α).bind f = .err x h := rfl
/-- what was made on the way and isn't held by the result is dropped -/
def gc (h : Hd) : Rs D → Rs D
  | .ok d h' =>
    if h'.take h.length = h then
      if d.und h.length then .ok d h
      else match d with
        | .ref n => match h'[n]? with
          | some (.lst l) => if D.undL h.length l then .ok (.ref h.length) (h ++ [.lst l]) else .ok d h'
          | _ => .ok d h'
        | _ => .ok d h'
    else .ok d h'
  | .err x h' => .err x h'
  | .bad => .bad
abbrev Env := List (Option D)
abbrev Se := Env → Hd → Rs D
abbrev St' := Env → Hd → Rs Bool
abbrev Sa := Env → Hd → Rs (List D)
/-- what a def does -/
abbrev Mf := List D → Hd → Rs D
/-! ## the relation -/
open L2
section
variable (H : Hp) (μ : List Addr)
mutual
def RD : D → V → Prop
  | .non, v => v = .non
  | .bl b, v => v = .bl b
  | .int i, v => v = .int i
  | .str s, v => v = .str s
  | .tup l, v => ∃ a vs, v = .ref a ∧ H a = some (.tup vs) ∧ RDs l vs
  | .ref n, v => ∃ a, μ[n]? = some a ∧ v = .ref a
def RDs : List D → List V → Prop
  | [], vs => vs = []
  | d :: l, vs => ∃ v r, vs = v :: r ∧ RD d v ∧ RDs l r
end
end
/-- the written part, the classes' places -/
structure Kx where
  K : PySem.W.Frag
  cl : Str → Option Addr
/-- a dict's key by value; a tuple of such -/
def keyOf : D → Option Key
  | .int i => some (.inl i)
  | .str s => some (.inr s)
  | _ => none
def keysOf : List D → Option (List Key)
  | [] => some []
  | d :: l => match keyOf d, keysOf l with
    | some k, some r => some (k :: r)
    | _, _ => none
def tkeyOf : D → Option (List Key)
  | .tup l => keysOf l
  | _ => none
def REn (H : Hp) (μ : List Addr) : List (Str × D) → List (Str × V) → Prop
  | [], vs => vs = []
  | (k, d) :: l, vs => ∃ v r, vs = (k, v) :: r ∧ RD H μ d v ∧ REn H μ l r
def RKv {κ : Type} (ko : D → Option κ) (H : Hp) (μ : List Addr) : List (D × D) → List (κ × V) → Prop
  | [], vs => vs = []
  | (k, d) :: l, vs => ∃ q v r, vs = (q, v) :: r ∧ ko k = some q ∧ RD H μ d v ∧ RKv ko H μ l r
def RO (k : Kx) (H : Hp) (μ : List Addr) (a : Addr) : Ob → Prop
  | .lst l => ∃ vs, H a = some (.lst vs) ∧ RDs H μ l vs
  | .frz l => ∃ vs, (∃ o, H a = some (.frz o (.lst vs))) ∧ RDs H μ l vs
  | .dic kvs => (∃ vs, H a = some (.dK vs) ∧ RKv keyOf H μ kvs vs) ∨ ∃ vs, H a = some (.dT vs) ∧ RKv tkeyOf H μ kvs vs
  | .ins c fs => ∃ C dx vs, k.cl c = some C ∧ H a = some (.ins C dx vs) ∧ REn H μ fs vs
/-- the objects -/
structure RH (k : Kx) (μ : List Addr) (h : Hd) (H : Hp) : Prop where
  len : μ.length = h.length
  nd : ∀ (i j : Nat) a oi oj, μ[i]? = some a → μ[j]? = some a → h[i]? = some oi → h[j]? = some oj → oi.mut = true → oj.mut = true → i = j
  ob : ∀ (n : Nat) o a, h[n]? = some o → μ[n]? = some a → RO k H μ a o
/-- the slots -/
structure RE (H : Hp) (μ : List Addr) (env : Env) (σ : St) : Prop where
  len : env.length = σ.length
  at_ : ∀ (i : Nat) d, env[i]? = some (some d) → ∃ v, σ[i]? = some (some v) ∧ RD H μ d v
/-- from one state to a later one -/
structure Ext (H : Hp) (μ : List Addr) (H' : Hp) (μ' : List Addr) : Prop where
  pre : ∀ (i : Nat) a, μ[i]? = some a → μ'[i]? = some a
  len : μ.length ≤ μ'.length
  tup : ∀ a xs, H a = some (.tup xs) → H' a = some (.tup xs)
  frz : ∀ a o u, H a = some (.frz o u) → H' a = some (.frz o u)
structure Grow (H : Hp) (μ : List Addr) (H' : Hp) (μ' : List Addr) : Prop extends Ext H μ H' μ' where
  oth : ∀ a u, H a = some u → a ∉ μ → H' a = some u ∧ a ∉ μ'
instance {H μ H' μ'} : Coe (Grow H μ H' μ') (Ext H μ H' μ') := ⟨fun g => g.toExt⟩
theorem Grow.refl {H μ} : Grow H μ H μ := ⟨⟨fun _ _ e => e, Nat.le_refl _, fun _ _ e => e, fun _ _ _ e => e⟩, fun _ _ e n => ⟨e, n⟩⟩
theorem Grow.trans {H μ H1 μ1 H2 μ2} (a : Grow H μ H1 μ1) (b : Grow H1 μ1 H2 μ2) : Grow H μ H2 μ2 :=
  ⟨⟨fun i x e => b.pre i x (a.pre i x e), Nat.le_trans a.len b.len, fun x xs e => b.tup x xs (a.tup x xs e), fun x o u e => b.frz x o u (a.frz x o u e)⟩,
   fun x u e n => b.oth x u (a.oth x u e n).1 (a.oth x u e n).2⟩
mutual
theorem RD.grow {H μ H' μ'} (g : Ext H μ H' μ') : ∀ (d : D) (v : V), RD H μ d v → RD H' μ' d v
  | .non, v, h => by simp only [RD] at h ⊢; exact h
  | .bl b, v, h => by simp only [RD] at h ⊢; exact h
  | .int i, v, h => by simp only [RD] at h ⊢; exact h
  | .str s, v, h => by simp only [RD] at h ⊢; exact h
  | .tup l, v, h => by
    simp only [RD] at h ⊢
    obtain ⟨a, vs, e, t, r⟩ := h
    exact ⟨a, vs, e, g.tup a vs t, RDs.grow g l vs r⟩
  | .ref n, v, h => by
    simp only [RD] at h ⊢
    obtain ⟨a, e, q⟩ := h
    exact ⟨a, g.pre n a e, q⟩
theorem RDs.grow {H μ H' μ'} (g : Ext H μ H' μ') : ∀ (l : List D) (vs : List V), RDs H μ l vs → RDs H' μ' l vs
  | [], vs, h => by simp only [RDs] at h ⊢; exact h
  | d :: l, vs, h => by
    simp only [RDs] at h ⊢
    obtain ⟨v, r, e, h1, h2⟩ := h
    exact ⟨v, r, e, RD.grow g d v h1, RDs.grow g l r h2⟩
end
theorem REn.grow {H μ H' μ'} (g : Ext H μ H' μ') : ∀ (l : List (Str × D)) (vs : List (Str × V)), REn H μ l vs → REn H' μ' l vs
  | [], vs, h => h
  | (k, d) :: l, vs, h => by
    obtain ⟨v, r, e, h1, h2⟩ := h
    exact ⟨v, r, e, RD.grow g d v h1, REn.grow g l r h2⟩
theorem RKv.grow {κ : Type} {ko : D → Option κ} {H μ H' μ'} (g : Ext H μ H' μ') : ∀ (l : List (D × D)) (vs : List (κ × V)), RKv ko H μ l vs → RKv ko H' μ' l vs
  | [], vs, h => h
  | (k, d) :: l, vs, h => by
    obtain ⟨q, v, r, e, e2, h1, h2⟩ := h
    exact ⟨q, v, r, e, e2, RD.grow g d v h1, RKv.grow g l r h2⟩
theorem RE.grow {H μ H' μ' env σ} (g : Ext H μ H' μ') (r : RE H μ env σ) : RE H' μ' env σ :=
  ⟨r.len, fun i d e => let ⟨v, e1, q⟩ := r.at_ i d e; ⟨v, e1, RD.grow g d v q⟩⟩
theorem RDs.length {H μ} : ∀ {l : List D} {vs : List V}, RDs H μ l vs → l.length = vs.length
  | [], _, h => by simp only [RDs] at h; rw [h]; rfl
  | d :: l, _, h => by
    simp only [RDs] at h
    obtain ⟨v, r, rfl, _, h2⟩ := h
    simp [RDs.length h2]
theorem RDs.nil {H μ} : RDs H μ [] [] := by simp only [RDs]
theorem RDs.cons {H μ d v l vs} (h : RD H μ d v) (t : RDs H μ l vs) : RDs H μ (d :: l) (v :: vs) := by simp only [RDs]; exact ⟨v, vs, rfl, h, t⟩
theorem RDs.append {H μ} : ∀ {l l' : List D} {vs vs' : List V}, RDs H μ l vs → RDs H μ l' vs' → RDs H μ (l ++ l') (vs ++ vs')
  | [], _, _, _, h, t => by simp only [RDs] at h; rw [h]; exact t
  | d :: l, _, _, _, h, t => by
    simp only [RDs] at h
    obtain ⟨v, r, rfl, h1, h2⟩ := h
    exact RDs.cons h1 (RDs.append h2 t)
theorem RDs.get {H μ} : ∀ {l : List D} {vs : List V} {i : Nat} {d : D}, RDs H μ l vs → l[i]? = some d → ∃ v, vs[i]? = some v ∧ RD H μ d v
  | [], _, _, _, _, e => by simp at e
  | x :: l, _, 0, d, h, e => by
    simp only [RDs] at h
    obtain ⟨v, r, rfl, h1, h2⟩ := h
    simp at e; subst e
    exact ⟨v, rfl, h1⟩
  | x :: l, _, i + 1, d, h, e => by
    simp only [RDs] at h
    obtain ⟨v, r, rfl, h1, h2⟩ := h
    obtain ⟨w, e1, q⟩ := RDs.get (i := i) h2 (by simpa using e)
    exact ⟨w, by simpa using e1, q⟩
theorem RDs.take {H μ} : ∀ {l : List D} {vs : List V} (n : Nat), RDs H μ l vs → RDs H μ (l.take n) (vs.take n)
  | _, _, 0, _ => by simp; exact RDs.nil
  | [], _, _ + 1, h => by simp only [RDs] at h; rw [h]; exact RDs.nil
  | d :: l, _, n + 1, h => by
    simp only [RDs] at h
    obtain ⟨v, r, rfl, h1, h2⟩ := h
    exact RDs.cons h1 (RDs.take n h2)
theorem RDs.drop {H μ} : ∀ {l : List D} {vs : List V} (n : Nat), RDs H μ l vs → RDs H μ (l.drop n) (vs.drop n)
  | _, _, 0, h => h
  | [], _, _ + 1, h => by simp only [RDs] at h; rw [h]; exact RDs.nil
  | d :: l, _, n + 1, h => by
    simp only [RDs] at h
    obtain ⟨v, r, rfl, h1, h2⟩ := h
    exact RDs.drop n h2
theorem RDs.reverse {H μ} : ∀ {l : List D} {vs : List V}, RDs H μ l vs → RDs H μ l.reverse vs.reverse
  | [], _, h => by simp only [RDs] at h; rw [h]; exact RDs.nil
  | d :: l, _, h => by
    simp only [RDs] at h
    obtain ⟨v, r, rfl, h1, h2⟩ := h
    rw [List.reverse_cons, List.reverse_cons]
    exact RDs.append (RDs.reverse h2) (RDs.cons h1 RDs.nil)
theorem RDs.set {H μ d v} (q : RD H μ d v) : ∀ {l : List D} {vs : List V} (i : Nat), RDs H μ l vs → RDs H μ (l.set i d) (vs.set i v)
  | [], _, _, h => by simp only [RDs] at h; rw [h]; exact RDs.nil
  | x :: l, _, 0, h => by
    simp only [RDs] at h
    obtain ⟨w, r, rfl, h1, h2⟩ := h
    exact RDs.cons q h2
  | x :: l, _, i + 1, h => by
    simp only [RDs] at h
    obtain ⟨w, r, rfl, h1, h2⟩ := h
    exact RDs.cons h1 (RDs.set q i h2)
/-- what a mutable object's place holds -/
theorem RO.mutH {k : Kx} {H μ a o} (r : RO k H μ a o) (m : o.mut = true) : ∃ u, H a = some u ∧ (∀ xs, u ≠ .tup xs) ∧ (∀ ob x, u ≠ .frz ob x) := by
  cases o with
  | lst l => obtain ⟨vs, e, _⟩ := r; exact ⟨_, e, (fun _ z => nomatch z), (fun _ _ z => nomatch z)⟩
  | frz l => exact absurd m (by simp [Ob.mut])
  | dic l =>
    rcases r with ⟨vs, e, _⟩ | ⟨vs, e, _⟩
    · exact ⟨_, e, (fun _ z => nomatch z), (fun _ _ z => nomatch z)⟩
    · exact ⟨_, e, (fun _ z => nomatch z), (fun _ _ z => nomatch z)⟩
  | ins c fs => obtain ⟨C, dx, vs, _, e, _⟩ := r; exact ⟨_, e, (fun _ z => nomatch z), (fun _ _ z => nomatch z)⟩
/-- an object's relation stays where its own place and the tuples do -/
theorem RO.grow {k : Kx} {H μ H' μ' a o} (g : Ext H μ H' μ') (e : o.mut = true → H' a = H a) (r : RO k H μ a o) : RO k H' μ' a o := by
  cases o with
  | lst l => obtain ⟨vs, e1, q⟩ := r; exact ⟨vs, (e rfl).trans e1, RDs.grow g l vs q⟩
  | frz l =>
    obtain ⟨vs, e1, q⟩ := r
    refine ⟨vs, ?_, RDs.grow g l vs q⟩
    obtain ⟨o, e1⟩ := e1
    exact ⟨o, g.frz _ _ _ e1⟩
  | dic l =>
    rcases r with ⟨vs, e1, q⟩ | ⟨vs, e1, q⟩
    · exact .inl ⟨vs, (e rfl).trans e1, RKv.grow g l vs q⟩
    · exact .inr ⟨vs, (e rfl).trans e1, RKv.grow g l vs q⟩
  | ins c fs => obtain ⟨C, dx, vs, e0, e1, q⟩ := r; exact ⟨C, dx, vs, e0, (e rfl).trans e1, REn.grow g fs vs q⟩
/-- a new thing that is no object of ours -/
theorem Grow.fresh {H μ p o} (hp : H p = none) : Grow H μ (upd H p o) μ :=
  ⟨⟨fun _ _ e => e, Nat.le_refl _, fun a xs e => by rw [upd_ne (ne_of_none e hp)]; exact e, fun a ob u e => by rw [upd_ne (ne_of_none e hp)]; exact e⟩, fun a u e n => ⟨by rw [upd_ne (ne_of_none e hp)]; exact e, n⟩⟩
theorem RH.fresh {k : Kx} {H μ h p o} (r : RH k μ h H) (hp : H p = none) : RH k μ h (upd H p o) :=
  ⟨r.len, r.nd, fun n ob a e1 e2 => (r.ob n ob a e1 e2).grow (Grow.fresh hp).toExt fun m => by
    obtain ⟨u, e, _⟩ := (r.ob n ob a e1 e2).mutH m
    rw [upd_ne (ne_of_none e hp)]⟩
theorem Ext.app {H μ p} : Ext H μ H (μ ++ [p]) :=
  ⟨fun i a e => by rw [List.getElem?_append_left (List.getElem?_eq_some_iff.mp e).1]; exact e, by simp, fun _ _ e => e, fun _ _ _ e => e⟩
theorem Ext.trans {H μ H1 μ1 H2 μ2} (a : Ext H μ H1 μ1) (b : Ext H1 μ1 H2 μ2) : Ext H μ H2 μ2 :=
  ⟨fun i x e => b.pre i x (a.pre i x e), Nat.le_trans a.len b.len, fun x xs e => b.tup x xs (a.tup x xs e), fun x o u e => b.frz x o u (a.frz x o u e)⟩
theorem Grow.more {H μ H' μ' p} (g : Grow H μ H' μ') (hp : H p = none) : Grow H μ H' (μ' ++ [p]) :=
  ⟨g.toExt.trans Ext.app, fun a u e n => ⟨(g.oth a u e n).1, fun m => by
    rcases List.mem_append.mp m with m | m
    · exact (g.oth a u e n).2 m
    · have : a = p := by simpa using m
      rw [this, hp] at e; cases e⟩⟩
/-- a new object of ours -/
theorem RH.alloc {k : Kx} {H μ h p o ho} (r : RH k μ h H) (hp : H p = none) (m : o.mut = true) (q : RO k (upd H p ho) (μ ++ [p]) p o) : RH k (μ ++ [p]) (h ++ [o]) (upd H p ho) ∧ Grow H μ (upd H p ho) (μ ++ [p]) := by
  have g : Grow H μ (upd H p ho) (μ ++ [p]) := (Grow.fresh hp).more hp
  have pl : ∀ (n : Nat) (ob : Ob) (a : Addr), h[n]? = some ob → μ[n]? = some a → ob.mut = true → a ≠ p := fun n ob a e1 e2 hm => by
    obtain ⟨u, e, _⟩ := (r.ob n ob a e1 e2).mutH hm
    exact ne_of_none e hp
  have look : ∀ (n : Nat) ob, (h ++ [o])[n]? = some ob → (n < h.length ∧ h[n]? = some ob) ∨ (n = h.length ∧ ob = o) := fun n ob e => by
    by_cases hn : n < h.length
    · rw [List.getElem?_append_left hn] at e; exact .inl ⟨hn, e⟩
    · rw [List.getElem?_append_right (by omega)] at e
      by_cases z : n - h.length = 0
      · rw [z] at e; simp at e; exact .inr ⟨by omega, e.symm⟩
      · rw [List.getElem?_eq_none (by simp; omega)] at e; cases e
  have lookm : ∀ (n : Nat) a, (μ ++ [p])[n]? = some a → (n < h.length ∧ μ[n]? = some a) ∨ (n = h.length ∧ a = p) := fun n a e => by
    rw [← r.len]
    by_cases hn : n < μ.length
    · rw [List.getElem?_append_left hn] at e; exact .inl ⟨hn, e⟩
    · rw [List.getElem?_append_right (by omega)] at e
      by_cases z : n - μ.length = 0
      · rw [z] at e; simp at e; exact .inr ⟨by omega, e.symm⟩
      · rw [List.getElem?_eq_none (by simp; omega)] at e; cases e
  refine ⟨⟨by simp [r.len], fun i j a oi oj e1 e2 e3 e4 m1 m2 => ?_, fun n ob a e1 e2 => ?_⟩, g⟩
  · rcases look i oi e3 with ⟨l1, f1⟩ | ⟨l1, f1⟩ <;> rcases look j oj e4 with ⟨l2, f2⟩ | ⟨l2, f2⟩ <;> rcases lookm i a e1 with ⟨l3, f3⟩ | ⟨l3, f3⟩ <;> rcases lookm j a e2 with ⟨l4, f4⟩ | ⟨l4, f4⟩ <;> try omega
    · exact r.nd i j a oi oj f3 f4 f1 f2 m1 m2
    · exact absurd f4 (pl i oi a f1 f3 m1)
    · exact absurd f3 (pl j oj a f2 f4 m2)
  · rcases look n ob e1 with ⟨l1, f1⟩ | ⟨l1, f1⟩ <;> rcases lookm n a e2 with ⟨l3, f3⟩ | ⟨l3, f3⟩ <;> try omega
    · refine (r.ob n ob a f1 f3).grow g fun hm => ?_
      rw [upd_ne (pl n ob a f1 f3 hm)]
    · subst f1 f3; exact q
/-- an object of ours is written -/
theorem RH.write {k : Kx} {H μ h a o o' ho} {n : Nat} (r : RH k μ h H) (e1 : h[n]? = some o) (e2 : μ[n]? = some a) (m : o.mut = true) (m' : o'.mut = true) (q : Grow H μ (upd H a ho) μ → RO k (upd H a ho) μ a o') :
    RH k μ (h.set n o') (upd H a ho) ∧ Grow H μ (upd H a ho) μ := by
  obtain ⟨u, eu, nt, nf⟩ := (r.ob n o a e1 e2).mutH m
  have g : Grow H μ (upd H a ho) μ := ⟨⟨fun _ _ e => e, Nat.le_refl _, fun b xs e => by rw [upd_ne (ne_of e eu fun z => nt xs z.symm)]; exact e, fun b ob x e => by rw [upd_ne (ne_of e eu fun z => nf ob x z.symm)]; exact e⟩,
    fun b x e m => ⟨by rw [upd_ne (fun z => m (by rw [z]; exact List.mem_of_getElem? e2))]; exact e, m⟩⟩
  have hl : n < h.length := (List.getElem?_eq_some_iff.mp e1).1
  have look : ∀ (j : Nat) ob, (h.set n o')[j]? = some ob → (j = n ∧ ob = o') ∨ (j ≠ n ∧ h[j]? = some ob) := fun j ob e => by
    by_cases z : j = n
    · subst z; rw [List.getElem?_set_self hl] at e; cases e; exact .inl ⟨rfl, rfl⟩
    · rw [List.getElem?_set_ne (Ne.symm z)] at e; exact .inr ⟨z, e⟩
  refine ⟨⟨by simp [r.len], fun i j b oi oj f1 f2 f3 f4 m1 m2 => ?_, fun j ob b f1 f2 => ?_⟩, g⟩
  · rcases look i oi f3 with ⟨z1, z2⟩ | ⟨z1, z2⟩ <;> rcases look j oj f4 with ⟨z3, z4⟩ | ⟨z3, z4⟩
    · omega
    · subst z1; exact r.nd i j b o oj f1 f2 e1 z4 m m2
    · subst z3; exact r.nd i j b oi o f1 f2 z2 e1 m1 m
    · exact r.nd i j b oi oj f1 f2 z2 z4 m1 m2
  · rcases look j ob f1 with ⟨z1, z2⟩ | ⟨z1, z2⟩
    · subst z1 z2
      rw [e2] at f2; cases f2
      exact q g
    · refine (r.ob j ob b z2 f2).grow g fun hm => ?_
      rw [upd_ne fun z => z1 (by subst z; exact r.nd j n b ob o f2 e2 z2 e1 hm m)]
theorem RH.place {k : Kx} {H μ h} {n : Nat} {o : Ob} (r : RH k μ h H) (e : h[n]? = some o) : ∃ a, μ[n]? = some a ∧ RO k H μ a o := by
  have hl : n < μ.length := by rw [r.len]; exact (List.getElem?_eq_some_iff.mp e).1
  exact ⟨μ[n], by simp [hl], r.ob n o _ e (by simp [hl])⟩
/-- every object of ours has a place that something stands at -/
theorem RO.ex {k : Kx} {H μ a o} (r : RO k H μ a o) : ∃ u, H a = some u := by
  cases o with
  | lst l => obtain ⟨vs, e, _⟩ := r; exact ⟨_, e⟩
  | frz l => obtain ⟨vs, ⟨o, e⟩, _⟩ := r; exact ⟨_, e⟩
  | dic l =>
    rcases r with ⟨vs, e, _⟩ | ⟨vs, e, _⟩
    · exact ⟨_, e⟩
    · exact ⟨_, e⟩
  | ins c fs => obtain ⟨C, dx, vs, _, e, _⟩ := r; exact ⟨_, e⟩
theorem RH.out {k : Kx} {H μ h p} (r : RH k μ h H) (hp : H p = none) : p ∉ μ := fun m => by
  obtain ⟨n, hn, e⟩ := List.getElem_of_mem m
  have e2 : μ[n]? = some p := by rw [List.getElem?_eq_getElem hn, e]
  have hn2 : n < h.length := by rw [← r.len]; exact hn
  obtain ⟨u, eu⟩ := (r.ob n h[n] p (by simp [hn2]) e2).ex
  rw [hp] at eu; cases eu
/-- a thing that stood aside becomes one of ours -/
theorem RH.adopt {k : Kx} {H μ h p o} (r : RH k μ h H) (hp : p ∉ μ) (q : RO k H (μ ++ [p]) p o) : RH k (μ ++ [p]) (h ++ [o]) H := by
  have look : ∀ (n : Nat) ob, (h ++ [o])[n]? = some ob → (n < h.length ∧ h[n]? = some ob) ∨ (n = h.length ∧ ob = o) := fun n ob e => by
    by_cases hn : n < h.length
    · rw [List.getElem?_append_left hn] at e; exact .inl ⟨hn, e⟩
    · rw [List.getElem?_append_right (by omega)] at e
      by_cases z : n - h.length = 0
      · rw [z] at e; simp at e; exact .inr ⟨by omega, e.symm⟩
      · rw [List.getElem?_eq_none (by simp; omega)] at e; cases e
  have lookm : ∀ (n : Nat) a, (μ ++ [p])[n]? = some a → (n < h.length ∧ μ[n]? = some a) ∨ (n = h.length ∧ a = p) := fun n a e => by
    rw [← r.len]
    by_cases hn : n < μ.length
    · rw [List.getElem?_append_left hn] at e; exact .inl ⟨hn, e⟩
    · rw [List.getElem?_append_right (by omega)] at e
      by_cases z : n - μ.length = 0
      · rw [z] at e; simp at e; exact .inr ⟨by omega, e.symm⟩
      · rw [List.getElem?_eq_none (by simp; omega)] at e; cases e
  refine ⟨by simp [r.len], fun i j a oi oj e1 e2 e3 e4 m1 m2 => ?_, fun n ob a e1 e2 => ?_⟩
  · rcases look i oi e3 with ⟨l1, f1⟩ | ⟨l1, f1⟩ <;> rcases look j oj e4 with ⟨l2, f2⟩ | ⟨l2, f2⟩ <;> rcases lookm i a e1 with ⟨l3, f3⟩ | ⟨l3, f3⟩ <;> rcases lookm j a e2 with ⟨l4, f4⟩ | ⟨l4, f4⟩ <;> try omega
    · exact r.nd i j a oi oj f3 f4 f1 f2 m1 m2
    · subst f4; exact (hp (List.mem_of_getElem? f3)).elim
    · subst f3; exact (hp (List.mem_of_getElem? f4)).elim
  · rcases look n ob e1 with ⟨l1, f1⟩ | ⟨l1, f1⟩ <;> rcases lookm n a e2 with ⟨l3, f3⟩ | ⟨l3, f3⟩ <;> try omega
    · exact (r.ob n ob a f1 f3).grow Ext.app fun _ => rfl
    · subst f1 f3; exact q
end PN
namespace PN
open PySem L2
/-! ## readings by what is reckoned over D -/
def RX (k : Kx) (H : Hp) (μ : List Addr) (x : Ex) (c : Value) (dx : Option Addr) : Prop := ∃ C, k.cl x.cls = some C ∧ c = .ref C
def PostG {α : Type} (k : Kx) (W : WX) (μ : List Addr) (H : Hp) (σ : L2.St) (okc : α → Hd → Hp → List Addr → Prop) : Rs α → Prop
  | .ok a h' => ∀ H' μ', Grow H μ H' μ' → RH k μ' h' H' → okc a h' H' μ'
  | .err x h' => ∀ H' μ' c dx, Grow H μ H' μ' → RH k μ' h' H' → RX k H' μ' x c dx → W c dx σ H'
  | .bad => False
section
variable {k : Kx} {W : WX} {μ μ1 : List Addr} {H H1 : Hp} {σ : L2.St} {α β : Type}
theorem PostG.later {okc : α → Hd → Hp → List Addr → Prop} {r : Rs α} (p : PostG k W μ H σ okc r) (g : Grow H μ H1 μ1) : PostG k W μ1 H1 σ okc r := by
  cases r with
  | ok a h' => exact fun H' μ' g' r' => p H' μ' (g.trans g') r'
  | err x h' => exact fun H' μ' c dx g' r' => p H' μ' c dx (g.trans g') r'
  | bad => exact p
theorem PostG.mono {okc okc' : α → Hd → Hp → List Addr → Prop} {r : Rs α} (p : PostG k W μ H σ okc r) (f : ∀ a h' H' μ', Grow H μ H' μ' → RH k μ' h' H' → okc a h' H' μ' → okc' a h' H' μ') : PostG k W μ H σ okc' r := by
  cases r with
  | ok a h' => exact fun H' μ' g' r' => f _ _ _ _ g' r' (p H' μ' g' r')
  | err x h' => exact p
  | bad => exact p
theorem PostG.bind {r : Rs α} {g : α → Hd → Rs β} {okc : β → Hd → Hp → List Addr → Prop} (p : PostG k W μ H σ okc (r.bind g)) : PostG k W μ H σ (fun a h1 H1 μ1 => PostG k W μ1 H1 σ okc (g a h1)) r := by
  cases r with
  | ok a h' => exact fun H' μ' g' r' => PostG.later p g'
  | err x h' => exact p
  | bad => exact p
end
def okV (Q : VK) : D → Hd → Hp → List Addr → Prop := fun d _ H' μ' => ∀ v, RD H' μ' d v → Q v H'
def okL (Q : List V → Hp → Prop) : List D → Hd → Hp → List Addr → Prop := fun d _ H' μ' => ∀ v, RDs H' μ' d v → Q v H'
def okB (Q : Bool → Hp → Prop) : Bool → Hd → Hp → List Addr → Prop := fun b _ H' _ => Q b H'
def tX (k : Kx) (W : WX) (f : Se) : TE := fun σ H Q => ∃ μ env h, RH k μ h H ∧ RE H μ env σ ∧ PostG k W μ H σ (okV Q) (f env h)
def tA (k : Kx) (W : WX) (f : Sa) : TA := fun σ H Q => ∃ μ env h, RH k μ h H ∧ RE H μ env σ ∧ PostG k W μ H σ (okL Q) (f env h)
def tT (k : Kx) (W : WX) (f : St') : TT := fun σ H Q => ∃ μ env h, RH k μ h H ∧ RE H μ env σ ∧ PostG k W μ H σ (okB Q) (f env h)
theorem PE.weak {X : Cx} {e : Expr} {t t' : TE} (h : PE X e t) (w : ∀ σ H Q, t' σ H Q → t σ H Q) : PE X e t' := ⟨fun pins s σ H Q I q => h.run pins s σ H Q I (w σ H Q q)⟩
theorem PT.weak {X : Cx} {e : Expr} {t t' : TT} (h : PT X e t) (w : ∀ σ H Q, t' σ H Q → t σ H Q) : PT X e t' := ⟨fun pins s σ H Q I q => h.run pins s σ H Q I (w σ H Q q)⟩
theorem PW.weak {X : Cx} {e : Expr} {t t' : TT} (h : PW X e t) (w : ∀ σ H Q, t' σ H Q → t σ H Q) : PW X e t' := ⟨fun wh pins s σ H Q I q => h.run wh pins s σ H Q I (w σ H Q q)⟩
theorem PA.weak {X : Cx} {e : List Expr} {t t' : TA} (h : PA X e t) (w : ∀ σ H Q, t' σ H Q → t σ H Q) : PA X e t' := ⟨fun pos pins s σ H Q I q => h.run pos pins s σ H Q I (w σ H Q q)⟩
theorem PS.weak {X : Cx} {e : Stmt} {t t' : TS} (h : PS X e t) (w : ∀ σ H D, t' D σ H → t D σ H) : PS X e t' := ⟨fun pins s σ H D I q => h.run pins s σ H D I (w σ H D q)⟩
theorem PSs.weak {X : Cx} {e : List Stmt} {t t' : TS} (h : PSs X e t) (w : ∀ σ H D, t' D σ H → t D σ H) : PSs X e t' := ⟨fun pins s σ H D I q => h.run pins s σ H D I (w σ H D q)⟩
/-- one part behind another: from the whole's reading -/
theorem then1 {k : Kx} {W : WX} {f : Se} {β : Type} {g : D → Hd → Rs β} {okc : β → Hd → Hp → List Addr → Prop} {σ : L2.St} {H : Hp} {μ : List Addr} {env : Env} {h : Hd} {Q : VK}
    (rh : RH k μ h H) (re : RE H μ env σ) (p : PostG k W μ H σ okc ((f env h).bind g))
    (q : ∀ d h1 H1 μ1 v, Grow H μ H1 μ1 → RH k μ1 h1 H1 → RE H1 μ1 env σ → RD H1 μ1 d v → PostG k W μ1 H1 σ okc (g d h1) → Q v H1) : tX k W f σ H Q :=
  ⟨μ, env, h, rh, re, (PostG.bind p).mono fun d h1 H1 μ1 g1 r1 p1 v rv => q d h1 H1 μ1 v g1 r1 (re.grow g1) rv p1⟩
theorem thenT {k : Kx} {W : WX} {f : St'} {β : Type} {g : Bool → Hd → Rs β} {okc : β → Hd → Hp → List Addr → Prop} {σ : L2.St} {H : Hp} {μ : List Addr} {env : Env} {h : Hd} {Q : Bool → Hp → Prop}
    (rh : RH k μ h H) (re : RE H μ env σ) (p : PostG k W μ H σ okc ((f env h).bind g))
    (q : ∀ d h1 H1 μ1, Grow H μ H1 μ1 → RH k μ1 h1 H1 → RE H1 μ1 env σ → PostG k W μ1 H1 σ okc (g d h1) → Q d H1) : tT k W f σ H Q :=
  ⟨μ, env, h, rh, re, (PostG.bind p).mono fun d h1 H1 μ1 g1 r1 p1 => q d h1 H1 μ1 g1 r1 (re.grow g1) p1⟩
theorem thenA {k : Kx} {W : WX} {f : Sa} {β : Type} {g : List D → Hd → Rs β} {okc : β → Hd → Hp → List Addr → Prop} {σ : L2.St} {H : Hp} {μ : List Addr} {env : Env} {h : Hd} {Q : List V → Hp → Prop}
    (rh : RH k μ h H) (re : RE H μ env σ) (p : PostG k W μ H σ okc ((f env h).bind g))
    (q : ∀ d h1 H1 μ1 v, Grow H μ H1 μ1 → RH k μ1 h1 H1 → RE H1 μ1 env σ → RDs H1 μ1 d v → PostG k W μ1 H1 σ okc (g d h1) → Q v H1) : tA k W f σ H Q :=
  ⟨μ, env, h, rh, re, (PostG.bind p).mono fun d h1 H1 μ1 g1 r1 p1 v rv => q d h1 H1 μ1 v g1 r1 (re.grow g1) rv p1⟩
/-! ### what is not held is dropped -/
mutual
theorem RD.back {μ H' μ'} (hp : ∀ (i : Nat) a, μ[i]? = some a → μ'[i]? = some a) : ∀ (d : D) (v : V), d.und μ.length = true → RD H' μ' d v → RD H' μ d v
  | .non, v, _, h => by simp only [RD] at h ⊢; exact h
  | .bl b, v, _, h => by simp only [RD] at h ⊢; exact h
  | .int i, v, _, h => by simp only [RD] at h ⊢; exact h
  | .str s, v, _, h => by simp only [RD] at h ⊢; exact h
  | .tup l, v, u, h => by
    simp only [RD, D.und] at h u ⊢
    obtain ⟨a, vs, e, t, r⟩ := h
    exact ⟨a, vs, e, t, RDs.back hp l vs u r⟩
  | .ref n, v, u, h => by
    simp only [RD] at h ⊢
    obtain ⟨a, e, q⟩ := h
    have hn : n < μ.length := by simpa [D.und] using u
    refine ⟨a, ?_, q⟩
    have := hp n μ[n] (by simp [hn])
    rw [e] at this; cases this
    simp [hn]
theorem RDs.back {μ H' μ'} (hp : ∀ (i : Nat) a, μ[i]? = some a → μ'[i]? = some a) : ∀ (l : List D) (vs : List V), D.undL μ.length l = true → RDs H' μ' l vs → RDs H' μ l vs
  | [], vs, _, h => by simp only [RDs] at h ⊢; exact h
  | d :: l, vs, u, h => by
    simp only [RDs] at h ⊢
    simp only [D.undL, Bool.and_eq_true] at u
    obtain ⟨v, r, e, h1, h2⟩ := h
    exact ⟨v, r, e, RD.back hp d v u.1 h1, RDs.back hp l r u.2 h2⟩
end
mutual
theorem RD.und {H μ} : ∀ (d : D) (v : V), RD H μ d v → d.und μ.length = true
  | .non, v, _ => by simp [D.und]
  | .bl b, v, _ => by simp [D.und]
  | .int i, v, _ => by simp [D.und]
  | .str s, v, _ => by simp [D.und]
  | .tup l, v, h => by
    simp only [RD] at h
    obtain ⟨a, vs, e, t, r⟩ := h
    simp only [D.und]; exact RDs.und l vs r
  | .ref n, v, h => by
    simp only [RD] at h
    obtain ⟨a, e, q⟩ := h
    simp only [D.und]
    exact decide_eq_true (List.getElem?_eq_some_iff.mp e).1
theorem RDs.und {H μ} : ∀ (l : List D) (vs : List V), RDs H μ l vs → D.undL μ.length l = true
  | [], vs, _ => by simp [D.undL]
  | d :: l, vs, h => by
    simp only [RDs] at h
    obtain ⟨v, r, e, h1, h2⟩ := h
    simp [D.undL, RD.und d v h1, RDs.und l r h2]
end
theorem REn.back {H μ μ' H0 μ0} (hp : ∀ (i : Nat) a, μ[i]? = some a → μ'[i]? = some a) (hl : μ0 = μ) : ∀ (l : List (Str × D)) (vs vs' : List (Str × V)), REn H0 μ0 l vs' → REn H μ' l vs → REn H μ l vs
  | [], vs, _, _, h => h
  | (k, d) :: l, vs, vs', h', h => by
    obtain ⟨v, r, e, h1, h2⟩ := h
    obtain ⟨v', r', e', h1', h2'⟩ := h'
    subst hl
    exact ⟨v, r, e, RD.back hp d v (RD.und d v' h1') h1, REn.back hp rfl l r r' h2' h2⟩
theorem RKv.back {κ κ' : Type} {ko : D → Option κ} {ko' : D → Option κ'} {H μ μ' H0 μ0} (hp : ∀ (i : Nat) a, μ[i]? = some a → μ'[i]? = some a) (hl : μ0 = μ) : ∀ (l : List (D × D)) (vs : List (κ × V)) (vs' : List (κ' × V)), RKv ko' H0 μ0 l vs' → RKv ko H μ' l vs → RKv ko H μ l vs
  | [], vs, _, _, h => h
  | (k, d) :: l, vs, vs', h', h => by
    obtain ⟨q, v, r, e, e2, h1, h2⟩ := h
    obtain ⟨q', v', r', e', e2', h1', h2'⟩ := h'
    subst hl
    exact ⟨q, v, r, e, e2, RD.back hp d v (RD.und d v' h1') h1, RKv.back hp rfl l r r' h2' h2⟩
theorem RO.back {k : Kx} {H H0 μ μ' a a0 o} (hp : ∀ (i : Nat) a, μ[i]? = some a → μ'[i]? = some a) (h0 : RO k H0 μ a0 o) (h : RO k H μ' a o) : RO k H μ a o := by
  cases o with
  | lst l =>
    obtain ⟨vs, e, q⟩ := h
    obtain ⟨vs', e', q'⟩ := h0
    exact ⟨vs, e, RDs.back hp l vs (RDs.und l vs' q') q⟩
  | frz l =>
    obtain ⟨vs, e, q⟩ := h
    obtain ⟨vs', e', q'⟩ := h0
    exact ⟨vs, e, RDs.back hp l vs (RDs.und l vs' q') q⟩
  | dic l =>
    have h0' : (∃ vs, RKv keyOf H0 μ l vs) ∨ ∃ vs, RKv tkeyOf H0 μ l vs := by
      rcases h0 with ⟨vs, _, q⟩ | ⟨vs, _, q⟩
      · exact .inl ⟨vs, q⟩
      · exact .inr ⟨vs, q⟩
    rcases h with ⟨vs, e, q⟩ | ⟨vs, e, q⟩ <;> rcases h0' with ⟨vs', q'⟩ | ⟨vs', q'⟩
    · exact .inl ⟨vs, e, RKv.back hp rfl l vs vs' q' q⟩
    · exact .inl ⟨vs, e, RKv.back hp rfl l vs vs' q' q⟩
    · exact .inr ⟨vs, e, RKv.back hp rfl l vs vs' q' q⟩
    · exact .inr ⟨vs, e, RKv.back hp rfl l vs vs' q' q⟩
  | ins c fs =>
    obtain ⟨C, dx, vs, e0, e, q⟩ := h
    obtain ⟨C', dx', vs', e0', e', q'⟩ := h0
    exact ⟨C, dx, vs, e0, e, REn.back hp rfl fs vs vs' q' q⟩
theorem RH.back {k : Kx} {H H' μ μ' h h'} (r : RH k μ h H) (g : Grow H μ H' μ') (r' : RH k μ' h' H') (e : h'.take h.length = h) : RH k μ h H' := by
  have look : ∀ (n : Nat) o, h[n]? = some o → h'[n]? = some o := fun n o q => by
    have hn := (List.getElem?_eq_some_iff.mp q).1
    rw [← e, List.getElem?_take_of_lt (by simpa using hn)] at q
    exact q
  exact ⟨r.len, fun i j a oi oj f1 f2 f3 f4 m1 m2 => r'.nd i j a oi oj (g.pre _ _ f1) (g.pre _ _ f2) (look _ _ f3) (look _ _ f4) m1 m2,
    fun n o a f1 f2 => (r.ob n o a f1 f2).back g.pre (r'.ob n o a (look _ _ f1) (g.pre _ _ f2))⟩
theorem Grow.back {H H' μ μ'} (g : Grow H μ H' μ') : Grow H μ H' μ := ⟨⟨fun _ _ e => e, Nat.le_refl _, g.tup, g.frz⟩, fun a u e n => ⟨(g.oth a u e n).1, n⟩⟩
theorem PostG.gc {k : Kx} {W : WX} {μ : List Addr} {H : Hp} {σ : L2.St} {h : Hd} {Q : VK} {r : Rs D} (rh : RH k μ h H) (p : PostG k W μ H σ (okV Q) (gc h r)) : PostG k W μ H σ (okV Q) r := by
  cases r with
  | err x h' => exact p
  | bad => exact p
  | ok d h' =>
    unfold PN.gc at p
    by_cases e : h'.take h.length = h
    · simp only [e, if_true] at p
      by_cases u : d.und h.length = true
      · simp only [u, if_true] at p
        intro H' μ' g r' v rv
        exact p H' μ g.back (rh.back g r' e) v (RD.back g.pre d v (by rw [rh.len]; exact u) rv)
      · simp only [u, if_false] at p
        have same : PostG k W μ H σ (okV Q) (.ok d h') → PostG k W μ H σ (okV Q) (.ok d h') := id
        cases d with
        | ref n =>
          simp only at p
          cases en : h'[n]? with
          | none => rw [en] at p; exact p
          | some o =>
            rw [en] at p
            cases o with
            | lst l =>
              simp only at p
              by_cases ul : D.undL h.length l = true
              · simp only [ul, if_true] at p
                intro H' μ' g r' v rv
                have nn : h.length ≤ n := by simpa [D.und] using u
                obtain ⟨a, ea, ro⟩ := r'.place en
                have r0 := rh.back g r' e
                have rv' : v = .ref a := by
                  simp only [RD] at rv
                  obtain ⟨a', e1, e2⟩ := rv
                  rw [ea] at e1; cases e1; exact e2
                obtain ⟨vs, e1, q⟩ := ro
                -- the list's place is none of the elder ones'
                have g2 : Grow H μ H' (μ ++ [a]) := ⟨⟨fun i b f => by rw [List.getElem?_append_left (List.getElem?_eq_some_iff.mp f).1]; exact f, by simp, g.tup, g.frz⟩, fun b u ez m => ⟨(g.oth b u ez m).1, fun z => by
                  rcases List.mem_append.mp z with z | z
                  · exact m z
                  · have : b = a := by simpa using z
                    subst this
                    exact (g.oth b u ez m).2 (List.mem_of_getElem? ea)⟩⟩
                have pl : ∀ (i : Nat) o, h[i]? = some o → o.mut = true → μ[i]? = some a → False := fun i o f1 fm f2 => by
                  have fi : h'[i]? = some o := by
                    have hi := (List.getElem?_eq_some_iff.mp f1).1
                    rw [← e, List.getElem?_take_of_lt (by simpa using hi)] at f1
                    exact f1
                  have := r'.nd i n a o _ (g.pre _ _ f2) ea fi en fm rfl
                  have hi := (List.getElem?_eq_some_iff.mp f1).1
                  omega
                have look : ∀ (j : Nat) ob, (h ++ [Ob.lst l])[j]? = some ob → (j < h.length ∧ h[j]? = some ob) ∨ (j = h.length ∧ ob = .lst l) := fun j ob f => by
                  by_cases hj : j < h.length
                  · rw [List.getElem?_append_left hj] at f; exact .inl ⟨hj, f⟩
                  · rw [List.getElem?_append_right (by omega)] at f
                    by_cases z : j - h.length = 0
                    · rw [z] at f; simp at f; exact .inr ⟨by omega, f.symm⟩
                    · rw [List.getElem?_eq_none (by simp; omega)] at f; cases f
                have lookm : ∀ (j : Nat) b, (μ ++ [a])[j]? = some b → (j < h.length ∧ μ[j]? = some b) ∨ (j = h.length ∧ b = a) := fun j b f => by
                  rw [← rh.len]
                  by_cases hj : j < μ.length
                  · rw [List.getElem?_append_left hj] at f; exact .inl ⟨hj, f⟩
                  · rw [List.getElem?_append_right (by omega)] at f
                    by_cases z : j - μ.length = 0
                    · rw [z] at f; simp at f; exact .inr ⟨by omega, f.symm⟩
                    · rw [List.getElem?_eq_none (by simp; omega)] at f; cases f
                have gm : Ext H' μ H' (μ ++ [a]) := ⟨g2.pre, g2.len, fun _ _ f => f, fun _ _ _ f => f⟩
                refine p H' (μ ++ [a]) g2 ⟨by simp [rh.len], fun i j b oi oj f1 f2 f3 f4 m1 m2 => ?_, fun j ob b f1 f2 => ?_⟩ v ?_
                · rcases look i oi f3 with ⟨l1, q1⟩ | ⟨l1, q1⟩ <;> rcases look j oj f4 with ⟨l2, q2⟩ | ⟨l2, q2⟩ <;> rcases lookm i b f1 with ⟨l3, q3⟩ | ⟨l3, q3⟩ <;> rcases lookm j b f2 with ⟨l4, q4⟩ | ⟨l4, q4⟩ <;> try omega
                  · exact rh.nd i j b oi oj q3 q4 q1 q2 m1 m2
                  · subst q4; exact (pl i oi q1 m1 q3).elim
                  · subst q3; exact (pl j oj q2 m2 q4).elim
                · rcases look j ob f1 with ⟨l1, q1⟩ | ⟨l1, q1⟩ <;> rcases lookm j b f2 with ⟨l3, q3⟩ | ⟨l3, q3⟩ <;> try omega
                  · exact (r0.ob j ob b q1 q3).grow gm fun _ => rfl
                  · subst q1 q3
                    exact ⟨vs, e1, RDs.grow gm l vs (RDs.back g.pre l vs (by rw [rh.len]; exact ul) q)⟩
                · simp only [RD]
                  refine ⟨a, ?_, rv'⟩
                  rw [← rh.len, List.getElem?_append_right (Nat.le_refl _)]; simp
              · simp only [ul, if_false] at p; exact p
            | _ => exact p
        | _ => exact p
    · simp only [e, if_false] at p
      exact p
/-- an expression, what it dropped forgotten -/
def gcE (f : Se) : Se := fun env h => gc h (f env h)
theorem tX.gc {k : Kx} {W : WX} {f : Se} : ∀ σ H Q, tX k W (gcE f) σ H Q → tX k W f σ H Q := fun σ H Q ⟨μ, env, h, rh, re, p⟩ => ⟨μ, env, h, rh, re, PostG.gc rh p⟩
end PN
namespace PN
open PySem L2 PyProof.Rows
/-! ## operations on values -/
def BIG : Nat := 16777216
theorem big_eq : BIG = sizeLine := by rw [sizeLine_eq]; rfl
abbrev Op2 := D → D → Hd → Option (D × Hd)
def PostO (k : Kx) (μ : List Addr) (H : Hp) (Q : VK) : Option (D × Hd) → Prop
  | some (d, h') => ∀ H' μ', Grow H μ H' μ' → RH k μ' h' H' → ∀ v, RD H' μ' d v → Q v H'
  | none => False
def OpD (X : Cx) (k : Kx) (f : Value → Value → Sem Value) (g : Op2) : Prop :=
  OpR X f (fun v u H Q => ∃ μ h x y, RH k μ h H ∧ RD H μ x v ∧ RD H μ y u ∧ PostO k μ H Q (g x y h))
def ofO : Option (D × Hd) → Rs D
  | some (d, h) => .ok d h
  | none => .bad
@[simp] theorem ofO_some (d : D) (h : Hd) : ofO (some (d, h)) = .ok d h := rfl
def dBin (g : Op2) (fa fb : Se) : Se := fun env h => (fa env h).bind fun x h1 => (fb env h1).bind fun y h2 => ofO (g x y h2)
theorem PostG.ofO {k : Kx} {W : WX} {μ : List Addr} {H : Hp} {σ : L2.St} {Q : VK} {r : Option (D × Hd)} (p : PostG k W μ H σ (okV Q) (ofO r)) : PostO k μ H Q r := by
  cases r with
  | none => exact p
  | some q => exact fun H' μ' g r' v rv => p H' μ' g r' v rv
section
variable {X : Cx} {k : Kx} {W : WX} {a b : Expr} {fa fb : Se} {pos : Pos}
theorem bin_w {g : Op2} {r : R2} (hr : ∀ v u H Q, (∃ μ h x y, RH k μ h H ∧ RD H μ x v ∧ RD H μ y u ∧ PostO k μ H Q (g x y h)) → r v u H Q) : ∀ σ H Q, tX k W (dBin g fa fb) σ H Q → tOp r (tX k W fa) (tX k W fb) σ H Q := fun σ H Q ⟨μ, env, h, rh, re, p⟩ =>
  then1 rh re p fun x h1 H1 μ1 v g1 r1 e1 rx p1 => then1 r1 e1 p1 fun y h2 H2 μ2 u g2 r2 e2 ry p2 => hr _ _ _ _ ⟨μ2, h2, x, y, r2, RD.grow g2 x v rx, ry, p2.ofO⟩
theorem x_bin {op : Operator} {g : Op2} (ho : OpD X k (binaryOp op) g) (ha : PE X a (tX k W fa)) (hb : PE X b (tX k W fb)) : PE X (.BinOp a op b pos) (tX k W (dBin g fa fb)) :=
  PE.weak (pe_op ho ha hb) (bin_w fun _ _ _ _ q => q)
theorem x_cmp {op : CmpOp} {g : Op2} (ho : OpD X k (compareOp op) g) (ha : PE X a (tX k W fa)) (hb : PE X b (tX k W fb)) (hm : behindInMarks op b = false) : PE X (.Compare a [op] [b] pos) (tX k W (dBin g fa fb)) :=
  PE.weak (pe_cmpR ho ha hb hm) (bin_w fun _ _ _ _ q => q)
end
theorem OpR.weak {X : Cx} {f : Value → Value → Sem Value} {r r' : R2} (h : OpR X f r) (w : ∀ v u H Q, r' v u H Q → r v u H Q) : OpR X f r' := fun pins s σ H x y v u Q I rx ry q => h pins s σ H x y v u Q I rx ry (w _ _ _ _ q)
section
variable {k : Kx} {μ : List Addr} {H : Hp} {Q : VK} {α : Type}
theorem PostO.guard {c : Prop} [Decidable c] {r : Option (D × Hd)} (p : PostO k μ H Q (if c then r else none)) : c ∧ PostO k μ H Q r := by
  by_cases hc : c
  · rw [if_pos hc] at p; exact ⟨hc, p⟩
  · rw [if_neg hc] at p; exact p.elim
theorem PostO.of {o : Option α} {f : α → Option (D × Hd)} (p : PostO k μ H Q (o.bind f)) : ∃ a, o = some a ∧ PostO k μ H Q (f a) := by
  cases o with
  | none => exact p.elim
  | some a => exact ⟨a, rfl, p⟩
end
/-- a list that may be written; one that may be read -/
def lstAt (h : Hd) (n : Nat) : Option (List D) := match h[n]? with
  | some (.lst l) => some l
  | _ => none
def seqAt (h : Hd) (n : Nat) : Option (List D) := match h[n]? with
  | some (.lst l) => some l
  | some (.frz l) => some l
  | _ => none
theorem lstAt_eq {h : Hd} {n : Nat} {l : List D} (e : lstAt h n = some l) : h[n]? = some (.lst l) := by
  unfold lstAt at e
  split at e
  · rename_i q; cases e; exact q
  · cases e
theorem RH.lst {k : Kx} {μ : List Addr} {H : Hp} {h : Hd} {n : Nat} {a : Addr} {l : List D} (r : RH k μ h H) (e : lstAt h n = some l) (ea : μ[n]? = some a) : ∃ vs, H a = some (.lst vs) ∧ RDs H μ l vs := r.ob _ _ _ (lstAt_eq e) ea
theorem RH.seq {k : Kx} {μ : List Addr} {H : Hp} {h : Hd} {n : Nat} {a : Addr} {l : List D} (r : RH k μ h H) (e : seqAt h n = some l) (ea : μ[n]? = some a) : ∃ vs, SqL k.K H a vs ∧ RDs H μ l vs := by
  unfold seqAt at e
  split at e
  · rename_i l' q
    cases e
    obtain ⟨vs, e1, q⟩ := r.ob _ _ _ q ea
    exact ⟨vs, SqL.of e1, q⟩
  · rename_i l' q
    cases e
    obtain ⟨vs, e1, q⟩ := r.ob _ _ _ q ea
    refine ⟨vs, ?_, q⟩
    obtain ⟨o, e1⟩ := e1
    exact .inl (.inr ⟨o, e1⟩)
  · cases e
/-! ### + -/
def dAdd : Op2
  | .int i, .int j, h => some (.int (i + j), h)
  | .str a, .str b, h => if a.length + b.length ≤ BIG then some (.str (a ++ b), h) else none
  | .tup a, .tup b, h => if a.length + b.length ≤ BIG then some (.tup (a ++ b), h) else none
  | .ref n, .ref m, h => (lstAt h n).bind fun a => (lstAt h m).bind fun b => if a.length + b.length ≤ BIG then some (.ref h.length, h ++ [.lst (a ++ b)]) else none
  | _, _, _ => none
/-- () + t: t itself -/
def rCat0 : R2 := fun x y H Q => ∃ a b ys, x = .ref a ∧ y = .ref b ∧ H a = some (.tup []) ∧ H b = some (.tup ys) ∧ Q (.ref b) H
theorem op_cat0 {X : Cx} : OpR X (binaryOp .Add) rCat0 := by
  intro pins s σ H x y v u Q I rx ry h
  obtain ⟨a, b, ys, rfl, rfl, ha, hb, q⟩ := h
  cases rx
  cases ry
  obtain ⟨its, r1, p1, _⟩ := I.tuple (SqT.of ha)
  obtain ⟨its2, r2, p2, _⟩ := I.tuple (SqT.of hb)
  obtain ⟨⟨c1, d1, t1, l1⟩, ho, hc, n, hd⟩ := p1
  obtain ⟨⟨c2, d2, t2, l2⟩, ho2, hc2, n2, hd2⟩ := p2
  simp only at hc hd hc2 hd2
  subst hc hd hc2 hd2
  cases r1
  exact concat_meets ⟨_, ho, rfl⟩ ⟨_, ho2, rfl⟩ noFill_tuple_add seq_tuple_add PySem.F.slot_tuple_add PySem.F.entry_tuple_add (PySem.F.args_tuple_add_2 _ _)
    (tuple_addW0 a b _ _ n n2 d1 d2 l1 l2 (by simp)) ⟨ho, ho2, ⟨.ref b, H, I, rfl, q⟩⟩
theorem RD.tup_of {H : Hp} {μ : List Addr} {l : List D} {v : V} (h : RD H μ (.tup l) v) : ∃ a vs, v = .ref a ∧ H a = some (.tup vs) ∧ RDs H μ l vs := by simpa only [RD] using h
theorem RD.ref_of {H : Hp} {μ : List Addr} {n : Nat} {v : V} (h : RD H μ (.ref n) v) : ∃ a, μ[n]? = some a ∧ v = .ref a := by simpa only [RD] using h
theorem RD.int_of {H : Hp} {μ : List Addr} {n : Int} {v : V} (h : RD H μ (.int n) v) : v = .int n := by simpa only [RD] using h
theorem RD.str_of {H : Hp} {μ : List Addr} {n : Str} {v : V} (h : RD H μ (.str n) v) : v = .str n := by simpa only [RD] using h
theorem RD.bl_of {H : Hp} {μ : List Addr} {n : Bool} {v : V} (h : RD H μ (.bl n) v) : v = .bl n := by simpa only [RD] using h
theorem RD.non_of {H : Hp} {μ : List Addr} {v : V} (h : RD H μ .non v) : v = .non := by simpa only [RD] using h
theorem RD.int {H : Hp} {μ : List Addr} (n : Int) : RD H μ (.int n) (.int n) := by simp only [RD]
theorem RD.str {H : Hp} {μ : List Addr} (n : Str) : RD H μ (.str n) (.str n) := by simp only [RD]
theorem RD.bl {H : Hp} {μ : List Addr} (n : Bool) : RD H μ (.bl n) (.bl n) := by simp only [RD]
theorem RD.non {H : Hp} {μ : List Addr} : RD H μ .non .non := by simp only [RD]
theorem RD.tup {H : Hp} {μ : List Addr} {l : List D} {a : Addr} {vs : List V} (e : H a = some (.tup vs)) (r : RDs H μ l vs) : RD H μ (.tup l) (.ref a) := by simp only [RD]; exact ⟨a, vs, rfl, e, r⟩
theorem RD.ref {H : Hp} {μ : List Addr} {n : Nat} {a : Addr} (e : μ[n]? = some a) : RD H μ (.ref n) (.ref a) := by simp only [RD]; exact ⟨a, e, rfl⟩
/-- a new tuple -/
theorem PostO.newTup {k : Kx} {μ : List Addr} {H : Hp} {Q : VK} {l : List D} {h : Hd} {vs : List V} (rh : RH k μ h H) (r : RDs H μ l vs) (p : PostO k μ H Q (some (.tup l, h))) : ∀ a, H a = none → Q (.ref a) (upd H a (.tup vs)) := fun a ha =>
  p _ _ (Grow.fresh ha) (rh.fresh ha) _ (RD.tup upd_same (RDs.grow (Grow.fresh ha).toExt _ _ r))
theorem PostO.now {k : Kx} {μ : List Addr} {H : Hp} {Q : VK} {d : D} {h : Hd} {v : V} (rh : RH k μ h H) (r : RD H μ d v) (p : PostO k μ H Q (some (d, h))) : Q v H := p _ _ Grow.refl rh _ r
/-- a new list -/
theorem PostO.newLst {k : Kx} {μ : List Addr} {H : Hp} {Q : VK} {l : List D} {h : Hd} {vs : List V} (rh : RH k μ h H) (r : RDs H μ l vs) (p : PostO k μ H Q (some (.ref h.length, h ++ [.lst l]))) : ∀ a, H a = none → Q (.ref a) (upd H a (.lst vs)) := fun a ha => by
  have g : Grow H μ (upd H a (.lst vs)) (μ ++ [a]) := (Grow.fresh ha).more ha
  obtain ⟨r1, _⟩ := rh.alloc (o := .lst l) (ho := .lst vs) ha rfl ⟨vs, upd_same, RDs.grow g _ _ r⟩
  refine p _ _ g r1 _ (RD.ref ?_)
  rw [← rh.len, List.getElem?_append_right (Nat.le_refl _)]; simp
theorem RDs.nil_iff {H : Hp} {μ : List Addr} {l : List D} {vs : List V} (r : RDs H μ l vs) : l = [] ↔ vs = [] := by
  have := r.length
  cases l <;> cases vs <;> simp_all
theorem d_add {X : Cx} {k : Kx} : OpD X k (binaryOp .Add) dAdd := by
  intro pins s σ H v u v' u' Q I rv ru ⟨μ, h, x, y, rh, rx, ry, p⟩
  cases x <;> cases y <;> first | exact p.elim | skip
  case int.int i j =>
    rw [rx.int_of] at rv; rw [ry.int_of] at ru
    exact op_add pins s σ H _ _ v' u' Q I rv ru ⟨_, _, rfl, rfl, p.now rh (RD.int _)⟩
  case str.str a b =>
    obtain ⟨hz, p⟩ := PostO.guard p
    rw [rx.str_of] at rv; rw [ry.str_of] at ru
    exact op_add_str pins s σ H _ _ v' u' Q I rv ru ⟨_, _, rfl, rfl, by rw [← big_eq]; exact hz, p.now rh (RD.str _)⟩
  case tup.tup la lb =>
    obtain ⟨hz, p⟩ := PostO.guard p
    obtain ⟨pa, va, rfl, ea, ra⟩ := rx.tup_of
    obtain ⟨pb, vb, rfl, eb, rb⟩ := ry.tup_of
    by_cases e0 : la = []
    · have e1 := ra.nil_iff.mp e0
      subst e0 e1
      exact op_cat0 pins s σ H _ _ v' u' Q I rv ru ⟨pa, pb, vb, rfl, rfl, ea, eb, p.now rh ry⟩
    · refine op_catT pins s σ H _ _ v' u' Q I rv ru ⟨pa, pb, va, vb, rfl, rfl, SqT.of ea, SqT.of eb, fun z => e0 (ra.nil_iff.mpr z), by rw [← ra.length, ← rb.length, ← big_eq]; exact hz, fun z => ?_, fun z => p.newTup rh (ra.append rb)⟩
      have e2 := rb.nil_iff.mpr z
      rw [e2, List.append_nil] at p
      exact p.now rh rx
  case ref.ref n m =>
    obtain ⟨a, e1, p⟩ := PostO.of p
    obtain ⟨b, e2, p⟩ := PostO.of p
    obtain ⟨hz, p⟩ := PostO.guard p
    obtain ⟨pa, f1, rfl⟩ := rx.ref_of
    obtain ⟨pb, f2, rfl⟩ := ry.ref_of
    obtain ⟨va, g1, ra⟩ := rh.lst e1 f1
    obtain ⟨vb, g2, rb⟩ := rh.lst e2 f2
    exact op_cat pins s σ H _ _ v' u' Q I rv ru ⟨pa, pb, va, vb, rfl, rfl, g1, g2, by rw [← ra.length, ← rb.length, ← big_eq]; exact hz, p.newLst rh (ra.append rb)⟩
/-! ### other operators -/
def dSub : Op2
  | .int i, .int j, h => some (.int (i - j), h)
  | _, _, _ => none
theorem d_sub {X : Cx} {k : Kx} : OpD X k (binaryOp .Sub) dSub := by
  intro pins s σ H v u v' u' Q I rv ru ⟨μ, h, x, y, rh, rx, ry, p⟩
  cases x <;> cases y <;> first | exact p.elim | skip
  rw [rx.int_of] at rv; rw [ry.int_of] at ru
  exact op_sub pins s σ H _ _ v' u' Q I rv ru ⟨_, _, rfl, rfl, p.now rh (RD.int _)⟩
/-- one factor below 2 ^ 64; a list, so often -/
def dMul : Op2
  | .int i, .int j, h => if (-(2 ^ 64) < i ∧ i < 2 ^ 64) ∨ (-(2 ^ 64) < j ∧ j < 2 ^ 64) then some (.int (i * j), h) else none
  | .ref n, .int j, h => (lstAt h n).bind fun a => if -(2 ^ 63) ≤ j ∧ j < 2 ^ 63 ∧ a.length * j.toNat ≤ BIG then some (.ref h.length, h ++ [.lst (List.replicate j.toNat a).flatten]) else none
  | _, _, _ => none
theorem RDs.rep {H μ} {l : List D} {vs : List V} (r : RDs H μ l vs) : ∀ n : Nat, RDs H μ (List.replicate n l).flatten (List.replicate n vs).flatten
  | 0 => RDs.nil
  | n + 1 => by
    rw [List.replicate_succ, List.replicate_succ, List.flatten_cons, List.flatten_cons]
    exact r.append (RDs.rep r n)
theorem d_mul {X : Cx} {k : Kx} : OpD X k (binaryOp .Mult) dMul := by
  intro pins s σ H v u v' u' Q I rv ru ⟨μ, h, x, y, rh, rx, ry, p⟩
  cases x <;> cases y <;> first | exact p.elim | skip
  case int.int i j =>
    obtain ⟨hz, p⟩ := PostO.guard p
    rw [rx.int_of] at rv; rw [ry.int_of] at ru
    exact op_mul pins s σ H _ _ v' u' Q I rv ru ⟨_, _, rfl, rfl, hz, p.now rh (RD.int _)⟩
  case ref.int n j =>
    obtain ⟨a, e1, p⟩ := PostO.of p
    obtain ⟨⟨hz1, hz2, hz3⟩, p⟩ := PostO.guard p
    obtain ⟨pa, f1, rfl⟩ := rx.ref_of
    rw [ry.int_of] at ru
    obtain ⟨va, g1, ra⟩ := rh.lst e1 f1
    exact op_rep pins s σ H _ _ v' u' Q I rv ru ⟨pa, _, va, rfl, rfl, g1, hz1, hz2, by rw [← ra.length, ← big_eq]; exact hz3, p.newLst rh (ra.rep _)⟩
def dFdiv : Op2
  | .int i, .int j, h => if j ≠ 0 ∧ j.natAbs < 1073741824 then some (.int (i.fdiv j), h) else none
  | _, _, _ => none
theorem d_fdiv {X : Cx} {k : Kx} : OpD X k (binaryOp .FloorDiv) dFdiv := by
  intro pins s σ H v u v' u' Q I rv ru ⟨μ, h, x, y, rh, rx, ry, p⟩
  cases x <;> cases y <;> first | exact p.elim | skip
  obtain ⟨hz, p⟩ := PostO.guard p
  rw [rx.int_of] at rv; rw [ry.int_of] at ru
  exact op_fdivN pins s σ H _ _ v' u' Q I rv ru ⟨_, _, rfl, rfl, hz, p.now rh (RD.int _)⟩
def dMod : Op2
  | .int i, .int j, h => if j ≠ 0 then some (.int (i.fmod j), h) else none
  | _, _, _ => none
theorem d_mod {X : Cx} {k : Kx} : OpD X k (binaryOp .Mod) dMod := by
  intro pins s σ H v u v' u' Q I rv ru ⟨μ, h, x, y, rh, rx, ry, p⟩
  cases x <;> cases y <;> first | exact p.elim | skip
  obtain ⟨hz, p⟩ := PostO.guard p
  rw [rx.int_of] at rv; rw [ry.int_of] at ru
  exact op_modN pins s σ H _ _ v' u' Q I rv ru ⟨_, _, rfl, rfl, hz, p.now rh (RD.int _)⟩
def dPow : Op2
  | .int i, .int j, h => if 0 ≤ j ∧ j ≤ 1000000 ∧ i.natAbs < 2 ^ 64 then some (.int (i ^ j.toNat), h) else none
  | _, _, _ => none
theorem d_pow {X : Cx} {k : Kx} : OpD X k (binaryOp .Pow) dPow := by
  intro pins s σ H v u v' u' Q I rv ru ⟨μ, h, x, y, rh, rx, ry, p⟩
  cases x <;> cases y <;> first | exact p.elim | skip
  obtain ⟨hz, p⟩ := PostO.guard p
  rw [rx.int_of] at rv; rw [ry.int_of] at ru
  exact op_pow pins s σ H _ _ v' u' Q I rv ru ⟨_, _, rfl, rfl, hz, p.now rh (RD.int _)⟩
def opOf : Operator → Option Op2
  | .Add => some dAdd
  | .Sub => some dSub
  | .Mult => some dMul
  | .FloorDiv => some dFdiv
  | .Mod => some dMod
  | .Pow => some dPow
  | _ => none
theorem opOf_ok {X : Cx} {k : Kx} {op : Operator} {g : Op2} (e : opOf op = some g) : OpD X k (binaryOp op) g := by
  cases op <;> simp only [opOf] at e <;> cases e
  · exact d_add
  · exact d_sub
  · exact d_mul
  · exact d_mod
  · exact d_pow
  · exact d_fdiv
/-! ### comparisons -/
/-- ints and texts by their order -/
def dOrd (p : Int → Int → Bool) : Op2
  | .int i, .int j, h => some (.bl (p i j), h)
  | _, _, _ => none
theorem d_ord {X : Cx} {k : Kx} {op : CmpOp} {p : Int → Int → Bool} (ho : OpR X (compareOp op) (rI0 fun i j => .bl (p i j))) : OpD X k (compareOp op) (dOrd p) := by
  intro pins s σ H v u v' u' Q I rv ru ⟨μ, h, x, y, rh, rx, ry, q⟩
  cases x <;> cases y <;> first | exact q.elim | skip
  rw [rx.int_of] at rv; rw [ry.int_of] at ru
  exact ho pins s σ H _ _ v' u' Q I rv ru ⟨_, _, rfl, rfl, q.now rh (RD.bl _)⟩
mutual
def D.depth : D → Nat
  | .tup l => D.depthL l + 1
  | .non => 0
  | .bl _ => 0
  | .int _ => 0
  | .str _ => 0
  | .ref _ => 0
def D.depthL : List D → Nat
  | [] => 0
  | d :: l => max d.depth (D.depthL l)
end
/-- data with lists within, as the library's -/
def rdL (f : D → Option PyData) : List D → Option (List PyData)
  | [] => some []
  | d :: l => match f d, rdL f l with
    | some x, some r => some (x :: r)
    | _, _ => none
def rd (h : Hd) : Nat → D → Option PyData
  | 0, d => if d.flat = true ∧ d.strsOk = true then some d.py else none
  | j + 1, d => if d.flat = true ∧ d.strsOk = true then some d.py else match d with
    | .ref n => match seqAt h n with
      | some l => (rdL (rd h j) l).map .list
      | none => none
    | _ => none
mutual
theorem RD.dp {K : PySem.W.Frag} {H μ} : ∀ (d : D) (v : V), d.flat = true → RD H μ d v → Dp K H v d.py
  | .non, v, _, h => by rw [h.non_of]; exact .non
  | .bl b, v, _, h => by rw [h.bl_of]; exact .bl b
  | .int i, v, _, h => by rw [h.int_of]; exact .int i
  | .str s, v, _, h => by rw [h.str_of]; exact .str s
  | .tup l, v, f, h => by
    obtain ⟨a, vs, rfl, e, r⟩ := h.tup_of
    exact .tup (SqT.of e) (RDs.dp l vs (by simpa [D.flat, D.und] using f) r)
  | .ref n, v, f, h => by simp [D.flat, D.und] at f
theorem RDs.dp {K : PySem.W.Frag} {H μ} : ∀ (l : List D) (vs : List V), D.undL 0 l = true → RDs H μ l vs → DpAll K H vs (D.pyL l)
  | [], vs, _, h => by simp only [RDs] at h; rw [h]; exact .nil
  | d :: l, vs, f, h => by
    simp only [RDs] at h
    obtain ⟨v, r, rfl, h1, h2⟩ := h
    simp only [D.undL, Bool.and_eq_true] at f
    exact .cons (RD.dp d v f.1 h1) (RDs.dp l r f.2 h2)
end
theorem rd_dp {k : Kx} {μ : List Addr} {h : Hd} {H : Hp} (rh : RH k μ h H) : ∀ (j : Nat) (d : D) (v : V) (p : PyData), rd h j d = some p → RD H μ d v → Dp k.K H v p := by
  have all : ∀ (f : D → Option PyData), (∀ d v p, f d = some p → RD H μ d v → Dp k.K H v p) → ∀ (l : List D) (vs : List V) (ps : List PyData), rdL f l = some ps → RDs H μ l vs → DpAll k.K H vs ps := by
    intro f hf l
    induction l with
    | nil =>
      intro vs ps e r
      simp only [rdL] at e; cases e
      simp only [RDs] at r; rw [r]; exact .nil
    | cons d l ih =>
      intro vs ps e r
      simp only [RDs] at r
      obtain ⟨v, r', rfl, h1, h2⟩ := r
      simp only [rdL] at e
      split at e
      · rename_i x y e1 e2
        cases e
        exact .cons (hf d v x e1 h1) (ih r' y e2 h2)
      · cases e
  intro j
  induction j with
  | zero =>
    intro d v p e r
    unfold rd at e
    split at e
    · rename_i hf; cases e; exact r.dp d v hf.1
    · cases e
  | succ j ih =>
    intro d v p e r
    unfold rd at e
    split at e
    · rename_i hf; cases e; exact r.dp d v hf.1
    · cases d with
      | ref n =>
        simp only at e
        cases es : seqAt h n with
        | none => simp only [es] at e; cases e
        | some l =>
          simp only [es] at e
          obtain ⟨a, ea, rfl⟩ := r.ref_of
          obtain ⟨vs, e1, q⟩ := rh.seq es ea
          cases el : rdL (rd h j) l with
          | none => rw [el] at e; cases e
          | some ps =>
            rw [el] at e; cases e
            exact .lst e1 (all _ ih l vs ps el q)
      | _ => cases e
/-- == of data, lists within at most three deep -/
def shapedB (p : PyData) : Bool := SeqAt.shaped p
def dEqB (x y : D) (h : Hd) : Option Bool := (rd h 3 x).bind fun p => (rd h 3 y).bind fun q => if SeqAt.shaped p = true ∧ SeqAt.shaped q = true then some (PyData.eqv p q) else none
def dEq : Op2 := fun x y h => (dEqB x y h).map fun b => (.bl b, h)
def dNe : Op2 := fun x y h => (dEqB x y h).map fun b => (.bl (!b), h)
theorem dEqB_some {x y : D} {h : Hd} {b : Bool} (e : dEqB x y h = some b) : ∃ p q, rd h 3 x = some p ∧ rd h 3 y = some q ∧ SeqAt.shaped p = true ∧ SeqAt.shaped q = true ∧ b = PyData.eqv p q := by
  unfold dEqB at e
  cases e1 : rd h 3 x with
  | none => rw [e1] at e; cases e
  | some p =>
    cases e2 : rd h 3 y with
    | none => rw [e1, e2] at e; cases e
    | some q =>
      rw [e1, e2] at e
      simp only [Option.bind_some] at e
      split at e
      · rename_i hc; cases e; exact ⟨p, q, rfl, rfl, hc.1, hc.2, rfl⟩
      · cases e
theorem d_eq {X : Cx} (hu : X.A.units + 64 < cLine) {k : Kx} (hk : k.K = X.K) : OpD X k (compareOp .Eq) dEq := by
  intro pins s σ H v u v' u' Q I rv ru ⟨μ, h, x, y, rh, rx, ry, p⟩
  unfold dEq at p
  cases e : dEqB x y h with
  | none => rw [e] at p; exact p.elim
  | some b =>
    rw [e] at p
    obtain ⟨d1, d2, e1, e2, s1, s2, rfl⟩ := dEqB_some e
    exact op_eqD hu pins s σ H _ _ v' u' Q I rv ru ⟨d1, d2, hk ▸ rd_dp rh 3 x v d1 e1 rx, hk ▸ rd_dp rh 3 y u d2 e2 ry, s1, s2, p.now rh (RD.bl _)⟩
theorem d_ne {X : Cx} (hu : X.A.units + 64 < cLine) {k : Kx} (hk : k.K = X.K) : OpD X k (compareOp .NotEq) dNe := by
  intro pins s σ H v u v' u' Q I rv ru ⟨μ, h, x, y, rh, rx, ry, p⟩
  unfold dNe at p
  cases e : dEqB x y h with
  | none => rw [e] at p; exact p.elim
  | some b =>
    rw [e] at p
    obtain ⟨d1, d2, e1, e2, s1, s2, rfl⟩ := dEqB_some e
    exact op_neD hu pins s σ H _ _ v' u' Q I rv ru ⟨d1, d2, hk ▸ rd_dp rh 3 x v d1 e1 rx, hk ▸ rd_dp rh 3 y u d2 e2 ry, s1, s2, p.now rh (RD.bl _)⟩
/-- is, is not: with None, of bools -/
def D.isNon : D → Bool
  | .non => true
  | .bl _ => false
  | .int _ => false
  | .str _ => false
  | .tup _ => false
  | .ref _ => false
theorem RD.isNon {H μ} {d : D} {v : V} (r : RD H μ d v) : decide (v = .non) = d.isNon := by
  cases d with
  | non => simp [r.non_of, D.isNon]
  | bl b => simp [r.bl_of, D.isNon]
  | int b => simp [r.int_of, D.isNon]
  | str b => simp [r.str_of, D.isNon]
  | tup b => obtain ⟨a, vs, rfl, _⟩ := r.tup_of; simp [D.isNon]
  | ref b => obtain ⟨a, _, rfl⟩ := r.ref_of; simp [D.isNon]
def dIsB : D → D → Option Bool
  | x, .non => some x.isNon
  | .bl a, .bl b => some (decide (a = b))
  | _, _ => none
def dIs : Op2 := fun x y h => (dIsB x y).map fun b => (.bl b, h)
def dIsNot : Op2 := fun x y h => (dIsB x y).map fun b => (.bl (!b), h)
theorem PostO.mapB {k : Kx} {μ : List Addr} {H : Hp} {Q : VK} {o : Option Bool} {h : Hd} {f : Bool → Bool} (p : PostO k μ H Q (o.map fun b => (.bl (f b), h))) : ∃ b, o = some b ∧ PostO k μ H Q (some (.bl (f b), h)) := by
  cases o with
  | none => exact p.elim
  | some b => exact ⟨b, rfl, p⟩
theorem dIsB_cases {x y : D} {b : Bool} (e : dIsB x y = some b) : (y = .non ∧ b = x.isNon) ∨ ∃ p q, x = .bl p ∧ y = .bl q ∧ b = decide (p = q) := by
  cases y <;> cases x <;> simp [dIsB] at e <;> first | (left; exact ⟨rfl, e.symm⟩) | (right; exact ⟨_, _, rfl, rfl, e.symm⟩)
theorem d_is {X : Cx} {k : Kx} : OpD X k (compareOp .Is) dIs := by
  intro pins s σ H v u v' u' Q I rv ru ⟨μ, h, x, y, rh, rx, ry, p⟩
  obtain ⟨b, e, p⟩ := PostO.mapB (f := fun b => b) p
  rcases dIsB_cases e with ⟨rfl, rfl⟩ | ⟨c, d, rfl, rfl, rfl⟩
  · exact op_isN pins s σ H _ _ v' u' Q I rv ru ⟨ry.non_of, by rw [rx.isNon]; exact p.now rh (RD.bl _)⟩
  · exact op_isBl pins s σ H _ _ v' u' Q I rv ru ⟨c, d, rx.bl_of, ry.bl_of, p.now rh (RD.bl _)⟩
theorem d_isNot {X : Cx} {k : Kx} : OpD X k (compareOp .IsNot) dIsNot := by
  intro pins s σ H v u v' u' Q I rv ru ⟨μ, h, x, y, rh, rx, ry, p⟩
  obtain ⟨b, e, p⟩ := PostO.mapB (f := fun b => !b) p
  rcases dIsB_cases e with ⟨rfl, rfl⟩ | ⟨c, d, rfl, rfl, rfl⟩
  · exact op_notN pins s σ H _ _ v' u' Q I rv ru ⟨ry.non_of, by rw [rx.isNon]; exact p.now rh (RD.bl _)⟩
  · exact op_notBl pins s σ H _ _ v' u' Q I rv ru ⟨c, d, rx.bl_of, ry.bl_of, p.now rh (RD.bl _)⟩
end PN
namespace PN
open PySem L2 PyProof.Rows
/-! ## dicts -/
theorem keyOf_inj {a b : D} {q : Key} (h1 : keyOf a = some q) (h2 : keyOf b = some q) : a = b := by
  cases a <;> simp [keyOf] at h1 <;> cases b <;> simp [keyOf] at h2 <;> subst h1 <;> simp_all
theorem keysOf_inj : ∀ {a b : List D} {q : List Key}, keysOf a = some q → keysOf b = some q → a = b
  | [], [], _, _, _ => rfl
  | [], d :: l, q, h1, h2 => by
    simp only [keysOf] at h1 h2
    cases h1
    split at h2 <;> simp at h2
  | d :: l, [], q, h1, h2 => by
    simp only [keysOf] at h1 h2
    cases h2
    split at h1 <;> simp at h1
  | d :: l, d' :: l', q, h1, h2 => by
    simp only [keysOf] at h1 h2
    split at h1
    · rename_i k r e1 e2
      split at h2
      · rename_i k' r' e1' e2'
        cases h1
        simp only [Option.some.injEq, List.cons.injEq] at h2
        obtain ⟨rfl, rfl⟩ := h2
        rw [keyOf_inj e1 e1', keysOf_inj e2 e2']
      · cases h2
    · cases h1
theorem tkeyOf_inj {a b : D} {q : List Key} (h1 : tkeyOf a = some q) (h2 : tkeyOf b = some q) : a = b := by
  cases a <;> simp [tkeyOf] at h1 <;> cases b <;> simp [tkeyOf] at h2
  rw [keysOf_inj h1 h2]
def dicAt (h : Hd) (n : Nat) : Option (List (D × D)) := match h[n]? with
  | some (.dic l) => some l
  | _ => none
theorem dicAt_eq {h : Hd} {n : Nat} {l : List (D × D)} (e : dicAt h n = some l) : h[n]? = some (.dic l) := by
  unfold dicAt at e
  split at e
  · rename_i q; cases e; exact q
  · cases e
def dlook (kvs : List (D × D)) (x : D) : Option D := (kvs.find? fun kv => decide (kv.1 = x)).map (·.2)
def dput (kvs : List (D × D)) (x v : D) : List (D × D) :=
  if (kvs.any fun kv => decide (kv.1 = x)) = true then kvs.map (fun kv => if kv.1 = x then (kv.1, v) else kv) else kvs ++ [(x, v)]
def ddrop (kvs : List (D × D)) (x : D) : List (D × D) := kvs.filter fun kv => decide (kv.1 ≠ x)
/-- the keys' kinds: all by value, all flat tuples -/
def keysK (kvs : List (D × D)) : Bool := kvs.all fun kv => (keyOf kv.1).isSome
def keysT (kvs : List (D × D)) : Bool := kvs.all fun kv => (tkeyOf kv.1).isSome
/-- x is a key as those are -/
def keyFits (kvs : List (D × D)) (x : D) : Bool := ((keyOf x).isSome && keysK kvs) || ((tkeyOf x).isSome && keysT kvs)
theorem key_disj {x : D} {q : Key} {r : List Key} (h1 : keyOf x = some q) (h2 : tkeyOf x = some r) : False := by
  cases x <;> simp [keyOf, tkeyOf] at h1 h2
section
variable {κ : Type} [DecidableEq κ] {ko : D → Option κ} {H : Hp} {μ : List Addr}
theorem RKv.look (inj : ∀ a b q, ko a = some q → ko b = some q → a = b) {x : D} {q : κ} (hx : ko x = some q) : ∀ {kvs : List (D × D)} {vs : List (κ × V)}, RKv ko H μ kvs vs →
    (dlook kvs x = none ∧ valV vs q = none) ∨ ∃ d v, dlook kvs x = some d ∧ valV vs q = some v ∧ RD H μ d v
  | [], vs, r => by
    have : vs = [] := r
    subst this
    exact .inl ⟨rfl, rfl⟩
  | (k, d) :: l, vs, r => by
    obtain ⟨q', v, r', rfl, e2, h1, h2⟩ := r
    by_cases e : k = x
    · subst e
      rw [hx] at e2; cases e2
      exact .inr ⟨d, v, by simp [dlook], valV_pos rfl, h1⟩
    · have hq : q' ≠ q := fun z => e (inj _ _ _ (z ▸ e2) hx)
      rw [valV_neg (p := (q', v)) hq]
      have : dlook ((k, d) :: l) x = dlook l x := by simp [dlook, e]
      rw [this]
      exact RKv.look inj hx h2
theorem RKv.any (inj : ∀ a b q, ko a = some q → ko b = some q → a = b) {x : D} {q : κ} (hx : ko x = some q) : ∀ {kvs : List (D × D)} {vs : List (κ × V)}, RKv ko H μ kvs vs →
    (kvs.any fun kv => decide (kv.1 = x)) = (vs.any fun kv => decide (kv.1 = q))
  | [], vs, r => by have : vs = [] := r; subst this; rfl
  | (k, d) :: l, vs, r => by
    obtain ⟨q', v, r', rfl, e2, h1, h2⟩ := r
    rw [List.any_cons, List.any_cons, RKv.any inj hx h2]
    congr 1
    by_cases e : k = x
    · subst e; rw [hx] at e2; cases e2; simp
    · have hq : q' ≠ q := fun z => e (inj _ _ _ (z ▸ e2) hx)
      simp [e, hq]
theorem RKv.map (inj : ∀ a b q, ko a = some q → ko b = some q → a = b) {x y : D} {q : κ} {u : V} (hx : ko x = some q) (hy : RD H μ y u) : ∀ {kvs : List (D × D)} {vs : List (κ × V)}, RKv ko H μ kvs vs →
    RKv ko H μ (kvs.map fun kv => if kv.1 = x then (kv.1, y) else kv) (vs.map fun kv => if kv.1 = q then (kv.1, u) else kv)
  | [], vs, r => by have : vs = [] := r; subst this; exact rfl
  | (k, d) :: l, vs, r => by
    obtain ⟨q', v, r', rfl, e2, h1, h2⟩ := r
    rw [List.map_cons, List.map_cons]
    by_cases e : k = x
    · subst e; rw [hx] at e2; cases e2
      rw [if_pos rfl, if_pos rfl]
      exact ⟨q, u, _, rfl, hx, hy, RKv.map inj hx hy h2⟩
    · have hq : q' ≠ q := fun z => e (inj _ _ _ (z ▸ e2) hx)
      rw [if_neg e, if_neg hq]
      exact ⟨q', v, _, rfl, e2, h1, RKv.map inj hx hy h2⟩
theorem RKv.snoc {x y : D} {q : κ} {u : V} (hx : ko x = some q) (hy : RD H μ y u) : ∀ {kvs : List (D × D)} {vs : List (κ × V)}, RKv ko H μ kvs vs → RKv ko H μ (kvs ++ [(x, y)]) (vs ++ [(q, u)])
  | [], vs, r => by have : vs = [] := r; subst this; exact ⟨q, u, [], rfl, hx, hy, rfl⟩
  | (k, d) :: l, vs, r => by
    obtain ⟨q', v, r', rfl, e2, h1, h2⟩ := r
    exact ⟨q', v, _, rfl, e2, h1, RKv.snoc hx hy h2⟩
theorem RKv.put (inj : ∀ a b q, ko a = some q → ko b = some q → a = b) {x y : D} {q : κ} {u : V} (hx : ko x = some q) (hy : RD H μ y u) {kvs : List (D × D)} {vs : List (κ × V)} (r : RKv ko H μ kvs vs) :
    RKv ko H μ (dput kvs x y) (putK vs q u) := by
  unfold dput putK
  rw [RKv.any inj hx r]
  split
  · exact r.map inj hx hy
  · exact r.snoc hx hy
theorem RKv.length : ∀ {kvs : List (D × D)} {vs : List (κ × V)}, RKv ko H μ kvs vs → kvs.length = vs.length
  | [], vs, r => by have : vs = [] := r; subst this; rfl
  | (k, d) :: l, vs, r => by
    obtain ⟨q', v, r', rfl, e2, h1, h2⟩ := r
    simp [RKv.length h2]
theorem RKv.key {kvs : List (D × D)} {vs : List (κ × V)} (r : RKv ko H μ kvs vs) : kvs.all (fun kv => (ko kv.1).isSome) = true := by
  induction kvs generalizing vs with
  | nil => rfl
  | cons p l ih =>
    obtain ⟨k, d⟩ := p
    obtain ⟨q', v, r', rfl, e2, h1, h2⟩ := r
    simp [e2, ih h2]
end
/-- a dict's key as a value of the kind -/
theorem keyOf_v {H : Hp} {μ : List Addr} {x : D} {v : V} {q : Key} (e : keyOf x = some q) (r : RD H μ x v) : v = kV q := by
  cases x <;> simp [keyOf] at e <;> subst e
  · exact r.int_of
  · exact r.str_of
theorem keysOf_v {H : Hp} {μ : List Addr} : ∀ {l : List D} {vs : List V} {q : List Key}, keysOf l = some q → RDs H μ l vs → vs = q.map kV
  | [], vs, q, e, r => by
    simp only [keysOf] at e; cases e
    simp only [RDs] at r; exact r
  | d :: l, vs, q, e, r => by
    simp only [keysOf] at e
    split at e
    · rename_i k' r' e1 e2
      cases e
      simp only [RDs] at r
      obtain ⟨v, r', rfl, h1, h2⟩ := r
      rw [keyOf_v e1 h1, keysOf_v e2 h2]; rfl
    · cases e
theorem tkeyOf_v {H : Hp} {μ : List Addr} {x : D} {v : V} {q : List Key} (e : tkeyOf x = some q) (r : RD H μ x v) : ∃ b, v = .ref b ∧ H b = some (.tup (q.map kV)) := by
  cases x <;> simp [tkeyOf] at e
  obtain ⟨a, vs, rfl, ea, r⟩ := r.tup_of
  rw [keysOf_v e r] at ea
  exact ⟨a, rfl, ea⟩
section
variable {X : Cx} {k : Kx} {μ : List Addr} {h : Hd} {H : Hp} {n : Nat} {a : Addr} {kvs : List (D × D)} {pins : List (Addr × Obj)} {σ : L2.St} {s : Shared}
/-- the empty dict is one of tuples as well -/
theorem Inv.toT (I : L2.Inv X pins σ H s) (e : H a = some (.dK [])) : L2.Inv X pins σ (upd H a (.dT [])) s := by
  obtain ⟨z, hd, vs, rel, dd⟩ := dk_of I.hok e
  cases rel
  obtain ⟨o, es, ep, h1, h2, h3, _, h5, _⟩ := dd
  have hes : es.toList = [] := by
    have hl := h5.length
    simpa using hl
  have J := I.write (t' := s.toks) (h' := s.heap) (x := a) (e := a) (o := HO.dT []) (by rw [e]; exact True.intro) (.inl rfl) (fun b u _ q => q) ⟨o, h1⟩
    ⟨Nat.zero_le _, hd, [], .nil, o, es, ep, h1, h2, h3, by rw [hes]; rfl, List.nodup_nil⟩
  exact J
theorem Inv.toK (I : L2.Inv X pins σ H s) (e : H a = some (.dT [])) : L2.Inv X pins σ (upd H a (.dK [])) s := by
  obtain ⟨z, hd, xs, rel, o, es, ep, h1, h2, h3, h4, _⟩ := dt_of I.hok e
  cases rel
  have J := I.write (t' := s.toks) (h' := s.heap) (x := a) (e := a) (o := HO.dK []) (by rw [e]; exact True.intro) (.inl rfl) (fun b u _ q => q) ⟨o, h1⟩
    ⟨Nat.zero_le _, hd, [], .nil, o, es, ep, h1, h2, h3, ?_, ?_, List.nodup_nil⟩
  · exact J
  · intro x hx
    have : es.toList = [] := by simpa using h4
    rw [← Array.mem_toList_iff, this] at hx; cases hx
  · have : es.toList = [] := by simpa using h4
    rw [this]; exact .nil
end
/-- a dict as it may be asked at a key that fits -/
theorem dict_at {X : Cx} {k : Kx} {μ : List Addr} {h : Hd} {H : Hp} {n : Nat} {a : Addr} {kvs : List (D × D)} {pins : List (Addr × Obj)} {σ : L2.St} {s : Shared} {x : D} (I : L2.Inv X pins σ H s) (rh : RH k μ h H)
    (e : dicAt h n = some kvs) (ea : μ[n]? = some a) (fit : keyFits kvs x = true) : ∃ H', L2.Inv X pins σ H' s ∧ RH k μ h H' ∧ Grow H μ H' μ ∧
      ((∃ vs q, H' a = some (.dK vs) ∧ RKv keyOf H' μ kvs vs ∧ keyOf x = some q) ∨ ∃ vs q, H' a = some (.dT vs) ∧ RKv tkeyOf H' μ kvs vs ∧ tkeyOf x = some q) := by
  have e' := dicAt_eq e
  have none_of : keysK kvs = true → keysT kvs = true → kvs = [] := fun h1 h2 => by
    cases kvs with
    | nil => rfl
    | cons p l =>
      simp only [keysK, keysT, List.all_cons, Bool.and_eq_true] at h1 h2
      obtain ⟨q, hq⟩ := Option.isSome_iff_exists.mp h1.1
      obtain ⟨r, hr⟩ := Option.isSome_iff_exists.mp h2.1
      exact (key_disj hq hr).elim
  have same : h.set n (.dic kvs) = h := by
    apply List.ext_getElem?
    intro j
    by_cases z : j = n
    · subst z
      rw [List.getElem?_set_self (List.getElem?_eq_some_iff.mp e').1, e']
    · rw [List.getElem?_set_ne (Ne.symm z)]
  unfold keyFits at fit
  rw [Bool.or_eq_true, Bool.and_eq_true, Bool.and_eq_true] at fit
  rcases rh.ob _ _ _ e' ea with ⟨vs, ev, r⟩ | ⟨vs, ev, r⟩
  · rcases fit with ⟨f1, f2⟩ | ⟨f1, f2⟩
    · obtain ⟨q, hq⟩ := Option.isSome_iff_exists.mp f1
      exact ⟨H, I, rh, Grow.refl, .inl ⟨vs, q, ev, r, hq⟩⟩
    · obtain ⟨q, hq⟩ := Option.isSome_iff_exists.mp f1
      have := none_of r.key f2
      subst this
      have ve : vs = [] := r
      subst ve
      have w := rh.write (ho := .dT []) (o' := .dic []) e' ea rfl rfl fun g => .inr ⟨[], upd_same, rfl⟩
      rw [same] at w
      exact ⟨_, Inv.toT I ev, w.1, w.2, .inr ⟨[], q, upd_same, rfl, hq⟩⟩
  · rcases fit with ⟨f1, f2⟩ | ⟨f1, f2⟩
    · obtain ⟨q, hq⟩ := Option.isSome_iff_exists.mp f1
      have := none_of f2 r.key
      subst this
      have ve : vs = [] := r
      subst ve
      have w := rh.write (ho := .dK []) (o' := .dic []) e' ea rfl rfl fun g => .inl ⟨[], upd_same, rfl⟩
      rw [same] at w
      exact ⟨_, Inv.toK I ev, w.1, w.2, .inl ⟨[], q, upd_same, rfl, hq⟩⟩
    · obtain ⟨q, hq⟩ := Option.isSome_iff_exists.mp f1
      exact ⟨H, I, rh, Grow.refl, .inr ⟨vs, q, ev, r, hq⟩⟩
/-- what it holds there -/
theorem dict_get {k : Kx} {μ : List Addr} {H : Hp} {a : Addr} {kvs : List (D × D)} {x : D} {v : V} (rx : RD H μ x v)
    (c : (∃ vs q, H a = some (.dK vs) ∧ RKv keyOf H μ kvs vs ∧ keyOf x = some q) ∨ ∃ vs q, H a = some (.dT vs) ∧ RKv tkeyOf H μ kvs vs ∧ tkeyOf x = some q) :
    (dlook kvs x = none ∧ DGet H a v none) ∨ ∃ d w, dlook kvs x = some d ∧ DGet H a v (some w) ∧ RD H μ d w := by
  rcases c with ⟨vs, q, e, r, hq⟩ | ⟨vs, q, e, r, hq⟩
  · rw [keyOf_v hq rx]
    rcases r.look (fun _ _ _ => keyOf_inj) hq with ⟨h1, h2⟩ | ⟨d, w, h1, h2, h3⟩
    · exact .inl ⟨h1, .inl ⟨vs, q, .inl e, rfl, h2.symm⟩⟩
    · exact .inr ⟨d, w, h1, .inl ⟨vs, q, .inl e, rfl, h2.symm⟩, h3⟩
  · obtain ⟨b, rfl, eb⟩ := tkeyOf_v hq rx
    rcases r.look (fun _ _ _ => tkeyOf_inj) hq with ⟨h1, h2⟩ | ⟨d, w, h1, h2, h3⟩
    · exact .inl ⟨h1, .inr ⟨vs, q, b, .inl e, rfl, eb, h2.symm⟩⟩
    · exact .inr ⟨d, w, h1, .inr ⟨vs, q, b, .inl e, rfl, eb, h2.symm⟩, h3⟩
/-- a store -/
theorem dict_put {k : Kx} {μ : List Addr} {h : Hd} {H : Hp} {n : Nat} {a : Addr} {kvs : List (D × D)} {x y : D} {v u : V} (rh : RH k μ h H) (e : dicAt h n = some kvs) (ea : μ[n]? = some a) (rx : RD H μ x v) (ry : RD H μ y u) (hz : kvs.length < BIG)
    (c : (∃ vs q, H a = some (.dK vs) ∧ RKv keyOf H μ kvs vs ∧ keyOf x = some q) ∨ ∃ vs q, H a = some (.dT vs) ∧ RKv tkeyOf H μ kvs vs ∧ tkeyOf x = some q) :
    ∃ H', DPut H a v u H' ∧ RH k μ (h.set n (.dic (dput kvs x y))) H' ∧ Grow H μ H' μ := by
  rw [big_eq] at hz
  rcases c with ⟨vs, q, ev, r, hq⟩ | ⟨vs, q, ev, r, hq⟩
  · rw [keyOf_v hq rx]
    have w := rh.write (ho := .dK (putK vs q u)) (o' := .dic (dput kvs x y)) (dicAt_eq e) ea rfl rfl fun g => .inl ⟨_, upd_same, RKv.grow g _ _ (r.put (fun _ _ _ => keyOf_inj) hq ry)⟩
    exact ⟨_, .inl ⟨vs, q, ev, rfl, by rw [← r.length]; exact hz, rfl⟩, w⟩
  · obtain ⟨b, rfl, eb⟩ := tkeyOf_v hq rx
    have w := rh.write (ho := .dT (putK vs q u)) (o' := .dic (dput kvs x y)) (dicAt_eq e) ea rfl rfl fun g => .inr ⟨_, upd_same, RKv.grow g _ _ (r.put (fun _ _ _ => tkeyOf_inj) hq ry)⟩
    exact ⟨_, .inr ⟨vs, q, b, ev, rfl, eb, by rw [← r.length]; exact hz, rfl⟩, w⟩
/-! ## in, not in -/
def dInB (x y : D) (h : Hd) : Option Bool := match y with
  | .ref n => match dicAt h n with
    | some kvs => if keyFits kvs x = true then some (dlook kvs x).isSome else none
    | none => (rd h 3 x).bind fun p => match rd h 3 y with
      | some (.list q) => if SeqAt.shaped p = true ∧ SeqAt.shaped (.list q) = true then some (q.any fun z => PyData.eqv z p) else none
      | _ => none
  | .tup l => (rd h 3 x).bind fun p => match rd h 3 y with
      | some (.tuple q) => if SeqAt.shaped p = true ∧ SeqAt.shaped (.tuple q) = true then some (q.any fun z => PyData.eqv z p) else none
      | _ => none
  | .str b => match x with
    | .str a => some (!(Builtin.Str.occurrences b a 0 b.length 1).isEmpty)
    | _ => none
  | _ => none
def dIn : Op2 := fun x y h => (dInB x y h).map fun b => (.bl b, h)
def dNotIn : Op2 := fun x y h => (dInB x y h).map fun b => (.bl (!b), h)
/-- a rule for in, by any of its ways -/
theorem in_ok {X : Cx} (hu : X.A.units + 65 < cLine) {k : Kx} (hk : k.K = X.K) {pins : List (Addr × Obj)} {s : Shared} {σ : L2.St} {H : Hp} {v u : V} {v' u' : Value} {Q : Value → Shared → Prop} {μ : List Addr} {h : Hd} {x y : D} {b : Bool}
    (I : L2.Inv X pins σ H s) (rv : RelV v v') (ru : RelV u u') (rh : RH k μ h H) (rx : RD H μ x v) (ry : RD H μ y u) (e : dInB x y h = some b) (neg : Bool)
    (q : ∀ s' H', L2.Inv X pins σ H' s' → RH k μ h H' → Grow H μ H' μ → Q (.bool (if neg then !b else b)) s') :
    wpAny (model X.prog X.w) X.A (compareOp (if neg then .NotIn else .In) v' u') Q X.xe s := by
  cases y with
  | ref n =>
    unfold dInB at e
    simp only at e
    obtain ⟨a, ea, rfl⟩ := ry.ref_of
    cases ru
    cases ed : dicAt h n with
    | some kvs =>
      rw [ed] at e
      simp only at e
      split at e
      · rename_i fit
        cases e
        obtain ⟨H', I', rh', g, c⟩ := dict_at I rh ed ea fit
        have rx' := RD.grow g.toExt x v rx
        have hu1 : X.A.units + 1 < cLine := by omega
        rcases dict_get (k := k) rx' c with ⟨h1, h2⟩ | ⟨d, w, h1, h2, _⟩
        · rw [h1] at q
          cases neg with
          | false => exact d_in hu1 I' h2 rv fun s' J => q s' H' J rh' g
          | true => exact d_notIn hu1 I' h2 rv fun s' J => q s' H' J rh' g
        · rw [h1] at q
          cases neg with
          | false => exact d_in hu1 I' h2 rv fun s' J => q s' H' J rh' g
          | true => exact d_notIn hu1 I' h2 rv fun s' J => q s' H' J rh' g
      · cases e
    | none =>
      rw [ed] at e
      simp only at e
      cases e1 : rd h 3 x with
      | none => rw [e1] at e; cases e
      | some p =>
        rw [e1] at e
        simp only [Option.bind_some] at e
        split at e
        · rename_i l e2
          split at e
          · rename_i hc
            cases e
            obtain ⟨as, r1⟩ := Dp.reads I p v v' (hk ▸ rd_dp rh 3 x v p e1 rx) rv
            obtain ⟨bs, r2⟩ := Dp.reads I (.list l) _ _ (hk ▸ rd_dp rh 3 _ _ _ e2 ry) (show RelV (.ref a) (.ref a) from rfl)
            cases neg with
            | false => exact SeqAt.in_list_reads r2 r1 (SeqAt.canLay_of_shaped hc.2) (SeqAt.canLay_of_shaped hc.1) (room_in_shaped hc.1 hu) (q s H I rh Grow.refl)
            | true => exact SeqAt.notIn_list_reads r2 r1 (SeqAt.canLay_of_shaped hc.2) (SeqAt.canLay_of_shaped hc.1) (room_in_shaped hc.1 hu) (q s H I rh Grow.refl)
          · cases e
        · cases e
  | tup l =>
    unfold dInB at e
    simp only at e
    cases e1 : rd h 3 x with
    | none => rw [e1] at e; cases e
    | some p =>
      rw [e1] at e
      simp only [Option.bind_some] at e
      split at e
      · rename_i l2 e2
        split at e
        · rename_i hc
          cases e
          obtain ⟨as, r1⟩ := Dp.reads I p v v' (hk ▸ rd_dp rh 3 x v p e1 rx) rv
          obtain ⟨bs, r2⟩ := Dp.reads I (.tuple l2) _ _ (hk ▸ rd_dp rh 3 _ _ _ e2 ry) ru
          cases neg with
          | false => exact SeqAt.in_tuple_reads r2 r1 (SeqAt.canLay_of_shaped hc.2) (SeqAt.canLay_of_shaped hc.1) (room_in_shaped hc.1 hu) (q s H I rh Grow.refl)
          | true => exact SeqAt.notIn_tuple_reads r2 r1 (SeqAt.canLay_of_shaped hc.2) (SeqAt.canLay_of_shaped hc.1) (room_in_shaped hc.1 hu) (q s H I rh Grow.refl)
        · cases e
      · cases e
  | str b' =>
    cases x <;> first | (simp [dInB] at e; done) | skip
    rename_i a'
    simp only [dInB] at e
    cases e
    rw [rx.str_of] at rv
    rw [ry.str_of] at ru
    obtain ⟨t, rfl⟩ := rv
    obtain ⟨t', rfl⟩ := ru
    cases neg with
    | false => exact in_str (q s H I rh Grow.refl)
    | true => exact notIn_str (q s H I rh Grow.refl)
  | _ => simp [dInB] at e
theorem d_inOp {X : Cx} (hu : X.A.units + 65 < cLine) {k : Kx} (hk : k.K = X.K) : OpD X k (compareOp .In) dIn := by
  intro pins s σ H v u v' u' Q I rv ru ⟨μ, h, x, y, rh, rx, ry, p⟩
  obtain ⟨b, e, p⟩ := PostO.mapB (f := fun b => b) p
  exact in_ok hu hk I rv ru rh rx ry e false fun s' H' J r g => ⟨.bl b, H', J, rfl, p _ _ g r _ (RD.bl _)⟩
theorem d_notInOp {X : Cx} (hu : X.A.units + 65 < cLine) {k : Kx} (hk : k.K = X.K) : OpD X k (compareOp .NotIn) dNotIn := by
  intro pins s σ H v u v' u' Q I rv ru ⟨μ, h, x, y, rh, rx, ry, p⟩
  obtain ⟨b, e, p⟩ := PostO.mapB (f := fun b => !b) p
  exact in_ok hu hk I rv ru rh rx ry e true fun s' H' J r g => ⟨.bl (!b), H', J, rfl, p _ _ g r _ (RD.bl _)⟩
/-! ## <, <=, >, >= -/
def notNone : PyData → Bool
  | .none => false
  | _ => true
def dLess (pi : Int → Int → Bool) (pd : PyData → PyData → Bool) : Op2
  | .int i, .int j, h => some (.bl (pi i j), h)
  | x, y, h => (rd h 3 x).bind fun p => (rd h 3 y).bind fun q => if PySem.W.alike p q = true ∧ notNone p = true ∧ p.depth ≤ 50 then some (.bl (pd p q), h) else none
def dLt : Op2 := dLess (fun i j => decide (i < j)) PySem.W.dataLt
def dLe : Op2 := dLess (fun i j => decide (i ≤ j)) fun p q => !PySem.W.dataLt q p
def dGt : Op2 := dLess (fun i j => decide (j < i)) fun p q => PySem.W.dataLt q p
def dGe : Op2 := dLess (fun i j => decide (j ≤ i)) fun p q => !PySem.W.dataLt p q
theorem d_less {X : Cx} {k : Kx} (hk : k.K = X.K) {op : CmpOp} {pi : Int → Int → Bool} {pd : PyData → PyData → Bool} (ho : OpR X (compareOp op) (rI0 fun i j => .bl (pi i j))) (hu : X.A.units + 65 < cLine)
    (hd : ∀ {E : Value → Shared → Prop} {s : Shared} {a b : Value} {as bs : List Addr} {p q : PyData} {Q : Value → Shared → Prop}, Reads s.heap a p as → Reads s.heap b q bs → PySem.W.alike p q = true → p ≠ .none → X.A.units + min p.depth q.depth < cLine → Q (.bool (pd p q)) s →
      wpAny (model X.prog X.w) X.A (compareOp op a b) Q E s) : OpD X k (compareOp op) (dLess pi pd) := by
  intro pins s σ H v u v' u' Q I rv ru ⟨μ, h, x, y, rh, rx, ry, p⟩
  have data : PostO k μ H Q ((rd h 3 x).bind fun p => (rd h 3 y).bind fun q => if PySem.W.alike p q = true ∧ notNone p = true ∧ p.depth ≤ 50 then some (.bl (pd p q), h) else none) → wpAny (model X.prog X.w) X.A (compareOp op v' u') (EP X pins σ Q) X.xe s := fun p => by
    obtain ⟨d1, e1, p⟩ := PostO.of p
    obtain ⟨d2, e2, p⟩ := PostO.of p
    obtain ⟨⟨c1, c2, c3⟩, p⟩ := PostO.guard p
    obtain ⟨as, r1⟩ := Dp.reads I d1 v v' (hk ▸ rd_dp rh 3 x v d1 e1 rx) rv
    obtain ⟨bs, r2⟩ := Dp.reads I d2 u u' (hk ▸ rd_dp rh 3 y u d2 e2 ry) ru
    exact hd r1 r2 c1 (by intro z; rw [z] at c2; simp [notNone] at c2) (by omega) ⟨.bl _, H, I, rfl, p.now rh (RD.bl _)⟩
  cases x <;> cases y <;> first | exact data p | skip
  rw [rx.int_of] at rv; rw [ry.int_of] at ru
  exact ho pins s σ H _ _ v' u' Q I rv ru ⟨_, _, rfl, rfl, p.now rh (RD.bl _)⟩
def cmpOf : CmpOp → Option Op2
  | .Eq => some dEq
  | .NotEq => some dNe
  | .Lt => some dLt
  | .LtE => some dLe
  | .Gt => some dGt
  | .GtE => some dGe
  | .Is => some dIs
  | .IsNot => some dIsNot
  | .In => some dIn
  | .NotIn => some dNotIn
theorem cmpOf_ok {X : Cx} (hu : X.A.units + 65 < cLine) {k : Kx} (hk : k.K = X.K) {op : CmpOp} {g : Op2} (e : cmpOf op = some g) : OpD X k (compareOp op) g := by
  have hu' : X.A.units + 64 < cLine := by omega
  cases op with
  | Eq => cases e; exact d_eq hu' hk
  | NotEq => cases e; exact d_ne hu' hk
  | Lt => cases e; exact d_less hk op_lt hu PySem.W.lt_data
  | LtE => cases e; exact d_less hk op_le hu PySem.W.le_data
  | Gt => cases e; exact d_less hk op_gt hu PySem.W.gt_data
  | GtE => cases e; exact d_less hk op_ge hu PySem.W.ge_data
  | Is => cases e; exact d_is
  | IsNot => cases e; exact d_isNot
  | In => cases e; exact d_inOp hu hk
  | NotIn => cases e; exact d_notInOp hu hk
end PN
namespace PN
open PySem L2 PyProof.Rows
/-! ## expressions, tests -/
section
variable {X : Cx} {k : Kx} {W : WX} {a b c : Expr} {pos : Pos}
theorem now1 {d : D} {h : Hd} {μ : List Addr} {H : Hp} {σ : L2.St} {Q : VK} {v : V} (rh : RH k μ h H) (r : RD H μ d v) (p : PostG k W μ H σ (okV Q) (.ok d h)) : Q v H := p H μ Grow.refl rh v r
def dVar (i : Nat) : Se := fun env h => match env[i]? with
  | some (some d) => .ok d h
  | _ => .bad
theorem x_var {i : Nat} {x : Str} (hN : X.N[i]? = some x) (hv : Vis X.env.scope x) (hd : (x == ("__debug__" : Str)) = false) (hcd : (x == ("__classdict__" : Str)) = false) : PE X (.Name x pos) (tX k W (dVar i)) := by
  refine PE.weak (pe_var hN hv hd hcd) fun σ H Q ⟨μ, env, h, rh, re, p⟩ => ?_
  unfold dVar at p
  split at p
  · rename_i d e
    obtain ⟨v, e1, r⟩ := re.at_ i d e
    exact ⟨v, e1, now1 rh r p⟩
  · exact p.elim
def dC (d : D) : Se := fun _ h => .ok d h
theorem x_int {i : Int} {j} : PE X (.Constant (.int i) j pos) (tX k W (dC (.int i))) := PE.weak pe_int fun σ H Q ⟨μ, env, h, rh, re, p⟩ => now1 rh (RD.int _) p
theorem x_bl {i : Bool} {j} : PE X (.Constant (.bool i) j pos) (tX k W (dC (.bl i))) := PE.weak pe_bl fun σ H Q ⟨μ, env, h, rh, re, p⟩ => now1 rh (RD.bl _) p
theorem x_non {j} : PE X (.Constant .none j pos) (tX k W (dC .non)) := PE.weak pe_non fun σ H Q ⟨μ, env, h, rh, re, p⟩ => now1 rh RD.non p
theorem x_str {i : Str} {j} : PE X (.Constant (.str i) j pos) (tX k W (dC (.str i))) := PE.weak pe_str fun σ H Q ⟨μ, env, h, rh, re, p⟩ => now1 rh (RD.str _) p
/-- a module's constant: an int, a text -/
theorem x_glob {x : Str} {d : D} {v : V} {u : Value} (hg : Gl X x) (hm : X.mg x = some u) (r : RelV v u) (hd : (x == ("__debug__" : Str)) = false) (rd : ∀ H μ, RD H μ d v) : PE X (.Name x pos) (tX k W (dC d)) :=
  PE.weak (pe_glob hg hm r hd) fun σ H Q ⟨μ, env, h, rh, re, p⟩ => now1 rh (rd _ _) p
/-! ### arguments, displays -/
def dNil : Sa := fun _ h => .ok [] h
def dCons (f : Se) (g : Sa) : Sa := fun env h => (f env h).bind fun d h1 => (g env h1).bind fun l h2 => .ok (d :: l) h2
variable {fa fb fc : Se} {es : List Expr} {fs : Sa}
theorem a_nil : PA X [] (tA k W dNil) := PA.weak pa_nil fun σ H Q ⟨μ, env, h, rh, re, p⟩ => p H μ Grow.refl rh _ RDs.nil
theorem a_cons (ha : PE X a (tX k W fa)) (hs : PA X es (tA k W fs)) (h1 : starEach (a :: es) X.env = (false, eval a X.env) :: starEach es X.env) : PA X (a :: es) (tA k W (dCons fa fs)) :=
  PA.weak (pa_cons ha hs h1) fun σ H Q ⟨μ, env, h, rh, re, p⟩ => then1 rh re p fun d h1 H1 μ1 v g1 r1 e1 rv p1 => thenA r1 e1 p1 fun l h2 H2 μ2 vs g2 r2 e2 rl p2 =>
    p2 H2 μ2 Grow.refl r2 _ (RDs.cons (RD.grow g2 d v rv) rl)
def dTup (g : Sa) : Se := fun env h => (g env h).bind fun l h1 => if l.length ≤ BIG then .ok (.tup l) h1 else .bad
def dLst (g : Sa) : Se := fun env h => (g env h).bind fun l h1 => if l.length ≤ BIG then .ok (.ref h1.length) (h1 ++ [.lst l]) else .bad
theorem PostG.guard {α : Type} {c : Prop} [Decidable c] {μ : List Addr} {H : Hp} {σ : L2.St} {okc : α → Hd → Hp → List Addr → Prop} {r : Rs α} (p : PostG k W μ H σ okc (if c then r else .bad)) : c ∧ PostG k W μ H σ okc r := by
  by_cases hc : c
  · rw [if_pos hc] at p; exact ⟨hc, p⟩
  · rw [if_neg hc] at p; exact p.elim
theorem PostG.toO {μ : List Addr} {H : Hp} {σ : L2.St} {Q : VK} {d : D} {h : Hd} (p : PostG k W μ H σ (okV Q) (.ok d h)) : PostO k μ H Q (some (d, h)) := fun H' μ' g r v rv => p H' μ' g r v rv
theorem x_tup {j} (hs : PA X es (tA k W fs)) : PE X (.Tuple es j pos) (tX k W (dTup fs)) :=
  PE.weak (pe_tup hs) fun σ H Q ⟨μ, env, h, rh, re, p⟩ => thenA rh re p fun l h1 H1 μ1 vs g1 r1 e1 rl p1 => by
    obtain ⟨hz, p1⟩ := PostG.guard p1
    exact ⟨by rw [← rl.length, ← big_eq]; exact hz, p1.toO.newTup r1 rl⟩
theorem x_lst (hs : PA X es (tA k W fs)) : PE X (.List es pos) (tX k W (dLst fs)) :=
  PE.weak (pe_lst hs) fun σ H Q ⟨μ, env, h, rh, re, p⟩ => thenA rh re p fun l h1 H1 μ1 vs g1 r1 e1 rl p1 => by
    obtain ⟨hz, p1⟩ := PostG.guard p1
    exact ⟨by rw [← rl.length, ← big_eq]; exact hz, p1.toO.newLst r1 rl⟩
/-- {} -/
def dDic0 : Se := fun _ h => .ok (.ref h.length) (h ++ [.dic []])
theorem x_dic0 {pos : Pos} : PE X (.Dict [] [] pos) (tX k W dDic0) :=
  PE.weak pe_dnewK fun σ H Q ⟨μ, env, h, rh, re, p⟩ d hd => by
    have g : Grow H μ (upd H d (.dK [])) (μ ++ [d]) := (Grow.fresh hd).more hd
    obtain ⟨r1, _⟩ := rh.alloc (o := .dic []) (ho := .dK []) hd rfl (.inl ⟨[], upd_same, rfl⟩)
    refine p _ _ g r1 _ (RD.ref ?_)
    rw [← rh.len, List.getElem?_append_right (Nat.le_refl _)]; simp
/-! ### unary, and, or, if -/
def truB : D → Hd → Option Bool
  | .non, _ => some false
  | .bl b, _ => some b
  | .int i, _ => some (i != 0)
  | .str s, _ => if s.length ≤ BIG then some ((s.length : Int) != 0) else none
  | .tup l, _ => some (!l.isEmpty)
  | .ref n, h => (seqAt h n).map fun l => !l.isEmpty
theorem RDs.isEmpty {H μ} {l : List D} {vs : List V} (r : RDs H μ l vs) : l.isEmpty = vs.isEmpty := by
  have := r.length
  cases l <;> cases vs <;> simp_all
theorem truB_ok {μ : List Addr} {H : Hp} {h : Hd} {d : D} {v : V} {t : Bool} (hk : k.K = X.K) (rh : RH k μ h H) (r : RD H μ d v) (e : truB d h = some t) : TruV X.K v H t := by
  cases d with
  | non => rw [r.non_of]; simp [truB] at e; exact e
  | bl b => rw [r.bl_of]; simp [truB] at e; exact e.symm
  | int b => rw [r.int_of]; simp only [truB, Option.some.injEq] at e; exact e.symm
  | str b =>
    rw [r.str_of]
    simp only [truB] at e
    split at e
    · rename_i hz; simp only [Option.some.injEq] at e; exact ⟨by rw [← big_eq]; exact hz, e.symm⟩
    · cases e
  | tup l =>
    obtain ⟨a, vs, rfl, ea, q⟩ := r.tup_of
    simp only [truB, Option.some.injEq] at e
    exact .inr (.inl ⟨vs, SqT.of ea, by rw [← e, q.isEmpty]⟩)
  | ref n =>
    obtain ⟨a, ea, rfl⟩ := r.ref_of
    simp only [truB] at e
    cases es : seqAt h n with
    | none => rw [es] at e; cases e
    | some l =>
      rw [es] at e
      simp only [Option.map_some, Option.some.injEq] at e
      obtain ⟨vs, e1, q⟩ := rh.seq es ea
      exact .inl ⟨vs, hk ▸ e1, by rw [← e, q.isEmpty]⟩
def ofB (o : Option Bool) (h : Hd) : Rs Bool := match o with
  | some b => .ok b h
  | none => .bad
@[simp] theorem ofB_some (b : Bool) (h : Hd) : ofB (some b) h = .ok b h := rfl
theorem PostG.ofB {μ : List Addr} {H : Hp} {σ : L2.St} {okc : Bool → Hd → Hp → List Addr → Prop} {o : Option Bool} {h : Hd} (p : PostG k W μ H σ okc (ofB o h)) : ∃ b, o = some b ∧ PostG k W μ H σ okc (.ok b h) := by
  cases o with
  | none => exact p.elim
  | some b => exact ⟨b, rfl, p⟩
/-- a value's truth as a test -/
def dTru (f : Se) : St' := fun env h => (f env h).bind fun d h1 => ofB (truB d h1) h1
theorem t_tru (hk : k.K = X.K) (ha : PE X a (tX k W fa)) (he : ∀ whole, isTrue a X.env whole = (do let v ← whole; standAt a.pos; holding [v] (truthy v))) : PT X a (tT k W (dTru fa)) :=
  PT.weak (pt_truth ha he) fun σ H Q ⟨μ, env, h, rh, re, p⟩ => then1 rh re p fun d h1 H1 μ1 v g1 r1 e1 rv p1 => by
    obtain ⟨b, e, p1⟩ := PostG.ofB p1
    exact ⟨b, truB_ok hk r1 rv e, p1 _ _ Grow.refl r1⟩
variable {ta tb tc : St'}
def dNotT (t : St') : St' := fun env h => (t env h).bind fun b h1 => .ok (!b) h1
theorem t_not (ha : PT X a (tT k W ta)) : PT X (.UnaryOp .Not a pos) (tT k W (dNotT ta)) :=
  PT.weak (pt_not ha) fun σ H Q ⟨μ, env, h, rh, re, p⟩ => thenT rh re p fun b h1 H1 μ1 g1 r1 e1 p1 => p1 _ _ Grow.refl r1
def dAndT (t u : St') : St' := fun env h => (t env h).bind fun b h1 => if b = true then u env h1 else .ok false h1
def dOrT (t u : St') : St' := fun env h => (t env h).bind fun b h1 => if b = true then .ok true h1 else u env h1
variable {rest : List Expr}
theorem w_and1 (ha : PT X a (tT k W ta)) : PW X (.BoolOp .And [a] pos) (tT k W ta) := pw_and1 ha
theorem w_or1 (ha : PT X a (tT k W ta)) : PW X (.BoolOp .Or [a] pos) (tT k W ta) := pw_or1 ha
theorem w_and (ha : PT X a (tT k W ta)) (hb : PW X (.BoolOp .And (b :: rest) pos) (tT k W tb)) : PW X (.BoolOp .And (a :: b :: rest) pos) (tT k W (dAndT ta tb)) :=
  PW.weak (pw_and ha hb) fun σ H Q ⟨μ, env, h, rh, re, p⟩ => thenT rh re p fun c h1 H1 μ1 g1 r1 e1 p1 => by
    cases c with
    | true => exact ⟨μ1, env, h1, r1, e1, p1⟩
    | false => exact p1 _ _ Grow.refl r1
theorem w_or (ha : PT X a (tT k W ta)) (hb : PW X (.BoolOp .Or (b :: rest) pos) (tT k W tb)) : PW X (.BoolOp .Or (a :: b :: rest) pos) (tT k W (dOrT ta tb)) :=
  PW.weak (pw_or ha hb) fun σ H Q ⟨μ, env, h, rh, re, p⟩ => thenT rh re p fun c h1 H1 μ1 g1 r1 e1 p1 => by
    cases c with
    | false => exact ⟨μ1, env, h1, r1, e1, p1⟩
    | true => exact p1 _ _ Grow.refl r1
/-- a if t else b -/
def dIf (t : St') (f g : Se) : Se := fun env h => (t env h).bind fun b h1 => if b = true then f env h1 else g env h1
theorem x_if (hc : PT X c (tT k W tc)) (ha : PE X a (tX k W fa)) (hb : PE X b (tX k W fb)) : PE X (.IfExp c a b pos) (tX k W (dIf tc fa fb)) :=
  PE.weak (pe_ifExp hc ha hb) fun σ H Q ⟨μ, env, h, rh, re, p⟩ => thenT rh re p fun c h1 H1 μ1 g1 r1 e1 p1 => by
    cases c with
    | true => exact ⟨μ1, env, h1, r1, e1, p1⟩
    | false => exact ⟨μ1, env, h1, r1, e1, p1⟩
def dIfT (t : St') (f g : St') : St' := fun env h => (t env h).bind fun b h1 => if b = true then f env h1 else g env h1
theorem t_if (hc : PT X c (tT k W tc)) (ha : PT X a (tT k W ta)) (hb : PT X b (tT k W tb)) : PT X (.IfExp c a b pos) (tT k W (dIfT tc ta tb)) := by
  refine ⟨fun pins s σ H Q I ⟨μ, env, h, rh, re, p⟩ => ?_⟩
  have p' := thenT (Q := fun d H1 => if d = true then tT k W ta σ H1 Q else tT k W tb σ H1 Q) rh re p fun c h1 H1 μ1 g1 r1 e1 p1 => by
    cases c with
    | true => exact ⟨μ1, env, h1, r1, e1, p1⟩
    | false => exact ⟨μ1, env, h1, r1, e1, p1⟩
  show wpAny _ _ (do if ← isTrue c X.env (eval c X.env) then isTrue a X.env (eval a X.env) else isTrue b X.env (eval b X.env)) _ _ _
  refine wpAny_bind (thn (hc.run pins s σ H _ I p') fun d s1 ⟨H1, I1, q⟩ => ?_)
  cases d with
  | true => exact ha.run pins s1 σ H1 Q I1 q
  | false => exact hb.run pins s1 σ H1 Q I1 q
/-- x and y, x or y, not x: values -/
def dAnd (f g : Se) : Se := fun env h => (f env h).bind fun d h1 => match truB d h1 with
  | some true => g env h1
  | some false => .ok d h1
  | none => .bad
def dOr (f g : Se) : Se := fun env h => (f env h).bind fun d h1 => match truB d h1 with
  | some false => g env h1
  | some true => .ok d h1
  | none => .bad
def dNot (f : Se) : Se := fun env h => (f env h).bind fun d h1 => match truB d h1 with
  | some b => .ok (.bl (!b)) h1
  | none => .bad
theorem x_one {op} (ha : PE X a (tX k W fa)) : PE X (.BoolOp op [a] pos) (tX k W fa) := pe_one ha
theorem x_and (hk : k.K = X.K) (ha : PE X a (tX k W fa)) (hb : PE X (.BoolOp .And (b :: rest) pos) (tX k W fb)) : PE X (.BoolOp .And (a :: b :: rest) pos) (tX k W (dAnd fa fb)) :=
  PE.weak (pe_andT ha hb) fun σ H Q ⟨μ, env, h, rh, re, p⟩ => then1 rh re p fun d h1 H1 μ1 v g1 r1 e1 rv p1 => by
    split at p1
    · rename_i e; exact ⟨true, truB_ok hk r1 rv e, ⟨μ1, env, h1, r1, e1, p1⟩⟩
    · rename_i e; exact ⟨false, truB_ok hk r1 rv e, now1 r1 rv p1⟩
    · exact p1.elim
theorem x_or (hk : k.K = X.K) (ha : PE X a (tX k W fa)) (hb : PE X (.BoolOp .Or (b :: rest) pos) (tX k W fb)) : PE X (.BoolOp .Or (a :: b :: rest) pos) (tX k W (dOr fa fb)) :=
  PE.weak (pe_orT ha hb) fun σ H Q ⟨μ, env, h, rh, re, p⟩ => then1 rh re p fun d h1 H1 μ1 v g1 r1 e1 rv p1 => by
    split at p1
    · rename_i e; exact ⟨false, truB_ok hk r1 rv e, ⟨μ1, env, h1, r1, e1, p1⟩⟩
    · rename_i e; exact ⟨true, truB_ok hk r1 rv e, now1 r1 rv p1⟩
    · exact p1.elim
theorem x_not (hk : k.K = X.K) (ha : PE X a (tX k W fa)) : PE X (.UnaryOp .Not a pos) (tX k W (dNot fa)) :=
  PE.weak (pe_notT ha) fun σ H Q ⟨μ, env, h, rh, re, p⟩ => then1 rh re p fun d h1 H1 μ1 v g1 r1 e1 rv p1 => by
    split at p1
    · rename_i b e; exact ⟨b, truB_ok hk r1 rv e, now1 r1 (RD.bl _) p1⟩
    · exact p1.elim
def dNeg (f : Se) : Se := fun env h => (f env h).bind fun d h1 => match d with
  | .int i => .ok (.int (-i)) h1
  | _ => .bad
theorem x_neg (ha : PE X a (tX k W fa)) : PE X (.UnaryOp .USub a pos) (tX k W (dNeg fa)) :=
  PE.weak (pe_un un_neg ha) fun σ H Q ⟨μ, env, h, rh, re, p⟩ => then1 rh re p fun d h1 H1 μ1 v g1 r1 e1 rv p1 => by
    cases d <;> first | exact p1.elim | skip
    exact ⟨_, rv.int_of, now1 r1 (RD.int _) p1⟩
/-! ### comparisons as tests, chains -/
/-- a reading that ends in a flag, as a test -/
def dFlag (f : Se) : St' := fun env h => (f env h).bind fun d h1 => match d with
  | .bl b => .ok b h1
  | _ => .bad
theorem dFlag_bin (g : Op2) (fa fb : Se) (env : Env) (h : Hd) : dFlag (dBin g fa fb) env h = (fa env h).bind fun x h1 => (fb env h1).bind fun y h2 => match g x y h2 with
    | some (.bl b, h3) => .ok b h3
    | _ => .bad := by
  unfold dFlag dBin
  cases fa env h with
  | ok x h1 =>
    simp only [Rs.bind_ok]
    cases fb env h1 with
    | ok y h2 =>
      simp only [Rs.bind_ok]
      cases g x y h2 with
      | none => rfl
      | some q => obtain ⟨d, h3⟩ := q; cases d <;> rfl
    | err _ _ => rfl
    | bad => rfl
  | err _ _ => rfl
  | bad => rfl
theorem PostO.flag {μ : List Addr} {H : Hp} {σ : L2.St} {Q : Bool → Hp → Prop} {o : Option (D × Hd)} (p : PostG k W μ H σ (okB Q) (match o with | some (.bl b, h3) => .ok b h3 | _ => .bad)) : PostO k μ H (fun x H' => ∃ b, x = .bl b ∧ Q b H') o := by
  cases o with
  | none => exact p.elim
  | some q =>
    obtain ⟨d, h3⟩ := q
    cases d <;> first | exact p.elim | skip
    exact fun H' μ' g r v rv => ⟨_, rv.bl_of, p H' μ' g r⟩
theorem t_cmp {op : CmpOp} {g : Op2} (ho : OpD X k (compareOp op) g) (ha : PE X a (tX k W fa)) (hb : PE X b (tX k W fb)) (hm : behindInMarks op b = false) : PT X (.Compare a [op] [b] pos) (tT k W (dFlag (dBin g fa fb))) :=
  PT.weak (pt_cmpR ho ha hb hm) fun σ H Q ⟨μ, env, h, rh, re, p⟩ => by
    rw [dFlag_bin] at p
    exact then1 rh re p fun x h1 H1 μ1 v g1 r1 e1 rx p1 => then1 r1 e1 p1 fun y h2 H2 μ2 u g2 r2 e2 ry p2 => ⟨μ2, h2, x, y, r2, RD.grow g2 x v rx, ry, PostO.flag p2⟩
def dChain (g g' : Op2) (fa fb fc : Se) : Se := fun env h => (fa env h).bind fun x h1 => (fb env h1).bind fun y h2 => match g x y h2 with
  | some (.bl true, h3) => (fc env h3).bind fun z h4 => ofO (g' y z h4)
  | some (.bl false, h3) => .ok (.bl false) h3
  | _ => .bad
theorem chain_w {g g' : Op2} : ∀ σ H Q, tX k W (dChain g g' fa fb fc) σ H Q → tChain (fun v u H Q => ∃ μ h x y, RH k μ h H ∧ RD H μ x v ∧ RD H μ y u ∧ PostO k μ H Q (g x y h)) (fun v u H Q => ∃ μ h x y, RH k μ h H ∧ RD H μ x v ∧ RD H μ y u ∧ PostO k μ H Q (g' x y h)) (tX k W fa) (tX k W fb) (tX k W fc) σ H Q :=
  fun σ H Q ⟨μ, env, h, rh, re, p⟩ => then1 rh re p fun x h1 H1 μ1 v g1 r1 e1 rx p1 => then1 r1 e1 p1 fun y h2 H2 μ2 u g2 r2 e2 ry p2 => by
    refine ⟨μ2, h2, x, y, r2, RD.grow g2 x v rx, ry, ?_⟩
    cases e : g x y h2 with
    | none => rw [e] at p2; exact p2.elim
    | some q =>
      obtain ⟨d, h3⟩ := q
      rw [e] at p2
      cases d <;> first | exact p2.elim | skip
      rename_i b
      cases b with
      | false => exact fun H' μ' g3 r3 w rw' => ⟨false, rw'.bl_of, p2 H' μ' g3 r3 _ (RD.bl _)⟩
      | true =>
        refine fun H' μ' g3 r3 w rw' => ⟨true, rw'.bl_of, ?_⟩
        rw [if_pos rfl]
        exact then1 r3 (e2.grow g3) (PostG.later p2 g3) fun z h4 H4 μ4 w' g4 r4 e4 rz p4 => ⟨μ4, h4, y, z, r4, RD.grow (g3.trans g4) y u ry, rz, p4.ofO⟩
theorem x_chain {op op' : CmpOp} {g g' : Op2} (ho : OpD X k (compareOp op) g) (ho' : OpD X k (compareOp op') g') (ha : PE X a (tX k W fa)) (hb : PE X b (tX k W fb)) (hc : PE X c (tX k W fc)) (hm : lastMarks [op, op'] [b, c] = false) :
    PE X (.Compare a [op, op'] [b, c] pos) (tX k W (dChain g g' fa fb fc)) := PE.weak (pe_chain ho ho' ha hb hc hm) chain_w
theorem t_chain {op op' : CmpOp} {g g' : Op2} (ho : OpD X k (compareOp op) g) (ho' : OpD X k (compareOp op') g') (ha : PE X a (tX k W fa)) (hb : PE X b (tX k W fb)) (hc : PE X c (tX k W fc)) (hm : lastMarks [op, op'] [b, c] = false) :
    PT X (.Compare a [op, op'] [b, c] pos) (tT k W (dFlag (dChain g g' fa fb fc))) :=
  PT.weak (pt_chain ho ho' ha hb hc hm) fun σ H Q ⟨μ, env, h, rh, re, p⟩ => by
    have p' : tX k W (dChain g g' fa fb fc) σ H (fun x H' => ∃ b, x = .bl b ∧ Q b H') := ⟨μ, env, h, rh, re, (PostG.bind p).mono fun d h1 H1 μ1 g1 r1 p1 v rv => by
      cases d <;> first | exact p1.elim | skip
      exact ⟨_, rv.bl_of, p1 _ _ Grow.refl r1⟩⟩
    exact chain_w σ H _ p'
end
end PN
namespace PN
open PySem L2 PyProof.Rows
/-! ## subscripts, slices, attributes -/
def dItem : Op2
  | .ref n, y, h => match seqAt h n with
    | some l => match y with
      | .int i => (atI l i).map fun d => (d, h)
      | _ => none
    | none => (dicAt h n).bind fun kvs => if keyFits kvs y = true then (dlook kvs y).map fun d => (d, h) else none
  | .tup l, .int i, h => (atI l i).map fun d => (d, h)
  | .str z, .int i, h => if z.length ≤ BIG then (atI z.cps.toList i).map fun c => (.str ⟨#[c]⟩, h) else none
  | _, _, _ => none
theorem PostO.mapD {k : Kx} {μ : List Addr} {H : Hp} {Q : VK} {α : Type} {o : Option α} {f : α → D × Hd} (p : PostO k μ H Q (o.map f)) : ∃ a, o = some a ∧ PostO k μ H Q (some (f a)) := by
  cases o with
  | none => exact p.elim
  | some a => exact ⟨a, rfl, p⟩
theorem RDs.atI {H μ} {l : List D} {vs : List V} {i : Int} {d : D} (r : RDs H μ l vs) (e : L2.atI l i = some d) : ∃ v, L2.atI vs i = some v ∧ RD H μ d v := by
  unfold L2.atI at e ⊢
  rw [← r.length]
  cases ei : ixN l.length i with
  | none => rw [ei] at e; cases e
  | some j =>
    rw [ei] at e
    exact r.get e
theorem d_sub_ix {X : Cx} (hu : X.A.units + 65 < cLine) {k : Kx} (hk : k.K = X.K) : IxR X (fun v u H Q => ∃ μ h x y, RH k μ h H ∧ RD H μ x v ∧ RD H μ y u ∧ PostO k μ H Q (dItem x y h)) := by
  intro value slice pins s σ H v u v' u' Q I rv ru ⟨μ, h, x, y, rh, rx, ry, p⟩ hs
  cases x with
  | ref n =>
    unfold dItem at p
    simp only at p
    cases es : seqAt h n with
    | some l =>
      simp only [es] at p
      cases y <;> first | exact p.elim | skip
      rename_i i
      obtain ⟨d, ed, p⟩ := PostO.mapD p
      obtain ⟨a, ea, rfl⟩ := rx.ref_of
      obtain ⟨vs, e1, q⟩ := rh.seq es ea
      obtain ⟨w, ew, rw'⟩ := q.atI ed
      exact ix_list value slice pins s σ H _ _ v' u' Q I rv ru ⟨a, vs, i, w, rfl, ry.int_of, hk ▸ e1, ew, p.now rh rw'⟩ hs
    | none =>
      simp only [es] at p
      obtain ⟨kvs, ek, p⟩ := PostO.of p
      obtain ⟨fit, p⟩ := PostO.guard p
      obtain ⟨d, ed, p⟩ := PostO.mapD p
      obtain ⟨a, ea, rfl⟩ := rx.ref_of
      cases rv
      obtain ⟨H', I', rh', g, c⟩ := dict_at I rh ek ea fit
      have ry' := RD.grow g.toExt y u ry
      rcases dict_get (k := k) ry' c with ⟨h1, _⟩ | ⟨d', w, h1, h2, h3⟩
      · rw [h1] at ed; cases ed
      · rw [h1] at ed; cases ed
        refine tail_any (dict_typeIs I' h2) PySem.F.slot_dict_getitem.lookup (d_getItem (by omega) I' h2 ru fun w' s' J rw' => ⟨w, H', J, rw', p _ _ g rh' w h3⟩) hs
  | tup l =>
    cases y <;> first | exact p.elim | skip
    rename_i i
    obtain ⟨d, ed, p⟩ := PostO.mapD (show PostO k μ H Q ((atI l i).map fun d => (d, h)) from p)
    obtain ⟨a, vs, rfl, ea, q⟩ := rx.tup_of
    obtain ⟨w, ew, rw'⟩ := q.atI ed
    exact ix_tup value slice pins s σ H _ _ v' u' Q I rv ru ⟨a, vs, i, w, rfl, ry.int_of, SqT.of ea, ew, p.now rh rw'⟩ hs
  | str z =>
    cases y <;> first | exact p.elim | skip
    rename_i i
    obtain ⟨hz, p⟩ := PostO.guard (show PostO k μ H Q (if z.length ≤ BIG then (atI z.cps.toList i).map fun c => (.str ⟨#[c]⟩, h) else none) from p)
    obtain ⟨c, ec, p⟩ := PostO.mapD p
    exact ix_str value slice pins s σ H _ _ v' u' Q I rv ru ⟨z, i, c, rx.str_of, ry.int_of, by rw [← big_eq]; exact hz, ec, p.now rh (RD.str _)⟩ hs
  | _ => cases y <;> exact p.elim
section
variable {X : Cx} {k : Kx} {W : WX} {a b c : Expr} {pos : Pos} {fa fb fc : Se}
theorem x_sub (hu : X.A.units + 65 < cLine) (hk : k.K = X.K) (ha : PE X a (tX k W fa)) (hb : PE X b (tX k W fb)) (hs : PlainIx b) : PE X (.Subscript a b pos) (tX k W (dBin dItem fa fb)) :=
  PE.weak (pe_ix (d_sub_ix hu hk) ha hb hs) (bin_w fun _ _ _ _ q => q)
end
/-! ### slices -/
section
variable {prog : Program} {w : World} {A : Around} {E : Value → Shared → Prop} {s : Shared}
/-- the whole tuple is the tuple itself -/
theorem tup_whole {t sl : Addr} {its : Array Value} {vl vu : Value} {lo hi : Option Int} {Q : Value → Shared → Prop} (ht : IsTup s.heap t its) (hs : s.heap.IsSliceOf sl vl vu .none) (pl : IsPart vl lo) (pu : IsPart vu hi)
    (hw : HT.sIx its.size 0 lo = 0 ∧ HT.sIx its.size its.size hi = its.size) (h : Q (.ref t) s) : wpAny (model prog w) A (getItem (.ref t) (.ref sl)) Q E s := by
  obtain ⟨so, e1, e2, e3⟩ := id hs
  have hT : s.TypeIs (.ref sl) "slice" := ⟨so, e1, e2⟩
  unfold getItem
  try with_reducible refine wpAny_holding ?_
  first
    | refine wpAny_bind (wpAny_pure ?_)
    | skip
  refine wpAny_bind (wpAny_sequenceKey ht.typeIs (by decide) (wpAny_bind (wpAny_callSpecial?_slot (name := Str.ofString "__getitem__") ht.typeIs slot_tuple_getitem (wpAny_call_entry slot_tuple_getitem ht.typeIs entry_tuple_getitem ?_ (args_tuple_getitem _ _)))))
  show wpAny _ _ (Builtin.Tuple.tupleItemsOf _ >>= _) _ _ s
  refine wpAny_bind (tupleItemsOf_ ht (wpAny_bind (wpAny_typeOf hT ?_)))
  rw [if_pos (show (Value.type "slice" == Value.type "slice") = true by decide)]
  refine wpAny_bind (HT.sliceApplied_gen hs pl pu ?_)
  have hy : ((((HT.sIx its.size 0 lo : Nat) : Int) == 0 && (1 : Int) == 1 && (HT.sIx its.size its.size hi - HT.sIx its.size 0 lo) == its.size) = true) := by
    rw [hw.1, hw.2]; simp
  show wpAny _ _ (if (((HT.sIx its.size 0 lo : Nat) : Int) == 0 && (1 : Int) == 1 && (HT.sIx its.size its.size hi - HT.sIx its.size 0 lo) == its.size) = true then _ else _) _ _ s
  rw [if_pos hy]
  unfold Builtin.Tuple.tupleIsExact
  refine wpAny_bind (wpAny_bind (wpAny_typeOf ht.typeIs (wpAny_pure ?_)))
  rw [if_pos (by decide)]
  exact wpAny_bind (wpAny_rule (wpAny_bind (wpAny_pure (wpAny_pure ⟨_, rfl, wpAny_pure h⟩))))
end
def dCut {α : Type} (l : List α) (lo hi : Option Int) : List α := (l.drop (HT.sIx l.length 0 lo)).take (HT.sIx l.length l.length hi - HT.sIx l.length 0 lo)
theorem RDs.cut {H μ} {l : List D} {vs : List V} (r : RDs H μ l vs) (lo hi : Option Int) : RDs H μ (dCut l lo hi) (cutV vs lo hi) := by
  unfold dCut cutV
  rw [r.length]
  exact (r.drop _).take _
def sliceD (d : D) (lo hi : Option Int) (h : Hd) : Option (D × Hd) := match d with
  | .ref n => (seqAt h n).map fun l => (.ref h.length, h ++ [.lst (dCut l lo hi)])
  | .tup l => some (.tup (dCut l lo hi), h)
  | .str z => if z.length ≤ BIG then some (.str (cutS z lo hi), h) else none
  | _ => none
theorem d_slice {X : Cx} {k : Kx} (hk : k.K = X.K) : SlR X (fun v lo hi H Q => ∃ μ h x, RH k μ h H ∧ RD H μ x v ∧ PostO k μ H Q (sliceD x lo hi h)) := by
  intro pins s σ H v v' vl vu lo hi sl Q I rv hs pl pu ⟨μ, h, x, rh, rx, p⟩
  cases x <;> first | exact p.elim | skip
  case str z =>
    obtain ⟨hz, p⟩ := PostO.guard (show PostO k μ H Q (if z.length ≤ BIG then some (.str (cutS z lo hi), h) else none) from p)
    exact sl_str pins s σ H _ v' vl vu lo hi sl Q I rv hs pl pu ⟨z, rx.str_of, by rw [← big_eq]; exact hz, p.now rh (RD.str _)⟩
  case tup l =>
    have p : PostO k μ H Q (some (.tup (dCut l lo hi), h)) := p
    obtain ⟨a, vs, rfl, ea, q⟩ := rx.tup_of
    by_cases hw : HT.sIx vs.length 0 lo = 0 ∧ HT.sIx vs.length vs.length hi = vs.length
    · cases rv
      obtain ⟨its, r, ht, hz⟩ := I.tuple (SqT.of ea)
      have hl : its.toArray.size = vs.length := by rw [List.size_toArray]; exact r.length.symm
      refine ⟨"tuple", _, slot_tuple_getitem.lookup, ht.typeIs, tup_whole ht hs pl pu (by rw [hl]; exact hw) ?_⟩
      refine ⟨.ref a, H, I, rfl, ?_⟩
      have e : dCut l lo hi = l := by
        unfold dCut
        rw [q.length, hw.1, hw.2, List.drop_zero, Nat.sub_zero, ← q.length, List.take_length]
      rw [e] at p
      exact p.now rh rx
    · exact sl_tup pins s σ H _ v' vl vu lo hi sl Q I rv hs pl pu ⟨a, vs, rfl, SqT.of ea, hw, p.newTup rh (q.cut lo hi)⟩
  case ref n =>
    obtain ⟨l, el, p⟩ := PostO.mapD (show PostO k μ H Q ((seqAt h n).map fun l => (.ref h.length, h ++ [.lst (dCut l lo hi)])) from p)
    obtain ⟨a, ea, rfl⟩ := rx.ref_of
    obtain ⟨vs, e1, q⟩ := rh.seq el ea
    exact sl_list pins s σ H _ v' vl vu lo hi sl Q I rv hs pl pu ⟨a, vs, rfl, hk ▸ e1, p.newLst rh (q.cut lo hi)⟩
section
variable {X : Cx} {k : Kx} {W : WX} {a b c : Expr} {pos p2 : Pos} {fa fb fc : Se}
def dPart (f : Option Se) : Env → Hd → Rs (Option Int) := fun env h => match f with
  | none => .ok none h
  | some f => (f env h).bind fun d h1 => match d with
    | .int i => .ok (some i) h1
    | _ => .bad
def dSlice (f : Se) (lo hi : Option Se) : Se := fun env h => (f env h).bind fun x h1 => (dPart lo env h1).bind fun l h2 => (dPart hi env h2).bind fun u h3 => ofO (sliceD x l u h3)
/-- a part's reading -/
def tO' (k : Kx) (W : WX) (f : Option Se) : TO := fun σ H Q => ∃ μ env h, RH k μ h H ∧ RE H μ env σ ∧ PostG k W μ H σ (fun o _ H' _ => Q o H') (dPart f env h)
theorem o_none : PO X none (tO' k W none) := ⟨fun pins s σ H Q I ⟨μ, env, h, rh, re, p⟩ => po_none.run pins s σ H Q I (p H μ Grow.refl rh)⟩
theorem o_some (ha : PE X a (tX k W fa)) : PO X (some a) (tO' k W (some fa)) := ⟨fun pins s σ H Q I ⟨μ, env, h, rh, re, p⟩ => (po_some ha).run pins s σ H Q I (then1 rh re p fun d h1 H1 μ1 v g1 r1 e1 rv p1 => by
  cases d <;> first | exact p1.elim | skip
  exact ⟨_, rv.int_of, p1 _ _ Grow.refl r1⟩)⟩
theorem x_slice {lo hi : Option Expr} {flo fhi : Option Se} (hk : k.K = X.K) (ha : PE X a (tX k W fa)) (hl : PO X lo (tO' k W flo)) (hh : PO X hi (tO' k W fhi)) : PE X (.Subscript a (.Slice lo hi none p2) pos) (tX k W (dSlice fa flo fhi)) :=
  PE.weak (pe_slice (d_slice hk) ha hl hh) fun σ H Q ⟨μ, env, h, rh, re, p⟩ => then1 rh re p fun x h1 H1 μ1 v g1 r1 e1 rx p1 => by
    refine ⟨μ1, env, h1, r1, e1, (PostG.bind p1).mono fun l h2 H2 μ2 g2 r2 p2 => ?_⟩
    refine ⟨μ2, env, h2, r2, e1.grow g2, (PostG.bind p2).mono fun u h3 H3 μ3 g3 r3 p3 => ?_⟩
    exact ⟨μ3, h3, x, r3, RD.grow (g2.trans g3) x v rx, p3.ofO⟩
/-- l[::-1], a list -/
def dRev (f : Se) : Se := fun env h => (f env h).bind fun x h1 => match x with
  | .ref n => match seqAt h1 n with
    | some l => .ok (.ref h1.length) (h1 ++ [.lst l.reverse])
    | none => .bad
  | _ => .bad
theorem x_rev {j : Nat} {p1 p3 : Pos} (hk : k.K = X.K) (ha : PE X a (tX k W fa)) : PE X (.Subscript a (.Slice none none (some (.UnaryOp .USub (.Constant (.int 1) j p1) p2)) p3) pos) (tX k W (dRev fa)) :=
  PE.weak (pe_revL ha) fun σ H Q ⟨μ, env, h, rh, re, p⟩ => then1 rh re p fun x h1 H1 μ1 v g1 r1 e1 rx p1 => by
    cases x <;> first | exact p1.elim | skip
    rename_i n
    simp only at p1
    split at p1
    · rename_i l el
      obtain ⟨a', ea, rfl⟩ := rx.ref_of
      obtain ⟨vs, e2, q⟩ := r1.seq el ea
      exact ⟨a', vs, rfl, hk ▸ e2, p1.toO.newLst r1 q.reverse⟩
    · exact p1.elim
end
/-! ### attributes of instances -/
def insAt (h : Hd) (n : Nat) : Option (Str × List (Str × D)) := match h[n]? with
  | some (.ins c fs) => some (c, fs)
  | _ => none
theorem insAt_eq {h : Hd} {n : Nat} {p : Str × List (Str × D)} (e : insAt h n = some p) : h[n]? = some (.ins p.1 p.2) := by
  unfold insAt at e
  split at e
  · rename_i q; cases e; exact q
  · cases e
theorem REn.lookup {H μ} {f : Str} : ∀ {fs : List (Str × D)} {vs : List (Str × V)} {d : D}, REn H μ fs vs → fs.lookup f = some d → ∃ v, vs.lookup f = some v ∧ RD H μ d v
  | [], _, _, _, e => by simp at e
  | (k, d') :: l, vs, d, r, e => by
    obtain ⟨v, r', rfl, h1, h2⟩ := r
    rw [List.lookup_cons] at e ⊢
    cases hb : f == k with
    | true => rw [hb] at e; cases e; exact ⟨v, rfl, h1⟩
    | false => rw [hb] at e; exact REn.lookup h2 e
/-- o.f, a field; which classes' fields may be read so: fld -/
def dFld (f : Str) (g : Se) : Se := fun env h => (g env h).bind fun x h1 => match x with
  | .ref n => match insAt h1 n with
    | some (_, fs) => match fs.lookup f with
      | some d => .ok d h1
      | none => .bad
    | none => .bad
  | _ => .bad
theorem x_fld {X : Cx} {k : Kx} {W : WX} {a : Expr} {f : Str} {pos : Pos} {fa : Se} (ha : PE X a (tX k W fa)) (hc : ∀ c C, k.cl c = some C → Cls X.K C ∧ NoAttr X.K C f) (hb : attributeBase a f X.env (eval a X.env) = eval a X.env) :
    PE X (.Attribute a f pos) (tX k W (dFld f fa)) :=
  PE.weak (pe_fld ha hb) fun σ H Q ⟨μ, env, h, rh, re, p⟩ => then1 rh re p fun x h1 H1 μ1 v g1 r1 e1 rx p1 => by
    cases x <;> first | exact p1.elim | skip
    rename_i n
    simp only at p1
    split at p1
    · rename_i c fs ec
      split at p1
      · rename_i d ed
        obtain ⟨a', ea, rfl⟩ := rx.ref_of
        obtain ⟨C, dx, vs, e0, e2, q⟩ := r1.ob _ _ _ (insAt_eq ec) ea
        obtain ⟨w, ew, rw'⟩ := q.lookup ed
        obtain ⟨c1, c2⟩ := hc c C e0
        exact ⟨a', C, dx, vs, w, rfl, e2, c1, c2, ew, now1 r1 rw' p1⟩
      · exact p1.elim
    · exact p1.elim
end PN
namespace PN
open PySem L2 PyProof.Rows
/-! ## calls of built-ins -/
abbrev OpN := List D → Hd → Option (D × Hd)
def CallD (X : Cx) (k : Kx) (f : Value) (g : OpN) : Prop := CallR X f (fun vs H Q => ∃ μ h ds, RH k μ h H ∧ RDs H μ ds vs ∧ PostO k μ H Q (g ds h))
def dCall (g : OpN) (fs : Sa) : Se := fun env h => gc h ((fs env h).bind fun l h1 => ofO (g l h1))
theorem call_w {k : Kx} {W : WX} {fs : Sa} {g : OpN} {r : List V → Hp → VK → Prop} (hr : ∀ vs H Q, (∃ μ h ds, RH k μ h H ∧ RDs H μ ds vs ∧ PostO k μ H Q (g ds h)) → r vs H Q) : ∀ σ H Q, tX k W (dCall g fs) σ H Q → tCB r (tA k W fs) σ H Q := fun σ H Q ⟨μ, env, h, rh, re, p⟩ => by
  have p' := PostG.gc rh p
  exact thenA rh re p' fun l h1 H1 μ1 vs g1 r1 e1 rl p1 => hr _ _ _ ⟨μ1, h1, l, r1, rl, p1.ofO⟩
section
variable {X : Cx} {k : Kx} {W : WX} {e : Expr} {es : List Expr} {fs : Sa} {x : Str} {p pos : Pos} {id T : String} {g : OpN}
theorem x_callB (hc : CallD X k (.builtin id) g) (hg : Gl X x) (hm : X.mg x = none) (hv : bootBuiltins x = some (.builtin id)) (ha : PA X (e :: es) (tA k W fs)) (hn : x ≠ "__name__") (hdb : (x == ("__debug__" : Str)) = false)
    (he : starEach (e :: es) X.env = (false, eval e X.env) :: starEach es X.env) (hpl : (backTo pos (starEach es X.env)).any (·.1) = false) : PE X (.Call (.Name x p) (e :: es) [] pos) (tX k W (dCall g fs)) :=
  PE.weak (pe_callB hc hg hm hv ha hn hdb he hpl) (call_w fun _ _ _ q => q)
theorem x_callTy (hc : CallD X k (.type T) g) (hg : Gl X x) (hm : X.mg x = none) (hv : bootBuiltins x = some (.type T)) (ha : PA X (e :: es) (tA k W fs)) (hn : x ≠ "__name__") (hdb : (x == ("__debug__" : Str)) = false)
    (he : starEach (e :: es) X.env = (false, eval e X.env) :: starEach es X.env) (hpl : (backTo pos (starEach es X.env)).any (·.1) = false) : PE X (.Call (.Name x p) (e :: es) [] pos) (tX k W (dCall g fs)) :=
  PE.weak (pe_callTy hc hg hm hv ha hn hdb he hpl) (call_w fun _ _ _ q => q)
end
theorem RDs.one {H μ} {d : D} {vs : List V} (r : RDs H μ [d] vs) : ∃ v, vs = [v] ∧ RD H μ d v := by
  simp only [RDs] at r
  obtain ⟨v, r', rfl, h1, rfl⟩ := r
  exact ⟨v, rfl, h1⟩
theorem RDs.two {H μ} {d e : D} {vs : List V} (r : RDs H μ [d, e] vs) : ∃ v u, vs = [v, u] ∧ RD H μ d v ∧ RD H μ e u := by
  simp only [RDs] at r
  obtain ⟨v, r', rfl, h1, u, r'', rfl, h2, rfl⟩ := r
  exact ⟨v, u, rfl, h1, h2⟩
/-- g as a match on one argument: the other lists give none -/
def one (g : D → Hd → Option (D × Hd)) : OpN
  | [d], h => g d h
  | _, _ => none
def two (g : D → D → Hd → Option (D × Hd)) : OpN
  | [d, e], h => g d e h
  | _, _ => none
theorem CallD.one {X : Cx} {k : Kx} {f : Value} {g : D → Hd → Option (D × Hd)} (hr : ∀ (pins : List (Addr × Obj)) (s : Shared) (σ : L2.St) (H : Hp) (μ : List Addr) (h : Hd) (d : D) (v : V) (us : List Value) (Q : VK), L2.Inv X pins σ H s → Vals [v] us → RH k μ h H → RD H μ d v → PostO k μ H Q (g d h) →
    wpAny (model X.prog X.w) X.A (call f us) (EP X pins σ Q) X.xe s) : CallD X k f (one g) := by
  intro pins s σ H xs us Q I r ⟨μ, h, ds, rh, rd, p⟩
  rcases ds with _ | ⟨d, _ | ⟨d2, r2⟩⟩
  · exact p.elim
  · obtain ⟨v, rfl, q⟩ := rd.one
    exact hr pins s σ H μ h d v us Q I r rh q p
  · exact p.elim
theorem CallD.two {X : Cx} {k : Kx} {f : Value} {g : D → D → Hd → Option (D × Hd)} (hr : ∀ (pins : List (Addr × Obj)) (s : Shared) (σ : L2.St) (H : Hp) (μ : List Addr) (h : Hd) (d e : D) (v u : V) (us : List Value) (Q : VK), L2.Inv X pins σ H s → Vals [v, u] us → RH k μ h H → RD H μ d v → RD H μ e u → PostO k μ H Q (g d e h) →
    wpAny (model X.prog X.w) X.A (call f us) (EP X pins σ Q) X.xe s) : CallD X k f (two g) := by
  intro pins s σ H xs us Q I r ⟨μ, h, ds, rh, rd, p⟩
  rcases ds with _ | ⟨d, _ | ⟨d2, _ | ⟨d3, r2⟩⟩⟩
  · exact p.elim
  · exact p.elim
  · obtain ⟨v, u, rfl, q, q2⟩ := rd.two
    exact hr pins s σ H μ h d d2 v u us Q I r rh q q2 p
  · exact p.elim
/-! ### len, int, abs, bool -/
def lenD : D → Hd → Option Nat
  | .str s, _ => if s.length ≤ BIG then some s.length else none
  | .tup l, _ => some l.length
  | .ref n, h => match seqAt h n with
    | some l => some l.length
    | none => (dicAt h n).map List.length
  | _, _ => none
def cLen : OpN := one fun d h => (lenD d h).map fun n : Nat => (.int (n : Int), h)
theorem c_len {X : Cx} {k : Kx} (hk : k.K = X.K) : CallD X k (.builtin "len") cLen := CallD.one fun pins s σ H μ h d v us Q I r rh rd p => by
  obtain ⟨n, en, p⟩ := PostO.mapD p
  cases d <;> first | (simp [lenD] at en; done) | skip
  case str z =>
    simp only [lenD] at en
    split at en
    · rename_i hz
      cases en
      exact call_len pins s σ H _ us Q I r ⟨_, _, rfl, by rw [rd.str_of]; exact ⟨by rw [← big_eq]; exact hz, rfl⟩, p.now rh (RD.int _)⟩
    · cases en
  case tup l =>
    simp only [lenD, Option.some.injEq] at en
    subst en
    obtain ⟨a, vs, rfl, ea, q⟩ := rd.tup_of
    exact call_len pins s σ H _ us Q I r ⟨_, _, rfl, .inr ⟨vs, SqT.of ea, q.length⟩, p.now rh (RD.int _)⟩
  case ref n' =>
    obtain ⟨a, ea, rfl⟩ := rd.ref_of
    simp only [lenD] at en
    cases es : seqAt h n' with
    | some l =>
      rw [es] at en
      simp only [Option.some.injEq] at en
      subst en
      obtain ⟨vs, e1, q⟩ := rh.seq es ea
      exact call_len pins s σ H _ us Q I r ⟨_, _, rfl, .inl ⟨vs, hk ▸ e1, q.length⟩, p.now rh (RD.int _)⟩
    | none =>
      rw [es] at en
      simp only at en
      cases ed : dicAt h n' with
      | none => rw [ed] at en; cases en
      | some kvs =>
        rw [ed] at en
        simp only [Option.map_some, Option.some.injEq] at en
        subst en
        rcases rh.ob _ _ _ (dicAt_eq ed) ea with ⟨vs, ev, q⟩ | ⟨vs, ev, q⟩
        · exact call_lenD pins s σ H _ us Q I r ⟨a, vs, rfl, ev, by rw [← q.length]; exact p.now rh (RD.int _)⟩
        · exact call_len_dT pins s σ H _ us Q I r ⟨a, vs, rfl, ev, by rw [← q.length]; exact p.now rh (RD.int _)⟩
def cInt : OpN := one fun d h => match d with
  | .int i => some (.int i, h)
  | .bl b => some (.int (if b then 1 else 0), h)
  | _ => none
theorem c_int {X : Cx} {k : Kx} : CallD X k (.type "int") cInt := CallD.one fun pins s σ H μ h d v us Q I r rh rd p => by
  cases d <;> first | exact p.elim | skip
  · exact call_int1 pins s σ H _ us Q I r (.inr ⟨_, by rw [rd.bl_of], p.now rh (RD.int _)⟩)
  · exact call_int1 pins s σ H _ us Q I r (.inl ⟨_, by rw [rd.int_of], p.now rh (RD.int _)⟩)
def cAbs : OpN := one fun d h => match d with
  | .int i => some (.int (if i < 0 then -i else i), h)
  | _ => none
theorem c_abs {X : Cx} {k : Kx} : CallD X k (.builtin "abs") cAbs := CallD.one fun pins s σ H μ h d v us Q I r rh rd p => by
  cases d <;> first | exact p.elim | skip
  exact call_abs pins s σ H _ us Q I r ⟨_, by rw [rd.int_of], p.now rh (RD.int _)⟩
/-! ### all, any of a list of flags; sum of one of ints -/
def blsOf : List D → Option (List Bool)
  | [] => some []
  | .bl b :: l => (blsOf l).map (b :: ·)
  | _ => none
def intsOf : List D → Option (List Int)
  | [] => some []
  | .int b :: l => (intsOf l).map (b :: ·)
  | _ => none
theorem blsOf_v {H μ} : ∀ {l : List D} {vs : List V} {bs : List Bool}, blsOf l = some bs → RDs H μ l vs → vs = bs.map V.bl
  | [], vs, bs, e, r => by simp only [blsOf] at e; cases e; simp only [RDs] at r; rw [r]; rfl
  | d :: l, vs, bs, e, r => by
    cases d <;> first | (simp [blsOf] at e; done) | skip
    simp only [blsOf] at e
    cases e1 : blsOf l with
    | none => rw [e1] at e; cases e
    | some b1 =>
      rw [e1] at e; cases e
      simp only [RDs] at r
      obtain ⟨v, r', rfl, h1, h2⟩ := r
      rw [h1.bl_of, blsOf_v e1 h2]; rfl
theorem intsOf_v {H μ} : ∀ {l : List D} {vs : List V} {bs : List Int}, intsOf l = some bs → RDs H μ l vs → vs = bs.map V.int
  | [], vs, bs, e, r => by simp only [intsOf] at e; cases e; simp only [RDs] at r; rw [r]; rfl
  | d :: l, vs, bs, e, r => by
    cases d <;> first | (simp [intsOf] at e; done) | skip
    simp only [intsOf] at e
    cases e1 : intsOf l with
    | none => rw [e1] at e; cases e
    | some b1 =>
      rw [e1] at e; cases e
      simp only [RDs] at r
      obtain ⟨v, r', rfl, h1, h2⟩ := r
      rw [h1.int_of, intsOf_v e1 h2]; rfl
/-- the items of a list that may be read -/
def seqD : D → Hd → Option (List D)
  | .ref n, h => seqAt h n
  | _, _ => none
theorem seqD_v {k : Kx} {H μ h} {d : D} {v : V} {l : List D} (rh : RH k μ h H) (e : seqD d h = some l) (r : RD H μ d v) : ∃ a vs, v = .ref a ∧ SqL k.K H a vs ∧ RDs H μ l vs := by
  cases d <;> first | (simp [seqD] at e; done) | skip
  obtain ⟨a, ea, rfl⟩ := r.ref_of
  obtain ⟨vs, e1, q⟩ := rh.seq e ea
  exact ⟨a, vs, rfl, e1, q⟩
def cAll : OpN := one fun d h => (seqD d h).bind fun l => (blsOf l).bind fun bs => some (.bl (bs.all id), h)
def cAny : OpN := one fun d h => (seqD d h).bind fun l => (blsOf l).bind fun bs => some (.bl (bs.any id), h)
def cSum : OpN := one fun d h => (seqD d h).bind fun l => (intsOf l).bind fun bs => some (.int bs.sum, h)
theorem c_all {X : Cx} (hc : X.calm = true) {k : Kx} (hk : k.K = X.K) : CallD X k (.builtin "all") cAll := CallD.one fun pins s σ H μ h d v us Q I r rh rd p => by
  obtain ⟨l, el, p⟩ := PostO.of p
  obtain ⟨bs, eb, p⟩ := PostO.of p
  obtain ⟨a, vs, rfl, e1, q⟩ := seqD_v rh el rd
  exact cr_all hc pins s σ H _ us Q I r ⟨a, bs, rfl, by rw [← blsOf_v eb q]; exact hk ▸ e1, p.now rh (RD.bl _)⟩
theorem c_any {X : Cx} (hc : X.calm = true) {k : Kx} (hk : k.K = X.K) : CallD X k (.builtin "any") cAny := CallD.one fun pins s σ H μ h d v us Q I r rh rd p => by
  obtain ⟨l, el, p⟩ := PostO.of p
  obtain ⟨bs, eb, p⟩ := PostO.of p
  obtain ⟨a, vs, rfl, e1, q⟩ := seqD_v rh el rd
  exact cr_any hc pins s σ H _ us Q I r ⟨a, bs, rfl, by rw [← blsOf_v eb q]; exact hk ▸ e1, p.now rh (RD.bl _)⟩
theorem c_sum {X : Cx} (hc : X.calm = true) {k : Kx} (hk : k.K = X.K) : CallD X k (.builtin "sum") cSum := CallD.one fun pins s σ H μ h d v us Q I r rh rd p => by
  obtain ⟨l, el, p⟩ := PostO.of p
  obtain ⟨bs, eb, p⟩ := PostO.of p
  obtain ⟨a, vs, rfl, e1, q⟩ := seqD_v rh el rd
  exact cr_sum hc pins s σ H _ us Q I r ⟨a, bs, rfl, by rw [← intsOf_v eb q]; exact hk ▸ e1, p.now rh (RD.int _)⟩
/-! ### list(..), tuple(..) of a list or a tuple -/
def cList : OpN := one fun d h => match d with
  | .tup l => some (.ref h.length, h ++ [.lst l])
  | _ => (seqD d h).bind fun l => some (.ref h.length, h ++ [.lst l])
def cTuple : OpN := one fun d h => match d with
  | .tup l => some (.tup l, h)
  | _ => (seqD d h).bind fun l => some (.tup l, h)
theorem c_list {X : Cx} {k : Kx} (hk : k.K = X.K) : CallD X k (.type "list") cList := CallD.one fun pins s σ H μ h d v us Q I r rh rd p => by
  cases d <;> first | exact p.elim | skip
  case tup l =>
    obtain ⟨a, vs, rfl, ea, q⟩ := rd.tup_of
    exact call_list_of pins s σ H _ us Q I r ⟨a, vs, rfl, .inr (SqT.of ea), PostO.newLst rh q p⟩
  case ref n =>
    obtain ⟨l, el, p⟩ := PostO.of p
    obtain ⟨a, vs, rfl, e1, q⟩ := seqD_v rh el rd
    exact call_list_of pins s σ H _ us Q I r ⟨a, vs, rfl, .inl (hk ▸ e1), p.newLst rh q⟩
theorem c_tuple {X : Cx} {k : Kx} (hk : k.K = X.K) : CallD X k (.type "tuple") cTuple := CallD.one fun pins s σ H μ h d v us Q I r rh rd p => by
  cases d <;> first | exact p.elim | skip
  case tup l =>
    obtain ⟨a, vs, rfl, ea, q⟩ := rd.tup_of
    exact call_tuple_of pins s σ H _ us Q I r ⟨a, vs, rfl, .inr ⟨SqT.of ea, PostO.now rh rd p⟩⟩
  case ref n =>
    obtain ⟨l, el, p⟩ := PostO.of p
    obtain ⟨a, vs, rfl, e1, q⟩ := seqD_v rh el rd
    exact call_tuple_of pins s σ H _ us Q I r ⟨a, vs, rfl, .inl ⟨hk ▸ e1, p.newTup rh q⟩⟩
/-! ### sorted -/
def alikeB (l : List D) : Bool := l.all fun a => l.all fun b => PySem.W.alike a.py b.py
def tupNe : D → Bool
  | .tup l => !l.isEmpty
  | _ => false
def plainS : D → Bool
  | .bl _ => true
  | .int _ => true
  | .str _ => true
  | _ => false
/-- sortable: flat, alike, all tuples with an item at least or all plain -/
def sortableB (l : List D) : Bool := D.undL 0 l && alikeB l && (l.all tupNe || l.all plainS) && decide (D.depthL l ≤ 50)
def leD (a b : D) : Bool := PySem.W.dataLe false D.py a b
def cSorted : OpN := one fun d h => (seqD d h).bind fun l => if sortableB l = true ∧ l.length ≤ BIG then some (.ref h.length, h ++ [.lst (l.mergeSort leD)]) else none
theorem RDs.each {H μ} : ∀ {l : List D} {vs : List V} {us : List Value}, RDs H μ l vs → Vals vs us → PySem.W.EachIs (fun u d => ∃ v, RelV v u ∧ RD H μ d v) us l
  | [], _, _, r, q => by simp only [RDs] at r; subst r; cases q; exact .nil
  | d :: l, _, _, r, q => by
    simp only [RDs] at r
    obtain ⟨v, r', rfl, h1, h2⟩ := r
    cases q with
    | cons q1 q2 => exact .cons ⟨v, q1, h1⟩ (RDs.each h2 q2)
theorem RDs.ofEach {H μ} : ∀ {us : List Value} {l : List D}, PySem.W.EachIs (fun u d => ∃ v, RelV v u ∧ RD H μ d v) us l → ∃ vs, Vals vs us ∧ RDs H μ l vs
  | _, _, .nil => ⟨[], .nil, RDs.nil⟩
  | _, _, .cons ⟨v, h1, h2⟩ t => by
    obtain ⟨vs, a, b⟩ := RDs.ofEach t
    exact ⟨v :: vs, .cons h1 a, RDs.cons h2 b⟩
theorem each_imp {α β : Type} {R S : α → β → Prop} : ∀ {as : List α} {bs : List β}, PySem.W.EachIs R as bs → (∀ a b, b ∈ bs → R a b → S a b) → PySem.W.EachIs S as bs
  | _, _, .nil, _ => .nil
  | _, _, .cons h t, f => .cons (f _ _ List.mem_cons_self h) (each_imp t fun a b hb => f a b (List.mem_cons_of_mem _ hb))
mutual
theorem depth_py : ∀ d : D, d.py.depth = d.depth
  | .non => by simp [D.py, D.depth, PyData.depth]
  | .bl _ => by simp [D.py, D.depth, PyData.depth]
  | .int _ => by simp [D.py, D.depth, PyData.depth]
  | .str _ => by simp [D.py, D.depth, PyData.depth]
  | .ref _ => by simp [D.py, D.depth, PyData.depth]
  | .tup l => by simp only [D.py, D.depth, PyData.depth]; rw [depth_pyL l]; try omega
theorem depth_pyL : ∀ l : List D, PyData.depthAll (D.pyL l) = D.depthL l
  | [] => by simp [D.pyL, D.depthL, PyData.depthAll]
  | d :: l => by simp only [D.pyL, D.depthL, PyData.depthAll]; rw [depth_py d, depth_pyL l]
end
theorem flat_of_mem {b : Nat} : ∀ {l : List D}, D.undL b l = true → ∀ d ∈ l, d.und b = true
  | d :: l, h, x, hx => by
    simp only [D.undL, Bool.and_eq_true] at h
    rcases List.mem_cons.mp hx with rfl | hx
    · exact h.1
    · exact flat_of_mem h.2 x hx
theorem depth_of_mem : ∀ {l : List D}, ∀ d ∈ l, d.depth ≤ D.depthL l
  | d :: l, x, hx => by
    simp only [D.depthL]
    rcases List.mem_cons.mp hx with rfl | hx
    · omega
    · have := depth_of_mem x hx; omega
theorem c_sorted {X : Cx} (hu : X.A.units + 64 < cLine) {k : Kx} (hk : k.K = X.K) : CallD X k (.builtin "sorted") cSorted := CallD.one fun pins s σ H μ h d v us Q I r rh rd p => by
  obtain ⟨l, el, p⟩ := PostO.of p
  obtain ⟨⟨hs, hz⟩, p⟩ := PostO.guard p
  obtain ⟨a, vs, rfl, e1, q⟩ := seqD_v rh el rd
  obtain ⟨u, rfl, ru⟩ := vals1 r
  cases ru
  rw [hk] at e1
  obtain ⟨its, rv, pl, hz2⟩ := I.list e1
  simp only [sortableB, Bool.and_eq_true, Bool.or_eq_true, decide_eq_true_eq] at hs
  obtain ⟨⟨⟨hf, hal⟩, hsh⟩, hd⟩ := hs
  have hfm := flat_of_mem hf
  have er : PySem.W.EachIs (fun u d => ∃ as, Reads s.heap u (D.py d) as) its l := each_imp (q.each rv) fun u d hd ⟨v, h1, h2⟩ => Dp.reads I d.py v u (h2.dp d v (hfm d hd)) h1
  have halk : PySem.W.AllAlike (l.map D.py) := by
    intro x hx y hy
    obtain ⟨x', hx', rfl⟩ := List.mem_map.mp hx
    obtain ⟨y', hy', rfl⟩ := List.mem_map.mp hy
    exact List.all_eq_true.mp (List.all_eq_true.mp hal x' hx') y' hy'
  have hsort : PySem.W.Sortable (l.map D.py) := by
    rcases hsh with hsh | hsh
    · refine .inl fun x hx => ?_
      obtain ⟨x', hx', rfl⟩ := List.mem_map.mp hx
      have := List.all_eq_true.mp hsh x' hx'
      cases x' <;> first | (simp [tupNe] at this; done) | skip
      rename_i m
      cases m with
      | nil => simp [tupNe] at this
      | cons y r => exact ⟨y.py, D.pyL r, by simp [D.py, D.pyL]⟩
    · refine .inr fun x hx => ?_
      obtain ⟨x', hx', rfl⟩ := List.mem_map.mp hx
      have := List.all_eq_true.mp hsh x' hx'
      cases x' <;> first | (simp [plainS] at this; done) | (simp [D.py])
  refine PySem.W.sorted_data (R := fun u d => ∃ v, RelV v u ∧ RD H μ d v) pl.isList (q.each rv) er halk hsort (by rw [← big_eq]; exact hz) (fun b hb => ?_) fun out hout ho => ?_
  · rw [depth_py]
    have := depth_of_mem b hb
    omega
  · obtain ⟨vs', rv', q'⟩ := RDs.ofEach ho
    obtain ⟨e, he⟩ := PyProof.Rows.sortedAll_at s.heap its out.toArray
    have hn : H (s.heap.objs.size + 1) = none := I.hok.fresh (Nat.le_succ _)
    have I' := I.laid (t' := s.toks) (a := s.heap.objs.size + 1) (o := .lst vs') (h' := PyProof.Rows.sortedAll s.heap its out.toArray) (fun b o q => PyProof.Rows.sortedAll_old q) (Nat.le_succ _) ⟨?_, out, e, rv', he⟩
    · exact ⟨.ref _, _, I', rfl, PostO.newLst rh q' p _ hn⟩
    · rw [rv'.length, hout, ← big_eq]; exact hz
end PN
namespace PN
open PySem L2 PyProof.Rows
/-! ## statements -/
inductive Ro where
  | nx (e : Env) (h : Hd)
  | rt (d : D) (h : Hd)
  | bk (e : Env) (h : Hd)
  | ct (e : Env) (h : Hd)
  | xc (x : Ex) (e : Env) (h : Hd)
  | bad
abbrev Ss := Env → Hd → Ro
abbrev Sg := D → Env → Hd → Ro
abbrev Sgs := List D → Env → Hd → Ro
/-- an expression's end within a statement -/
def Rs.to {α : Type} (r : Rs α) (e : Env) (f : α → Hd → Ro) : Ro := match r with
  | .ok a h => f a h
  | .err x h => .xc x e h
  | .bad => .bad
@[simp] theorem Rs.to_ok {α : Type} (a : α) (h : Hd) (e : Env) (f : α → Hd → Ro) : (Rs.ok a h).to e f = f a h := rfl
@[simp] theorem Rs.to_bad {α : Type} (e : Env) (f : α → Hd → Ro) : (Rs.bad : Rs α).to e f = .bad := rfl
@[simp] theorem Rs.to_err {α : Type} (x : Ex) (h : Hd) (e : Env) (f : α → Hd → Ro) : (Rs.err x h : Rs α).to e f = .xc x e h := rfl
/-- what comes behind a statement -/
def Ro.sq (r : Ro) (f : Ss) : Ro := match r with
  | .nx e h => f e h
  | .rt d h => .rt d h
  | .bk e h => .bk e h
  | .ct e h => .ct e h
  | .xc x e h => .xc x e h
  | .bad => .bad
/-- what comes behind a store -/
def Ro.sg (r : Ro) (f : Ss) : Ro := match r with
  | .nx e h => f e h
  | .xc x e h => .xc x e h
  | _ => .bad
/-- a turn of a loop -/
def Ro.lp (r : Ro) (f : Ss) : Ro := match r with
  | .nx e h => f e h
  | .ct e h => f e h
  | .bk e h => .nx e h
  | .rt d h => .rt d h
  | .xc x e h => .xc x e h
  | .bad => .bad
@[simp] theorem Ro.sq_nx (e h f) : (Ro.nx e h).sq f = f e h := rfl
@[simp] theorem Ro.sq_rt (d h f) : (Ro.rt d h).sq f = .rt d h := rfl
@[simp] theorem Ro.sq_bk (d h f) : (Ro.bk d h).sq f = .bk d h := rfl
@[simp] theorem Ro.sq_ct (d h f) : (Ro.ct d h).sq f = .ct d h := rfl
@[simp] theorem Ro.sq_xc (x d h f) : (Ro.xc x d h).sq f = .xc x d h := rfl
@[simp] theorem Ro.sq_bad (f) : (Ro.bad).sq f = .bad := rfl
@[simp] theorem Ro.sg_nx (e h f) : (Ro.nx e h).sg f = f e h := rfl
@[simp] theorem Ro.lp_nx (e h f) : (Ro.nx e h).lp f = f e h := rfl
@[simp] theorem Ro.lp_ct (e h f) : (Ro.ct e h).lp f = f e h := rfl
@[simp] theorem Ro.lp_bk (e h f) : (Ro.bk e h).lp f = .nx e h := rfl
@[simp] theorem Ro.lp_rt (d h f) : (Ro.rt d h).lp f = .rt d h := rfl
@[simp] theorem Ro.lp_xc (x d h f) : (Ro.xc x d h).lp f = .xc x d h := rfl
def PostS (k : Kx) (W : WX) (B : Ends) (μ : List Addr) (H : Hp) : Ro → Prop
  | .nx e h => ∀ H' μ' σ', Grow H μ H' μ' → RH k μ' h H' → RE H' μ' e σ' → B.nx σ' H'
  | .rt d h => ∀ H' μ' v, Grow H μ H' μ' → RH k μ' h H' → RD H' μ' d v → B.rt v H'
  | .bk e h => ∀ H' μ' σ', Grow H μ H' μ' → RH k μ' h H' → RE H' μ' e σ' → B.bk σ' H'
  | .ct e h => ∀ H' μ' σ', Grow H μ H' μ' → RH k μ' h H' → RE H' μ' e σ' → B.ct σ' H'
  | .xc x e h => ∀ H' μ' σ' c dx, Grow H μ H' μ' → RH k μ' h H' → RE H' μ' e σ' → RX k H' μ' x c dx → W c dx σ' H'
  | .bad => False
section
variable {k : Kx} {W : WX} {B : Ends} {μ μ1 : List Addr} {H H1 : Hp} {σ : L2.St} {α β : Type}
theorem PostS.later {r : Ro} (p : PostS k W B μ H r) (g : Grow H μ H1 μ1) : PostS k W B μ1 H1 r := by
  cases r with
  | nx a h' => exact fun H' μ' σ' g' r' => p H' μ' σ' (g.trans g') r'
  | rt a h' => exact fun H' μ' σ' g' r' => p H' μ' σ' (g.trans g') r'
  | bk a h' => exact fun H' μ' σ' g' r' => p H' μ' σ' (g.trans g') r'
  | ct a h' => exact fun H' μ' σ' g' r' => p H' μ' σ' (g.trans g') r'
  | xc x a h' => exact fun H' μ' σ' c dx g' r' => p H' μ' σ' c dx (g.trans g') r'
  | bad => exact p
/-- the parts of a statement's reading -/
theorem PostS.to {env : Env} {r : Rs α} {f : α → Hd → Ro} (re : RE H μ env σ) (p : PostS k W B μ H (r.to env f)) : PostG k W μ H σ (fun a h1 H1 μ1 => PostS k W B μ1 H1 (f a h1)) r := by
  cases r with
  | ok a h' => exact fun H' μ' g' r' => PostS.later p g'
  | err x h' => exact fun H' μ' c dx g' r' x' => p H' μ' σ c dx g' r' (re.grow g'.toExt) x'
  | bad => exact p
theorem s1 {f : Se} {g : D → Hd → Ro} {env : Env} {h : Hd} {Q : VK} (rh : RH k μ h H) (re : RE H μ env σ) (p : PostS k W B μ H ((f env h).to env g))
    (q : ∀ d h1 H1 μ1 v, Grow H μ H1 μ1 → RH k μ1 h1 H1 → RE H1 μ1 env σ → RD H1 μ1 d v → PostS k W B μ1 H1 (g d h1) → Q v H1) : tX k W f σ H Q :=
  ⟨μ, env, h, rh, re, (p.to re).mono fun d h1 H1 μ1 g1 r1 p1 v rv => q d h1 H1 μ1 v g1 r1 (re.grow g1.toExt) rv p1⟩
theorem sT {f : St'} {g : Bool → Hd → Ro} {env : Env} {h : Hd} {Q : Bool → Hp → Prop} (rh : RH k μ h H) (re : RE H μ env σ) (p : PostS k W B μ H ((f env h).to env g))
    (q : ∀ d h1 H1 μ1, Grow H μ H1 μ1 → RH k μ1 h1 H1 → RE H1 μ1 env σ → PostS k W B μ1 H1 (g d h1) → Q d H1) : tT k W f σ H Q :=
  ⟨μ, env, h, rh, re, (p.to re).mono fun d h1 H1 μ1 g1 r1 p1 => q d h1 H1 μ1 g1 r1 (re.grow g1.toExt) p1⟩
theorem sA {f : Sa} {g : List D → Hd → Ro} {env : Env} {h : Hd} {Q : List V → Hp → Prop} (rh : RH k μ h H) (re : RE H μ env σ) (p : PostS k W B μ H ((f env h).to env g))
    (q : ∀ d h1 H1 μ1 v, Grow H μ H1 μ1 → RH k μ1 h1 H1 → RE H1 μ1 env σ → RDs H1 μ1 d v → PostS k W B μ1 H1 (g d h1) → Q v H1) : tA k W f σ H Q :=
  ⟨μ, env, h, rh, re, (p.to re).mono fun d h1 H1 μ1 g1 r1 p1 v rv => q d h1 H1 μ1 v g1 r1 (re.grow g1.toExt) rv p1⟩
end
def tS (k : Kx) (W : WX) (f : Ss) : TS := fun B σ H => ∃ μ env h, RH k μ h H ∧ RE H μ env σ ∧ PostS k W B μ H (f env h)
/-- only what goes on -/
abbrev onlyNx (Q : L2.St → Hp → Prop) : Ends := { nx := Q, rt := fun _ _ => False }
def tG (k : Kx) (W : WX) (f : Sg) : TG := fun v σ H Q => ∃ μ env h d, RH k μ h H ∧ RE H μ env σ ∧ RD H μ d v ∧ PostS k W (onlyNx Q) μ H (f d env h)
def tGs (k : Kx) (W : WX) (f : Sgs) : TGs := fun v σ H Q => ∃ μ env h d, RH k μ h H ∧ RE H μ env σ ∧ RDs H μ d v ∧ PostS k W (onlyNx Q) μ H (f d env h)
theorem PG.weak {X : Cx} {e : Expr} {t t' : TG} (h : PG X e t) (w : ∀ v σ H Q, t' v σ H Q → t v σ H Q) : PG X e t' := ⟨fun pins s σ H v u Q I r q => h.run pins s σ H v u Q I r (w v σ H Q q)⟩
theorem PGs.weak {X : Cx} {e : List Expr} {t t' : TGs} (h : PGs X e t) (w : ∀ v σ H Q, t' v σ H Q → t v σ H Q) : PGs X e t' := ⟨fun pins s σ H v u Q I r q => h.run pins s σ H v u Q I r (w v σ H Q q)⟩
theorem RE.set {H μ env σ d v} (r : RE H μ env σ) (i : Nat) (q : RD H μ d v) : RE H μ (env.set i (some d)) (σ.set i (some v)) := by
  refine ⟨by simp [r.len], fun j d' e => ?_⟩
  by_cases z : j = i
  · subst z
    have hl := (List.getElem?_eq_some_iff.mp e).1
    rw [List.length_set] at hl
    rw [List.getElem?_set_self hl] at e
    cases e
    exact ⟨v, by rw [List.getElem?_set_self (by rw [← r.len]; exact hl)], q⟩
  · rw [List.getElem?_set_ne (Ne.symm z)] at e
    obtain ⟨v', e1, q1⟩ := r.at_ j d' e
    exact ⟨v', by rw [List.getElem?_set_ne (Ne.symm z)]; exact e1, q1⟩
section
variable {X : Cx} {k : Kx} {W : WX} {a b c : Expr} {pos : Pos} {fa fb fc : Se} {es : List Expr} {fs : Sa}
/-! ### blocks -/
def dSkip : Ss := fun e h => .nx e h
def dSeq (f g : Ss) : Ss := fun e h => (f e h).sq g
variable {st : Stmt} {rest : List Stmt} {f g : Ss}
theorem ss_nil : PSs X [] (tS k W dSkip) := PSs.weak pss_nil fun σ H B ⟨μ, env, h, rh, re, p⟩ => p H μ σ Grow.refl rh re
theorem PostS.sq {B : Ends} {μ : List Addr} {H : Hp} {r : Ro} {g : Ss} (p : PostS k W B μ H (r.sq g)) : PostS k W { B with nx := tS k W g B } μ H r := by
  cases r with
  | nx e h => exact fun H' μ' σ' g' r' e' => ⟨μ', e, h, r', e', PostS.later p g'⟩
  | rt e h => exact p
  | bk e h => exact p
  | ct e h => exact p
  | xc x e h => exact p
  | bad => exact p
theorem ss_cons (h1 : PS X st (tS k W f)) (h2 : PSs X rest (tS k W g)) : PSs X (st :: rest) (tS k W (dSeq f g)) :=
  PSs.weak (pss_cons h1 h2) fun σ H B ⟨μ, env, h, rh, re, p⟩ => ⟨μ, env, h, rh, re, PostS.sq p⟩
theorem s_pass : PS X (.Pass pos) (tS k W dSkip) := PS.weak ps_pass fun σ H B ⟨μ, env, h, rh, re, p⟩ => p H μ σ Grow.refl rh re
def dBreak : Ss := fun e h => .bk e h
def dCont : Ss := fun e h => .ct e h
theorem s_break : PS X (.Break pos) (tS k W dBreak) := PS.weak ps_break fun σ H B ⟨μ, env, h, rh, re, p⟩ => p H μ σ Grow.refl rh re
theorem s_cont : PS X (.Continue pos) (tS k W dCont) := PS.weak ps_continue fun σ H B ⟨μ, env, h, rh, re, p⟩ => p H μ σ Grow.refl rh re
theorem s_doc {x j pos pos'} : PS X (.Expr (.Constant (.str x) j pos) pos') (tS k W dSkip) := PS.weak ps_doc fun σ H B ⟨μ, env, h, rh, re, p⟩ => p H μ σ Grow.refl rh re
/-- never come to -/
def dNever : Ss := fun _ _ => .bad
theorem s_never : PS X st (tS k W dNever) := PS.weak ps_never fun σ H B ⟨μ, env, h, rh, re, p⟩ => p
def dDrop (f : Se) : Ss := fun e h => (f e h).to e fun _ h1 => .nx e h1
theorem s_expr (ha : PE X a (tX k W fa)) (hs : swapsWith a none pos.line X.env = pure false) : PS X (.Expr a pos) (tS k W (dDrop fa)) :=
  PS.weak (ps_expr ha hs) fun σ H B ⟨μ, env, h, rh, re, p⟩ => s1 rh re p fun d h1 H1 μ1 v g1 r1 e1 rv p1 => p1 _ _ _ Grow.refl r1 e1
def dRet (f : Se) : Ss := fun e h => (f e h).to e fun d h1 => .rt d h1
theorem s_ret (ha : PE X a (tX k W fa)) : PS X (.Return (some a) pos) (tS k W (dRet fa)) :=
  PS.weak (ps_ret ha) fun σ H B ⟨μ, env, h, rh, re, p⟩ => s1 rh re p fun d h1 H1 μ1 v g1 r1 e1 rv p1 => p1 _ _ _ Grow.refl r1 rv
def dRetN : Ss := fun e h => .rt .non h
theorem s_retN : PS X (.Return none pos) (tS k W dRetN) := PS.weak ps_retN fun σ H B ⟨μ, env, h, rh, re, p⟩ => p _ _ _ Grow.refl rh RD.non
def dIfS (t : St') (f g : Ss) : Ss := fun e h => (t e h).to e fun b h1 => if b = true then f e h1 else g e h1
variable {tc : St'} {sa sb : List Stmt}
theorem s_if (hc : PT X c (tT k W tc)) (ha : PSs X sa (tS k W f)) (hb : PSs X sb (tS k W g)) : PS X (.If c sa sb pos) (tS k W (dIfS tc f g)) :=
  PS.weak (ps_if hc ha hb) fun σ H B ⟨μ, env, h, rh, re, p⟩ => sT rh re p fun d h1 H1 μ1 g1 r1 e1 p1 => by
    cases d with
    | true => exact ⟨μ1, env, h1, r1, e1, p1⟩
    | false => exact ⟨μ1, env, h1, r1, e1, p1⟩
/-! ### targets -/
def dGn (i : Nat) : Sg := fun d e h => .nx (e.set i (some d)) h
theorem g_name {i : Nat} {x : Str} (hN : X.N.Nodup) (hi : X.N[i]? = some x) (hx : Loc X.env.scope x) (hf : X.fn x = true ∨ X.env.scope.names.lookup x = some .local) : PG X (.Name x pos) (tG k W (dGn i)) :=
  PG.weak (pg_name hN hi hx hf) fun v σ H Q ⟨μ, env, h, d, rh, re, rv, p⟩ => p H μ _ Grow.refl rh (re.set i rv)
def dGnil : Sgs := fun l e h => match l with
  | [] => .nx e h
  | _ :: _ => .bad
def dGcons (f : Sg) (g : Sgs) : Sgs := fun l e h => match l with
  | [] => .bad
  | d :: r => (f d e h).sg (g r)
theorem gs_nil : PGs X [] (tGs k W dGnil) := PGs.weak pgs_nil fun v σ H Q ⟨μ, env, h, d, rh, re, rv, p⟩ => by
  cases d with
  | nil => simp only [RDs] at rv; exact ⟨rv, p H μ σ Grow.refl rh re⟩
  | cons a l => exact p.elim
theorem PostS.sg {Q : L2.St → Hp → Prop} {B : Ends} {μ : List Addr} {H : Hp} {r : Ro} {g : Ss} (p : PostS k W B μ H (r.sg g)) (q : ∀ e h H' μ' σ', Grow H μ H' μ' → RH k μ' h H' → RE H' μ' e σ' → PostS k W B μ' H' (g e h) → Q σ' H') : PostS k W (onlyNx Q) μ H r := by
  cases r with
  | nx e h => exact fun H' μ' σ' g' r' e' => q e h H' μ' σ' g' r' e' (PostS.later p g')
  | xc x e h => exact p
  | _ => exact p.elim
variable {gf : Sg} {gfs : Sgs}
theorem gs_cons (h1 : PG X a (tG k W gf)) (h2 : PGs X es (tGs k W gfs)) (hs : (assignEach (a :: es) X.env).map (·.2) = assign a X.env :: (assignEach es X.env).map (·.2)) : PGs X (a :: es) (tGs k W (dGcons gf gfs)) :=
  PGs.weak (pgs_cons h1 h2 hs) fun v σ H Q ⟨μ, env, h, d, rh, re, rv, p⟩ => by
    cases d with
    | nil => exact p.elim
    | cons d l =>
      simp only [RDs] at rv
      obtain ⟨v, r, rfl, q1, q2⟩ := rv
      exact ⟨v, r, rfl, μ, env, h, d, rh, re, q1, PostS.sg p fun e h' H' μ' σ' g' r' e' p' => ⟨μ', e, h', l, r', e', RDs.grow g'.toExt l r q2, p'⟩⟩
def dGtup (n : Nat) (g : Sgs) : Sg := fun d e h => match d with
  | .tup l => if l.length = n then g l e h else .bad
  | _ => .bad
theorem PostS.guard {c : Prop} [Decidable c] {B : Ends} {μ : List Addr} {H : Hp} {r : Ro} (p : PostS k W B μ H (if c then r else .bad)) : c ∧ PostS k W B μ H r := by
  by_cases hc : c
  · rw [if_pos hc] at p; exact ⟨hc, p⟩
  · rw [if_neg hc] at p; exact p.elim
theorem g_tup {n kk : Nat} (hc : X.calm = true) (h : PGs X es (tGs k W gfs)) (hn : (assignEach es X.env).length = n) (hst : (assignEach es X.env).findIdx? (·.1) = none) : PG X (.Tuple es kk pos) (tG k W (dGtup n gfs)) :=
  PG.weak (pg_tup hc h hn hst) fun v σ H Q ⟨μ, env, h, d, rh, re, rv, p⟩ => by
    cases d <;> first | exact p.elim | skip
    rename_i l
    obtain ⟨hl, p⟩ := PostS.guard p
    obtain ⟨a, vs, rfl, ea, q⟩ := rv.tup_of
    exact ⟨a, vs, rfl, SqT.of ea, by rw [← q.length]; exact hl, μ, env, h, l, rh, re, q, p⟩
/-! ### stores at a subscript -/
def setD (x y d : D) (h : Hd) : Option Hd := match x with
  | .ref n => match h[n]? with
    | some (.lst l) => match y with
      | .int i => (ixN l.length i).map fun j => h.set n (.lst (l.set j d))
      | _ => none
    | some (.dic kvs) => if keyFits kvs y = true ∧ kvs.length < BIG then some (h.set n (.dic (dput kvs y d))) else none
    | _ => none
  | _ => none
def tSetD (k : Kx) : TSet := fun o i v H Q => ∃ μ h x y d h', RH k μ h H ∧ RD H μ x o ∧ RD H μ y i ∧ RD H μ d v ∧ setD x y d h = some h' ∧ ∀ H' μ', Grow H μ H' μ' → RH k μ' h' H' → Q H'
theorem set_ok (hu : X.A.units + 1 < cLine) : PSet X (tSetD k) := by
  intro pins s σ H o i v ov iv u Q I ro ri rv ⟨μ, h, x, y, d, h', rh, rx, ry, rd', e, q⟩
  cases x <;> first | (simp [setD] at e; done) | skip
  rename_i n
  obtain ⟨a, ea, rfl⟩ := rx.ref_of
  unfold setD at e
  simp only at e
  split at e
  · rename_i l el
    split at e
    · rename_i j
      cases ej : ixN l.length j with
      | none => rw [ej] at e; cases e
      | some m =>
        rw [ej] at e
        simp only [Option.map_some, Option.some.injEq] at e
        subst e
        obtain ⟨vs, e1, r⟩ := rh.ob _ _ _ el ea
        have w := rh.write (ho := .lst (vs.set m v)) (o' := .lst (l.set m d)) el ea rfl rfl fun g => ⟨_, upd_same, RDs.grow g.toExt _ _ (RDs.set rd' m r)⟩
        exact set_list pins s σ H _ _ _ ov iv u Q I ro ri rv ⟨a, vs, j, m, rfl, ry.int_of, e1, by rw [← r.length]; exact ej, q _ _ w.2 w.1⟩
    · cases e
  · rename_i kvs el
    split at e
    · rename_i fit
      cases e
      have ed : dicAt h n = some kvs := by unfold dicAt; rw [el]
      obtain ⟨H1, I1, rh1, g1, c⟩ := dict_at I rh ed ea fit.1
      obtain ⟨H2, dp, rh2, g2⟩ := dict_put rh1 ed ea (RD.grow g1.toExt _ _ ry) (RD.grow g1.toExt _ _ rd') fit.2 c
      exact set_dict hu pins s σ H1 _ _ _ ov iv u Q I1 ro ri rv ⟨a, H2, rfl, dp, q _ _ (g1.trans g2) rh2⟩
    · cases e
  · cases e
def dGsub (fo fi : Se) : Sg := fun d e h => (fo e h).to e fun o h1 => (fi e h1).to e fun i h2 => match setD o i d h2 with
  | some h3 => .nx e h3
  | none => .bad
theorem g_sub (hu : X.A.units + 1 < cLine) (ha : PE X a (tX k W fa)) (hb : PE X b (tX k W fb))
    (he : ∀ v, assign (.Subscript a b pos) X.env v = (do
      let ov ← holding [v] (eval a X.env)
      let iv ← holding [v, ov] (eval b X.env)
      standAt pos
      holding [v, ov, iv] (setItem ov iv v)
      release [v, ov, iv] [])) : PG X (.Subscript a b pos) (tG k W (dGsub fa fb)) :=
  PG.weak (pg_sub ha hb (set_ok hu) he) fun v σ H Q ⟨μ, env, h, d, rh, re, rv, p⟩ => s1 rh re p fun o h1 H1 μ1 vo g1 r1 e1 ro p1 => s1 r1 e1 p1 fun i h2 H2 μ2 vi g2 r2 e2 ri p2 => by
    split at p2
    · rename_i h3 e3
      exact ⟨μ2, h2, o, i, d, h3, r2, RD.grow g2.toExt _ _ ro, ri, RD.grow g2.toExt _ _ (RD.grow g1.toExt _ _ rv), e3, fun H' μ' g' r' => p2 H' μ' σ g' r' (e2.grow g'.toExt)⟩
    · exact p2.elim
/-- target = value -/
def dAsg (f : Se) (g : Sg) : Ss := fun e h => (f e h).to e fun d h1 => g d e h1
def gOnly (g : Sg) : Sg := fun d e h => (g d e h).sg dSkip
theorem PostS.only {B : Ends} {μ : List Addr} {H : Hp} {r : Ro} (p : PostS k W B μ H (r.sg dSkip)) : PostS k W (onlyNx B.nx) μ H r := PostS.sg p fun e h H' μ' σ' g' r' e' p' => p' H' μ' σ' Grow.refl r' e'
theorem s_asg (ha : PE X a (tX k W fa)) (hg : PG X b (tG k W gf)) (hs : swapsWithSole [b] a pos.line X.env = pure false) (hw : swappedStores [b] a X.env = pure none) (h1 : (assignEach [b] X.env).map (·.2) = [assign b X.env]) :
    PS X (.Assign [b] a pos) (tS k W (dAsg fa (gOnly gf))) :=
  PS.weak (ps_asg ha hg hs hw h1) fun σ H B ⟨μ, env, h, rh, re, p⟩ => s1 rh re p fun d h1 H1 μ1 v g1 r1 e1 rv p1 => ⟨μ1, env, h1, d, r1, e1, rv, PostS.only p1⟩
theorem s_set {i : Nat} {x : Str} {pos' : Pos} (hN : X.N.Nodup) (hi : X.N[i]? = some x) (hx : Loc X.env.scope x) (ha : PE X a (tX k W fa)) (hs : swapsWith a (some (.Name x pos')) pos.line X.env = pure false) (hf : X.fn x = true ∨ X.env.scope.names.lookup x = some .local) :
    PS X (.Assign [.Name x pos'] a pos) (tS k W (dAsg fa (dGn i))) :=
  PS.weak (ps_set hN hi hx ha hs hf) fun σ H B ⟨μ, env, h, rh, re, p⟩ => s1 rh re p fun d h1 H1 μ1 v g1 r1 e1 rv p1 => p1 _ _ _ Grow.refl r1 (e1.set i rv)
/-- a, b = x, y: local names, stored from the right -/
def dPar (i j : Nat) (f : Sa) : Ss := fun e h => (f e h).to e fun l h1 => match l with
  | [x, y] => .nx ((e.set i (some x)).set j (some y)) h1
  | _ => .bad
theorem s_par {i j : Nat} {x y : Str} {px py pt : Pos} {kt k2 pt2} (hc : X.calm = true) (hN : X.N.Nodup) (hi : X.N[i]? = some x) (hj : X.N[j]? = some y) (hij : i ≠ j)
    (hx : X.env.scope.names.lookup x = some .local) (hy : X.env.scope.names.lookup y = some .local) (ha : PA X [a, b] (tA k W fs))
    (hw : swappedStores [.Tuple [.Name x px, .Name y py] kt pt] (.Tuple [a, b] k2 pt2) X.env = pure (some [x, y]))
    (hs : swapsWithSole [.Tuple [.Name x px, .Name y py] kt pt] (.Tuple [a, b] k2 pt2) pos.line X.env = pure false) :
    PS X (.Assign [.Tuple [.Name x px, .Name y py] kt pt] (.Tuple [a, b] k2 pt2) pos) (tS k W (dPar i j fs)) :=
  PS.weak (ps_par hc hN hi hj hij hx hy ha hw hs) fun σ H B ⟨μ, env, h, rh, re, p⟩ => sA rh re p fun l h1 H1 μ1 vs g1 r1 e1 rl p1 => by
    match l, p1 with
    | [d1, d2], p1 =>
      simp only [RDs] at rl
      obtain ⟨v, r, rfl, q1, w, r', rfl, q2, rfl⟩ := rl
      exact ⟨v, w, rfl, p1 _ _ _ Grow.refl r1 ((e1.set i q1).set j q2)⟩
def dPar3 (i j l : Nat) (f : Sa) : Ss := fun e h => (f e h).to e fun m h1 => match m with
  | [x, y, z] => .nx (((e.set i (some x)).set j (some y)).set l (some z)) h1
  | _ => .bad
end
/-! ### while, for -/
def dWh (c : St') (b : Ss) : Nat → Ss
  | 0 => fun _ _ => .bad
  | n + 1 => fun e h => (c e h).to e fun t h1 => if t = true then (b e h1).lp (dWh c b n) else .nx e h1
def dWhile (c : St') (b : Ss) : Ss := dWh c b BIG
section
variable {X : Cx} {k : Kx} {W : WX} {a b c : Expr} {pos : Pos} {tc : St'} {f : Ss} {sb : List Stmt}
theorem PostS.lp {B : Ends} {N : L2.St → Hp → Prop} {μ : List Addr} {H : Hp} {r : Ro} {g : Ss} (p : PostS k W B μ H (r.lp g)) (q : ∀ e h H' μ' σ', Grow H μ H' μ' → RH k μ' h H' → RE H' μ' e σ' → PostS k W B μ' H' (g e h) → N σ' H') :
    PostS k W { B with nx := N, ct := N, bk := B.nx } μ H r := by
  cases r with
  | nx e h => exact fun H' μ' σ' g' r' e' => q e h H' μ' σ' g' r' e' (PostS.later p g')
  | ct e h => exact fun H' μ' σ' g' r' e' => q e h H' μ' σ' g' r' e' (PostS.later p g')
  | bk e h => exact p
  | rt e h => exact p
  | xc x e h => exact p
  | bad => exact p
theorem s_while (hp : PassesOwn (model X.prog X.w) X.A X.env X.xe) (hc : PT X c (tT k W tc)) (hb : PSs X sb (tS k W f)) : PS X (.While c sb [] pos) (tS k W (dWhile tc f)) :=
  PS.weak (ps_while hp hc hb) fun σ H B ⟨μ, env, h, rh, re, p⟩ => by
    refine ⟨fun m σ H => ∃ μ env h, RH k μ h H ∧ RE H μ env σ ∧ PostS k W B μ H (dWh tc f m env h), ⟨BIG, μ, env, h, rh, re, p⟩, ?_⟩
    rintro m σ H ⟨μ, env, h, rh, re, p⟩
    cases m with
    | zero => exact p.elim
    | succ n =>
      refine sT rh re p fun t h1 H1 μ1 g1 r1 e1 p1 => ?_
      cases t with
      | true =>
        simp only [if_true] at p1 ⊢
        refine ⟨fun σ' H' => ∃ μ' env' h', RH k μ' h' H' ∧ RE H' μ' env' σ' ∧ PostS k W B μ' H' (dWh tc f n env' h'), fun σ' H' q => ⟨n, Nat.lt_succ_self n, q⟩, ?_⟩
        exact ⟨μ1, env, h1, r1, e1, PostS.lp p1 fun e h' H' μ' σ' g' r' e' p' => ⟨μ', e, h', r', e', p'⟩⟩
      | false => exact p1 _ _ _ Grow.refl r1 e1
end
/-- what a walk gives at turn i: none: not reckoned; some none: the end -/
abbrev Nx := Nat → Hd → Option (Option D)
abbrev Si := Env → Hd → Rs Nx
def JOk (k : Kx) (J : It) (nx : Nx) (H0 : Hp) (μ0 : List Addr) : Prop := ∀ i H μ h, Ext H0 μ0 H μ → RH k μ h H →
  (nx i h = some none → J.stop i H) ∧ ∀ d, nx i h = some (some d) → J.go i H ∧ ∀ x H', J.yld i H x H' → ∃ μ', Grow H μ H' μ' ∧ RH k μ' h H' ∧ RD H' μ' d x
def tI (k : Kx) (W : WX) (f : Si) : TI := fun σ H R => ∃ μ env h, RH k μ h H ∧ RE H μ env σ ∧ PostG k W μ H σ (fun nx h1 H1 μ1 => ∀ J, JOk k J nx H1 μ1 → R J H1) (f env h)
theorem PI.weak {X : Cx} {tg e : Expr} {t t' : TI} (h : PI X tg e t) (w : ∀ σ H Q, t' σ H Q → t σ H Q) : PI X tg e t' := ⟨fun pins s σ H R I q => h.run pins s σ H R I (w σ H R q)⟩
def dFo (nx : Nx) (g : Sg) (b : Ss) : Nat → Nat → Ss
  | 0, _ => fun _ _ => .bad
  | n + 1, i => fun e h => match nx i h with
    | none => .bad
    | some none => .nx e h
    | some (some d) => (g d e h).sg fun e1 h1 => (b e1 h1).lp (dFo nx g b n (i + 1))
def dFor (s : Si) (g : Sg) (b : Ss) : Ss := fun e h => (s e h).to e fun nx h1 => dFo nx g b BIG 0 e h1
section
variable {X : Cx} {k : Kx} {W : WX} {tg iter : Expr} {pos : Pos} {si : Si} {g : Sg} {f : Ss} {sb : List Stmt}
theorem s_for (hp : PassesOwn (model X.prog X.w) X.A X.env X.xe) (hc : X.calm = true) (hi : PI X tg iter (tI k W si)) (hg : PG X tg (tG k W g)) (hb : PSs X sb (tS k W f))
    (hs : ∀ x, foldedSetIterable iter X.env x = pure x) : PS X (.For tg iter sb [] pos) (tS k W (dFor si g f)) :=
  PS.weak (ps_for hp hc hi hg hb hs) fun σ H B ⟨μ, env, h, rh, re, p⟩ => by
    refine ⟨μ, env, h, rh, re, (p.to re).mono fun nx h0 H0 μ0 g0 r0 p0 J jok => ?_⟩
    refine ⟨fun i m σ H => ∃ μ env h, Grow H0 μ0 H μ ∧ RH k μ h H ∧ RE H μ env σ ∧ PostS k W B μ H (dFo nx g f m i env h), ⟨BIG, μ0, env, h0, Grow.refl, r0, re.grow g0.toExt, p0⟩, ?_⟩
    rintro i m σ H ⟨μ, env, h, g1, rh, re, p⟩
    cases m with
    | zero => exact p.elim
    | succ n =>
      unfold dFo at p
      have j := jok i H μ h g1.toExt rh
      split at p
      · exact p.elim
      · rename_i e
        exact .inl ⟨j.1 e, p _ _ _ Grow.refl rh re⟩
      · rename_i d e
        obtain ⟨j1, j2⟩ := j.2 d e
        refine .inr ⟨j1, fun σ' H' => ∃ μ' env' h', Grow H0 μ0 H' μ' ∧ RH k μ' h' H' ∧ RE H' μ' env' σ' ∧ PostS k W B μ' H' (dFo nx g f n (i + 1) env' h'), fun σ' H' q => ⟨n, Nat.lt_succ_self n, q⟩, fun x H' y => ?_⟩
        obtain ⟨μ', g2, r2, rx⟩ := j2 x H' y
        refine ⟨μ', env, h, d, r2, re.grow g2.toExt, rx, PostS.sg (PostS.later p g2) fun e3 h3 H3 μ3 σ3 g3 r3 q3 p3 => ?_⟩
        exact ⟨μ3, e3, h3, r3, q3, PostS.lp p3 fun e4 h4 H4 μ4 σ4 g4 r4 q4 p4 => ⟨μ4, e4, h4, g1.trans (g2.trans (g3.trans g4)), r4, q4, p4⟩⟩
/-! ### what is walked -/
def nxOf (l : List D) : Nx := fun i _ => some l[i]?
def nxLst (n : Nat) : Nx := fun i h => (seqAt h n).map fun l => l[i]?
/-- a list, a tuple -/
def iSeq : D → Option Nx
  | .tup l => some (nxOf l)
  | .ref n => some (nxLst n)
  | _ => none
end
end PN
namespace PN
open PySem L2 PyProof.Rows
/-! ## what loops walk -/
section
variable {X : Cx} {k : Kx} {W : WX} {tg e e2 : Expr} {pos p : Pos} {f : Se} {fs : Sa}
theorem now2 {α : Type} {okc : α → Hd → Hp → List Addr → Prop} {a : α} {h : Hd} {μ : List Addr} {H : Hp} {σ : L2.St} (rh : RH k μ h H) (q : PostG k W μ H σ okc (.ok a h)) : okc a h H μ := q H μ Grow.refl rh
/-- iter(x) of a list, of a tuple -/
def iAny (K : PySem.W.Frag) (tl : TE) : TI := fun σ H R => tl σ H fun x H1 => ∃ a, x = .ref a ∧ (((∃ xs, SqL K H1 a xs) ∧ R (Itl K a) H1) ∨ ((∃ xs, SqT K H1 a xs) ∧ R (Itt K a) H1))
theorem pi_any {l : Expr} {tl : TE} (hl : PE X l tl) : PI X tg l (iAny X.K tl) := by
  refine ⟨fun pins s σ H R I w => thn (hl.run pins s σ H _ I w) fun v s1 ⟨x, H1, I1, rx, w1⟩ => ?_⟩
  obtain ⟨a, ex, w2⟩ := w1
  subst ex
  cases rx
  rcases w2 with ⟨⟨xs, hq⟩, q⟩ | ⟨⟨xs, hq⟩, q⟩
  · obtain ⟨its, rv, pl, hz⟩ := I1.list hq
    exact wpAny_pyIter_list pl.isList (pi_one (tk := s1.toks) I1 _ (turn_list a _) ⟨_, Heap.get?_push_size _ rfl, rfl, rfl⟩ q)
  · obtain ⟨its, rv, pl, hz⟩ := I1.tuple hq
    exact wpAny_pyIter_tuple (show s1.heap.IsTuple a its.toArray from pl) (pi_one (tk := s1.toks) I1 _ (turn_tuple a _) ⟨_, Heap.get?_push_size _ rfl, rfl, rfl⟩ q)
theorem jok_lst {n : Nat} {a : Addr} {H0 : Hp} {μ0 : List Addr} (ea : μ0[n]? = some a) : JOk k (Itl k.K a) (nxLst n) H0 μ0 := by
  intro i H μ h g rh
  have ea' := g.pre _ _ ea
  constructor
  · intro e
    unfold nxLst at e
    obtain ⟨l, el, e⟩ := Option.map_eq_some_iff.mp e
    obtain ⟨vs, e1, r⟩ := rh.seq el ea'
    exact ⟨vs, e1, by rw [← r.length]; exact List.getElem?_eq_none_iff.mp e⟩
  · intro d e
    unfold nxLst at e
    obtain ⟨l, el, e⟩ := Option.map_eq_some_iff.mp e
    obtain ⟨vs, e1, r⟩ := rh.seq el ea'
    obtain ⟨v, ev, rv⟩ := r.get e
    exact ⟨⟨vs, v, e1, ev⟩, fun x H' ⟨eh, y⟩ => ⟨μ, by rw [eh]; exact Grow.refl, by rw [eh]; exact rh, by
      have := y vs e1
      rw [ev] at this
      cases this
      rw [eh]; exact rv⟩⟩
end
/-- of a walk at a tuple's place: SqT tells it once -/
theorem jok_tup' {k : Kx} {a : Addr} {l : List D} {vs : List V} {H0 : Hp} {μ0 : List Addr} (ea : H0 a = some (.tup vs)) (r : RDs H0 μ0 l vs) : JOk k (Itt k.K a) (nxOf l) H0 μ0 := by
  intro i H μ h g rh
  have ea' := g.tup _ _ ea
  have r' := RDs.grow g l vs r
  constructor
  · intro e
    simp only [nxOf, Option.some.injEq] at e
    exact ⟨vs, SqT.of ea', by rw [← r'.length]; exact List.getElem?_eq_none_iff.mp e⟩
  · intro d e
    simp only [nxOf, Option.some.injEq] at e
    obtain ⟨v, ev, rv⟩ := r'.get e
    exact ⟨⟨vs, v, SqT.of ea', ev⟩, fun x H' ⟨eh, y⟩ => ⟨μ, by rw [eh]; exact Grow.refl, by rw [eh]; exact rh, by
      have := y vs (SqT.of ea')
      rw [ev] at this
      cases this
      rw [eh]; exact rv⟩⟩
def ofN {α : Type} (o : Option α) (h : Hd) : Rs α := match o with
  | some b => .ok b h
  | none => .bad
@[simp] theorem ofN_some {α : Type} (b : α) (h : Hd) : ofN (some b) h = .ok b h := rfl
theorem PostG.ofN {k : Kx} {W : WX} {α : Type} {μ : List Addr} {H : Hp} {σ : L2.St} {okc : α → Hd → Hp → List Addr → Prop} {o : Option α} {h : Hd} (p : PostG k W μ H σ okc (ofN o h)) : ∃ b, o = some b ∧ PostG k W μ H σ okc (.ok b h) := by
  cases o with
  | none => exact p.elim
  | some b => exact ⟨b, rfl, p⟩
section
variable {X : Cx} {k : Kx} {W : WX} {tg e e2 : Expr} {pos p : Pos} {f : Se} {fs : Sa}
/-- a list's or a tuple's items -/
def seqN : D → Hd → Option Nx
  | .tup l, _ => some (nxOf l)
  | .ref n, h => (seqAt h n).map fun _ => nxLst n
  | _, _ => none
def dSeqI (f : Se) : Si := fun env h => (f env h).bind fun d h1 => ofN (seqN d h1) h1
theorem i_seq (hk : k.K = X.K) (ha : PE X e (tX k W f)) : PI X tg e (tI k W (dSeqI f)) :=
  PI.weak (pi_any ha) fun σ H R ⟨μ, env, h, rh, re, q⟩ => then1 rh re q fun d h1 H1 μ1 v g1 r1 e1 rv q1 => by
    obtain ⟨nx, en, q1⟩ := PostG.ofN q1
    have q2 := now2 r1 q1
    cases d <;> first | (simp [seqN] at en; done) | skip
    · rename_i l
      simp only [seqN, Option.some.injEq] at en
      subst en
      obtain ⟨a, vs, rfl, ea, r⟩ := rv.tup_of
      exact ⟨a, rfl, .inr ⟨⟨vs, SqT.of ea⟩, q2 _ (hk ▸ jok_tup' ea r)⟩⟩
    · rename_i n
      obtain ⟨l, el, en⟩ := Option.map_eq_some_iff.mp (show (seqAt h1 n).map (fun _ => nxLst n) = some nx from en)
      subst en
      obtain ⟨a, ea, rfl⟩ := rv.ref_of
      obtain ⟨vs, e1, r⟩ := r1.seq el ea
      exact ⟨a, rfl, .inl ⟨⟨vs, hk ▸ e1⟩, q2 _ (hk ▸ jok_lst ea)⟩⟩
/-! ### range -/
def nxRng (lo c : Int) (n : Nat) : Nx := fun i _ => if i < n then some (some (.int (lo + (i : Nat) * c))) else some none
theorem jok_rng {lo : Int} {n : Nat} {H0 : Hp} {μ0 : List Addr} : JOk k (Itr lo n) (nxRng lo 1 n) H0 μ0 := by
  intro i H μ h g rh
  unfold nxRng
  constructor
  · intro z
    split at z
    · cases z
    · rename_i hn; exact Nat.le_of_not_lt hn
  · intro d z
    split at z
    · rename_i hn
      cases z
      exact ⟨hn, fun x H' ⟨eh, ex⟩ => ⟨μ, by rw [eh]; exact Grow.refl, by rw [eh]; exact rh, by rw [ex, Int.mul_one]; exact RD.int _⟩⟩
    · cases z
theorem jok_rngC {lo c : Int} {n : Nat} {H0 : Hp} {μ0 : List Addr} : JOk k (Itc lo c n) (nxRng lo c n) H0 μ0 := by
  intro i H μ h g rh
  unfold nxRng
  constructor
  · intro z
    split at z
    · cases z
    · rename_i hn; exact Nat.le_of_not_lt hn
  · intro d z
    split at z
    · rename_i hn
      cases z
      exact ⟨hn, fun x H' ⟨eh, ex⟩ => ⟨μ, by rw [eh]; exact Grow.refl, by rw [eh]; exact rh, by rw [ex]; exact RD.int _⟩⟩
    · cases z
/-- 2 ** 62, the bound of range's ends -/
def RB : Int := 4611686018427387904
def rng1 : List D → Option Nx
  | [.int j] => if -RB ≤ j ∧ j < RB then some (nxRng 0 1 j.toNat) else none
  | _ => none
def rng2 : List D → Option Nx
  | [.int i, .int j] => if -RB ≤ i ∧ i < RB ∧ -RB ≤ j ∧ j < RB then some (nxRng i 1 (j - i).toNat) else none
  | _ => none
def rng3 : List D → Option Nx
  | [.int i, .int j, .int c] => if c ≠ 0 ∧ c.natAbs < 1073741824 ∧ Builtin.Range.small i j c = true then some (nxRng i c (Builtin.Range.rangeSize i j c).toNat) else none
  | _ => none
def dRngI (r : List D → Option Nx) (f : Sa) : Si := fun env h => (f env h).bind fun l h1 => ofN (r l) h1
theorem i_range1 (hg : Gl X "range") (hm : X.mg "range" = none) (ha : PA X [e] (tA k W fs)) (hs : starEach [e] X.env = [(false, eval e X.env)]) : PI X tg (.Call (.Name "range" p) [e] [] pos) (tI k W (dRngI rng1 fs)) :=
  PI.weak (pi_range1 hg hm ha hs) fun σ H R ⟨μ, env, h, rh, re, q⟩ => thenA rh re q fun l h1 H1 μ1 vs g1 r1 e1 rl q1 => by
    obtain ⟨nx, en, q1⟩ := PostG.ofN q1
    have q2 := now2 r1 q1
    match l, en, rl with
    | [.int j], en, rl =>
      simp only [rng1] at en
      split at en
      · rename_i hj
        cases en
        simp only [RDs] at rl
        obtain ⟨v, r, rfl, rv, rfl⟩ := rl
        rw [rv.int_of]
        have h62 : (2 : Int) ^ 62 = RB := by unfold RB; decide
        exact ⟨j, rfl, by rw [h62]; exact hj.1, by rw [h62]; exact hj.2, q2 _ jok_rng⟩
      · cases en
    | [], en, rl => cases en
    | [.non], en, rl => cases en
    | [.bl _], en, rl => cases en
    | [.str _], en, rl => cases en
    | [.tup _], en, rl => cases en
    | [.ref _], en, rl => cases en
    | _ :: _ :: _, en, rl => unfold rng1 at en; split at en <;> first | (rename_i z; cases z; done) | cases en
theorem i_range2 (hg : Gl X "range") (hm : X.mg "range" = none) (ha : PA X [e, e2] (tA k W fs)) (hs : starEach [e, e2] X.env = [(false, eval e X.env), (false, eval e2 X.env)]) (hs2 : starEach [e2] X.env = [(false, eval e2 X.env)]) : PI X tg (.Call (.Name "range" p) [e, e2] [] pos) (tI k W (dRngI rng2 fs)) :=
  PI.weak (pi_range2 hg hm ha hs hs2) fun σ H R ⟨μ, env, h, rh, re, q⟩ => thenA rh re q fun l h1 H1 μ1 vs g1 r1 e1 rl q1 => by
    obtain ⟨nx, en, q1⟩ := PostG.ofN q1
    have q2 := now2 r1 q1
    unfold rng2 at en
    split at en
    · rename_i i j
      split at en
      · rename_i hj
        cases en
        simp only [RDs] at rl
        obtain ⟨v, r, rfl, rv, v2, r2, rfl, rv2, rfl⟩ := rl
        rw [rv.int_of, rv2.int_of]
        have h62 : (2 : Int) ^ 62 = RB := by unfold RB; decide
        refine ⟨i, j, rfl, ?_, q2 _ jok_rng⟩
        rw [h62]; exact hj
      · cases en
    · cases en
theorem i_range3 {e3 : Expr} (hg : Gl X "range") (hm : X.mg "range" = none) (ha : PA X [e, e2, e3] (tA k W fs)) (hs : starEach [e, e2, e3] X.env = (false, eval e X.env) :: starEach [e2, e3] X.env) (hpl : (backTo pos (starEach [e2, e3] X.env)).any (·.1) = false) : PI X tg (.Call (.Name "range" p) [e, e2, e3] [] pos) (tI k W (dRngI rng3 fs)) :=
  PI.weak (pi_range3 hg hm ha hs hpl) fun σ H R ⟨μ, env, h, rh, re, q⟩ => thenA rh re q fun l h1 H1 μ1 vs g1 r1 e1 rl q1 => by
    obtain ⟨nx, en, q1⟩ := PostG.ofN q1
    have q2 := now2 r1 q1
    unfold rng3 at en
    split at en
    · rename_i i j c
      split at en
      · rename_i hj
        cases en
        simp only [RDs] at rl
        obtain ⟨v, r, rfl, rv, v2, r2, rfl, rv2, v3, r3, rfl, rv3, rfl⟩ := rl
        rw [rv.int_of, rv2.int_of, rv3.int_of]
        have h0 : 0 ≤ Builtin.Range.rangeSize i j c := by
          unfold Builtin.Range.rangeSize
          split
          · split
            · rename_i hlt; have : 0 ≤ (j - i - 1) / c := Int.ediv_nonneg (by omega) (by omega); omega
            · exact Int.le_refl _
          · split
            · rename_i hlt
              have : 0 ≤ (i - j - 1) / (-c) := Int.ediv_nonneg (by omega) (by omega)
              omega
            · exact Int.le_refl _
        exact ⟨i, j, c, _, rfl, ⟨hj.1, hj.2.1, hj.2.2, (Int.toNat_of_nonneg h0).symm⟩, q2 _ jok_rngC⟩
      · cases en
    · cases en
end
end PN
namespace PN
open PySem L2 PyProof.Rows
/-! ## enumerate, zip -/
set_option maxHeartbeats 1000000 in
theorem enum_new {v : Value} {ob : Obj} {P : Heap → Prop} (B : Begins v ob P) :
    Meets (Builtin.«enumerate.__new__» ⟨[.type "enumerate", v], []⟩) (fun _ R s => P s.heap ∧
      R (.ok (.ret (.ref (s.heap.push ob).objs.size))) { s with heap := (s.heap.push ob).push { cls := .type "enumerate", data := .fields #[.none, .bool false, .ref s.heap.objs.size, rawInt 0, .none, .none] } }) :=
  .of_wp fun prog w A R s h => by
    obtain ⟨h0, g0, d0, t0, o0⟩ := s
    obtain ⟨hp, h⟩ := h
    have es := sub_enumerate
    have go : ∀ {A' : Around} {E Q : Value → Shared → Prop}, Q (.ref h0.objs.size) ⟨h0.push ob, g0, d0, t0, o0⟩ → wpAny (model prog w) A' (pyIter v) Q E ⟨h0, g0, d0, t0, o0⟩ :=
      fun q => B.iter prog w _ _ ⟨h0, g0, d0, t0, o0⟩ _ hp q
    wp_walk using go
    refine wpAny_stack_any fun st => wpAny_pure ?_
    split
    · rename_i c _ _ _ _ _
      cases (c == Value.type "enumerate")
      · wp_walk using go
        exact ⟨_, rfl, h⟩
      · wp_walk using go
        exact ⟨_, rfl, h⟩
    · wp_walk using go
      exact ⟨_, rfl, h⟩
theorem enum_call {prog : Program} {w : World} {A : Around} {E : Value → Shared → Prop} {s : Shared} {v : Value} {ob : Obj} {P : Heap → Prop} {Q : Value → Shared → Prop} (B : Begins v ob P) (hp : P s.heap)
    (h : ∀ h', IsEnum h' (s.heap.objs.size + 1) s.heap.objs.size ((0 : Nat) : Int) .none → h'.get? s.heap.objs.size = some ob → h'.objs.size = s.heap.objs.size + 2 →
      (∀ b o, s.heap.get? b = some o → h'.get? b = some o) → Q (.ref (s.heap.objs.size + 1)) { s with heap := h' }) : wpAny (model prog w) A (call (.type "enumerate") [v]) Q E s := by
  refine callType_new F.called_enumerate (by decide) (F.typeCall_enumerate_1 _) (F.newCall_enumerate_1 _) (fun obj => F.args_object_init_2 obj _) F.entry_enumerate_new (enum_new B) ⟨hp, ?_⟩
  have z1 : (s.heap.push ob).objs.size = s.heap.objs.size + 1 := Heap.size_push ..
  show _ ∧ _
  rw [z1]
  have he : IsEnum ((s.heap.push ob).push { cls := .type "enumerate", data := .fields #[.none, .bool false, .ref s.heap.objs.size, rawInt 0, .none, .none] }) (s.heap.objs.size + 1) s.heap.objs.size ((0 : Nat) : Int) .none := by
    have q := Heap.get?_push_size (s.heap.push ob) (o := { cls := .type "enumerate", data := .fields #[.none, .bool false, .ref s.heap.objs.size, rawInt 0, .none, .none] }) rfl
    rw [z1] at q; exact q
  exact ⟨⟨_, he, rfl⟩, h _ he (Heap.get?_push_of_some _ (Heap.get?_push_size _ B.free)) (by rw [Heap.size_push, z1]) fun b o x => Heap.get?_push_of_some _ (Heap.get?_push_of_some _ x)⟩
/-- the tuple at a, each item in a new pair with its number -/
def IteT (K : PySem.W.Frag) (a : Addr) : It :=
  ⟨fun i H => ∃ (xs : List V) (x : V), SqT K H a xs ∧ xs[i]? = some x, fun i H v H' => ∃ T x, v = .ref T ∧ H T = none ∧ H' = upd H T (.tup [.int (i : Nat), x]) ∧ ∀ xs, SqT K H a xs → xs[i]? = some x, fun i H => ∃ xs : List V, SqT K H a xs ∧ xs.length ≤ i⟩
theorem turn_enumT {P : Program} {w : World} {K : PySem.W.Frag} {elts : List Expr} {kk : Nat} {tpos : Pos} (a e it : Addr) (its : Array Value) (hai : a ≠ it) (hae : a ≠ e) (xs0 : List V) :
    Turn P w K (.Tuple elts kk tpos) (IteT K a) [e, it] e (fun i h => (∃ old, IsEnum h e it ((i : Nat) : Int) old) ∧ h.IsTupleIter it a i ∧ e ≠ it) where
  mem := by simp
  obj := fun i h st b hb => by
    obtain ⟨⟨old, he⟩, ⟨o, ho, _, hd⟩, _⟩ := st
    rcases (show b = e ∨ b = it by simpa using hb) with z | z
    · subst z; exact ⟨_, he, fun v q => nomatch q⟩
    · subst z; exact ⟨o, ho, fun v q => by rw [hd] at q; cases q⟩
  keep := fun i h h' st kp => let ⟨⟨old, he⟩, hi, hn⟩ := st; ⟨⟨old, kp e (by simp) _ he⟩, hi.at fun o q => kp it (by simp) o q, hn⟩
  item := by
    intro X hP hw hK hc i pins s σ H E I hf st hg
    subst hP hw hK
    obtain ⟨⟨old, he⟩, hit, hne⟩ := st
    obtain ⟨xs, x, hq, hx⟩ := hg
    obtain ⟨us, rv, pt, hz⟩ := I.tuple hq
    obtain ⟨u, hu, ru⟩ := rv.get hx
    have l1 : e < s.heap.objs.size := Heap.lt_size he
    have l2 : it < s.heap.objs.size := by obtain ⟨_, q, _⟩ := hit; exact Heap.lt_size q
    have D := Draws.tuple (prog := X.prog) (w := X.w) (A := X.A.in1) (I.ok.hd hc) it a hai us.toArray
    have lt : i < us.toArray.size := by
      have := (List.getElem?_eq_some_iff.mp hu).1
      simpa using this
    refine wpAny_pyNext_enum_itemD D he ⟨hit, pt⟩ lt hne (by simp [hne, Ne.symm hae]) fun x' h' tk px ho st' hT hsz hk => ?_
    have ux : x' = u := by
      have q : us[i]? = some x' := by simpa using px
      rw [hu] at q; cases q; rfl
    subst ux
    refine ⟨_, rfl, wpAny_letOwnedTupleGo_enum (s := { s with heap := h', toks := tk + 1 }) ho fun h'' he' sb => ?_⟩
    have hT2 : h''.get? s.heap.objs.size = some { cls := .type "tuple", data := .seq #[.int i tk, x'] } := (sb.2 _ (Nat.ne_of_gt l1)).trans hT
    have new : ObjOk X.prog X.w (upd H s.heap.objs.size (.tup [.int (i : Nat), x])) h'' s.heap.objs.size (.tup [.int (i : Nat), x]) :=
      ⟨by show 2 ≤ sizeLine; decide, [.int i tk, x'], .cons ⟨_, rfl⟩ (.cons ru .nil), ⟨_, hT2, rfl, _, rfl⟩⟩
    have I1 : Inv X pins σ (upd H s.heap.objs.size (.tup [.int (i : Nat), x])) { s with heap := h'', toks := tk + 1 } :=
      I.turnedNew (ch := [e, it]) (fun b ob hb q => (sb.2 b fun z => hb (by simp [z])).trans (hk b ob (fun z => hb (by simp [z])) (fun z => hb (by simp [z])) q)) hf (Nat.le_refl _) new
    refine ⟨.ref s.heap.objs.size, _, I1, rfl, ⟨_, x, rfl, I.hok.fresh (Nat.le_refl _), rfl, fun ys hy => by rw [I.tuple_inj hy hq]; exact hx⟩, ⟨⟨x', ?_⟩, st'.1.at fun o q => (sb.2 it (Ne.symm hne)).trans q, hne⟩, fun b hb => ?_⟩
    · have e1 : ((i + 1 : Nat) : Int) = (i : Int) + 1 := by omega
      rw [e1]; exact he'
    · have hb' : b < s.heap.objs.size := by
        rcases (show b = e ∨ b = it by simpa using hb) with z | z
        · subst z; exact l1
        · subst z; exact l2
      rw [upd_ne (Nat.ne_of_lt hb')]
      exact (hf b hb).1
  done := by
    intro X hP hw hK hc i pins s σ H E I hf st hg
    subst hP hw hK
    obtain ⟨⟨old, he⟩, hit, hne⟩ := st
    obtain ⟨xs, hq, hx⟩ := hg
    obtain ⟨us, rv, pt, hz⟩ := I.tuple hq
    obtain ⟨f0, f1, f2, f3, f4, f5⟩ := hf it (by simp)
    have hl := rv.length
    have hT : s.TypeIs (.ref e) "enumerate" := ⟨_, he, rfl⟩
    unfold pyNext
    refine wpAny_bind (wpAny_attempt (wpAny_callSpecial?_slot (name := Str.ofString "__next__") hT F.slot_enumerate_next
      (wpAny_call_entry F.slot_enumerate_next hT F.entry_enumerate_next ?_ (F.args_enumerate_next_1 _))))
    show wpAny _ _ (field (.ref e) 2 >>= _) _ _ _
    refine wpAny_bind (wpAny_field he rfl (x := .ref it) rfl ?_)
    refine wpAny_bind (wpAny_nextOf_tuple_end (A := X.A.in1) (I.ok.hd hc) hit pt (by simp; omega) fun h' x he' hx' => ?_)
    obtain ⟨o, ho, hcl⟩ := hx'
    refine wpAny_bind (wpAny_isInstance (T := "StopIteration") (b := true) ⟨o, ho, hcl⟩ isSubtype_stop ?_)
    exact wpAny_pure ⟨rfl, I.turned (t' := s.toks) (fun b o hb q => he' b o hb q) f0 f1 f3 f4 f5⟩
  self := fun A i s Q E st h => let ⟨⟨_, he⟩, _⟩ := st; wpAny_pyIter_enum he h
def iEnumA (K : PySem.W.Frag) (ta : TA) : TI := fun σ H R => ta σ H fun vs H1 => ∃ a, vs = [.ref a] ∧ (((∃ xs, SqL K H1 a xs) ∧ R (Ite K a) H1) ∨ ((∃ xs, SqT K H1 a xs) ∧ R (IteT K a) H1))
section
variable {X : Cx} {k : Kx} {W : WX} {tg e e2 : Expr} {pos p tpos : Pos} {f : Se} {fs : Sa} {elts : List Expr} {kk : Nat}
theorem pi_enumA {ta : TA} (hg : Gl X "enumerate") (hm : X.mg "enumerate" = none) (ha : PA X [e] ta) (hs : starEach [e] X.env = [(false, eval e X.env)]) : PI X (.Tuple elts kk tpos) (.Call (.Name "enumerate" p) [e] [] pos) (iEnumA X.K ta) := by
  refine ⟨fun pins s σ H R I h => ?_⟩
  refine Call_ (ld_blt I hg hm boot_enumerate (PyProof.Rows.callWith_type1 (thn (ha.run pos pins s σ H _ I h) fun us s1 ⟨vs, H1, I1, r1, a, ex, q1⟩ => ?_) hs rfl))
  subst ex
  cases r1 with
  | cons r rr =>
    cases rr
    cases r
    have two : ∀ b, b ∈ [s1.heap.objs.size + 1, s1.heap.objs.size] → FpOk X pins H1 b := fun b hb => by
      have le : s1.heap.objs.size ≤ b := by
        rcases (show b = s1.heap.objs.size + 1 ∨ b = s1.heap.objs.size by simpa using hb) with z | z <;> omega
      exact I1.fpOk le (I1.hok.fresh le)
    rcases q1 with ⟨⟨xs, hq⟩, q⟩ | ⟨⟨xs, hq⟩, q⟩
    · obtain ⟨its, rv, pl, _⟩ := I1.list hq
      refine call_enumerate_list pl.isList fun h' he hit hsz hk => wpAny_pyIter_enum he ?_
      exact ⟨s1.heap.objs.size + 1, _, _, _, H1, rfl, I1.kept (t' := s1.toks) hk, turn_enum a (s1.heap.objs.size + 1) s1.heap.objs.size, ⟨⟨.none, he⟩, hit, Nat.succ_ne_self _⟩, two, q⟩
    · obtain ⟨its, rv, pl, _⟩ := I1.tuple hq
      have la : a < s1.heap.objs.size := by obtain ⟨o, ho, _⟩ := id pl; exact Heap.lt_size ho
      refine enum_call (begins_tuple a its.toArray) (show s1.heap.IsTuple a its.toArray from pl) fun h' he hit hsz hk => wpAny_pyIter_enum he ?_
      exact ⟨s1.heap.objs.size + 1, _, _, _, H1, rfl, I1.kept (t' := s1.toks) hk, turn_enumT a (s1.heap.objs.size + 1) s1.heap.objs.size its.toArray (Nat.ne_of_lt la) (Nat.ne_of_lt (Nat.lt_succ_of_lt la)) xs, ⟨⟨.none, he⟩, ⟨_, hit, rfl, rfl⟩, Nat.succ_ne_self _⟩, two, q⟩
/-- each item with its number -/
def nxEnum (nx : Nx) : Nx := fun i h => (nx i h).map fun o => o.map fun d => .tup [.int (i : Nat), d]
theorem jok_enumL {n : Nat} {a : Addr} {H0 : Hp} {μ0 : List Addr} (ea : μ0[n]? = some a) : JOk k (Ite k.K a) (nxEnum (nxLst n)) H0 μ0 := by
  intro i H μ h g rh
  have ea' := g.pre _ _ ea
  unfold nxEnum nxLst
  cases el : seqAt h n with
  | none => exact ⟨fun z => by simp at z, fun d z => by simp at z⟩
  | some l =>
    obtain ⟨vs, e1, r⟩ := rh.seq el ea'
    constructor
    · intro z
      simp only [Option.map_some, Option.some.injEq, Option.map_eq_none_iff] at z
      exact ⟨vs, e1, by rw [← r.length]; exact List.getElem?_eq_none_iff.mp z⟩
    · intro d z
      simp only [Option.map_some, Option.some.injEq, Option.map_eq_some_iff] at z
      obtain ⟨d', ed, rfl⟩ := z
      obtain ⟨v, ev, rv⟩ := r.get ed
      refine ⟨⟨vs, v, e1, ev⟩, fun x H' ⟨T, x', ex, hT, eh, y⟩ => ⟨μ, by rw [eh]; exact Grow.fresh hT, by rw [eh]; exact rh.fresh hT, ?_⟩⟩
      have := y vs e1
      rw [ev] at this
      cases this
      rw [ex, eh]
      exact RD.tup upd_same (RDs.cons (RD.int _) (RDs.cons (RD.grow (Grow.fresh hT).toExt _ _ rv) RDs.nil))
theorem jok_enumT {a : Addr} {l : List D} {vs : List V} {H0 : Hp} {μ0 : List Addr} (ea : H0 a = some (.tup vs)) (r0 : RDs H0 μ0 l vs) : JOk k (IteT k.K a) (nxEnum (nxOf l)) H0 μ0 := by
  intro i H μ h g rh
  have ea' := g.tup _ _ ea
  have r := RDs.grow g l vs r0
  unfold nxEnum nxOf
  constructor
  · intro z
    simp only [Option.map_some, Option.some.injEq, Option.map_eq_none_iff] at z
    exact ⟨vs, SqT.of ea', by rw [← r.length]; exact List.getElem?_eq_none_iff.mp z⟩
  · intro d z
    simp only [Option.map_some, Option.some.injEq, Option.map_eq_some_iff] at z
    obtain ⟨d', ed, rfl⟩ := z
    obtain ⟨v, ev, rv⟩ := r.get ed
    refine ⟨⟨vs, v, SqT.of ea', ev⟩, fun x H' ⟨T, x', ex, hT, eh, y⟩ => ⟨μ, by rw [eh]; exact Grow.fresh hT, by rw [eh]; exact rh.fresh hT, ?_⟩⟩
    have := y vs (SqT.of ea')
    rw [ev] at this
    cases this
    rw [ex, eh]
    exact RD.tup upd_same (RDs.cons (RD.int _) (RDs.cons (RD.grow (Grow.fresh hT).toExt _ _ rv) RDs.nil))
def enumN : List D → Hd → Option Nx
  | [d], h => (seqN d h).map nxEnum
  | _, _ => none
def dArgI (r : List D → Hd → Option Nx) (f : Sa) : Si := fun env h => (f env h).bind fun l h1 => ofN (r l h1) h1
theorem i_enum (hk : k.K = X.K) (hg : Gl X "enumerate") (hm : X.mg "enumerate" = none) (ha : PA X [e] (tA k W fs)) (hs : starEach [e] X.env = [(false, eval e X.env)]) : PI X (.Tuple elts kk tpos) (.Call (.Name "enumerate" p) [e] [] pos) (tI k W (dArgI enumN fs)) :=
  PI.weak (pi_enumA hg hm ha hs) fun σ H R ⟨μ, env, h, rh, re, q⟩ => thenA rh re q fun l h1 H1 μ1 vs g1 r1 e1 rl q1 => by
    obtain ⟨nx, en, q1⟩ := PostG.ofN q1
    have q2 := now2 r1 q1
    unfold enumN at en
    split at en
    · rename_i d
      simp only [RDs] at rl
      obtain ⟨v, r, rfl, rv, rfl⟩ := rl
      obtain ⟨nx', en', rfl⟩ := Option.map_eq_some_iff.mp en
      cases d <;> first | (simp [seqN] at en'; done) | skip
      · rename_i l
        simp only [seqN, Option.some.injEq] at en'
        subst en'
        obtain ⟨a, vs, rfl, ea, r⟩ := rv.tup_of
        exact ⟨a, rfl, .inr ⟨⟨vs, SqT.of ea⟩, q2 _ (hk ▸ jok_enumT ea r)⟩⟩
      · rename_i n
        obtain ⟨l, el, en'⟩ := Option.map_eq_some_iff.mp (show (seqAt h1 n).map (fun _ => nxLst n) = some nx' from en')
        subst en'
        obtain ⟨a, ea, rfl⟩ := rv.ref_of
        obtain ⟨vs, e1, r⟩ := r1.seq el ea
        exact ⟨a, rfl, .inl ⟨⟨vs, hk ▸ e1⟩, q2 _ (hk ▸ jok_enumL ea)⟩⟩
    · cases en
/-! ### zip -/
def nxZip (na nb : Nx) : Nx := fun i h => match na i h, nb i h with
  | some (some a), some (some b) => some (some (.tup [a, b]))
  | some (some _), some none => some none
  | some none, some _ => some none
  | _, _ => none
theorem jok_zipL {n m : Nat} {a b : Addr} {H0 : Hp} {μ0 : List Addr} (ea : μ0[n]? = some a) (eb : μ0[m]? = some b) : JOk k (Itz k.K a b) (nxZip (nxLst n) (nxLst m)) H0 μ0 := by
  intro i H μ h g rh
  unfold nxZip nxLst
  cases el : seqAt h n with
  | none => exact ⟨fun z => by simp at z, fun d z => by simp at z⟩
  | some l =>
    cases em : seqAt h m with
    | none =>
      constructor
      · intro z; simp only [Option.map_some, Option.map_none] at z; split at z <;> simp_all
      · intro d z; simp only [Option.map_some, Option.map_none] at z; split at z <;> simp_all
    | some l2 =>
      obtain ⟨vs, e1, r⟩ := rh.seq el (g.pre _ _ ea)
      obtain ⟨vs2, e2, r2⟩ := rh.seq em (g.pre _ _ eb)
      simp only [Option.map_some]
      cases c1 : l[i]? with
      | none =>
        refine ⟨fun _ => ⟨vs, vs2, e1, e2, .inl (by rw [← r.length]; exact List.getElem?_eq_none_iff.mp c1)⟩, fun d z => ?_⟩
        simp at z
      | some d1 =>
        cases c2 : l2[i]? with
        | none =>
          refine ⟨fun _ => ⟨vs, vs2, e1, e2, .inr (by rw [← r2.length]; exact List.getElem?_eq_none_iff.mp c2)⟩, fun d z => ?_⟩
          simp at z
        | some d2 =>
          refine ⟨fun z => by simp at z, fun d z => ?_⟩
          simp only [Option.some.injEq] at z
          subst z
          obtain ⟨v, ev, rv⟩ := r.get c1
          obtain ⟨v2, ev2, rv2⟩ := r2.get c2
          refine ⟨⟨vs, vs2, v, v2, e1, e2, ev, ev2⟩, fun x H' ⟨T, y1, y2, ex, hT, eh, z1, z2⟩ => ⟨μ, by rw [eh]; exact Grow.fresh hT, by rw [eh]; exact rh.fresh hT, ?_⟩⟩
          have w1 := z1 vs e1
          have w2 := z2 vs2 e2
          rw [ev] at w1; cases w1
          rw [ev2] at w2; cases w2
          rw [ex, eh]
          exact RD.tup upd_same (RDs.cons (RD.grow (Grow.fresh hT).toExt _ _ rv) (RDs.cons (RD.grow (Grow.fresh hT).toExt _ _ rv2) RDs.nil))
theorem jok_zipT {l l2 : List D} {a b : Addr} {vs vs2 : List V} {H0 : Hp} {μ0 : List Addr} (ea : H0 a = some (.tup vs)) (r0 : RDs H0 μ0 l vs) (eb : H0 b = some (.tup vs2)) (r02 : RDs H0 μ0 l2 vs2) : JOk k (RZ.ItzT k.K a b) (nxZip (nxOf l) (nxOf l2)) H0 μ0 := by
  intro i H μ h g rh
  have e1 := SqT.of (K := k.K) (g.tup _ _ ea)
  have e2 := SqT.of (K := k.K) (g.tup _ _ eb)
  have r := RDs.grow g l vs r0
  have r2 := RDs.grow g l2 vs2 r02
  unfold nxZip nxOf
  cases c1 : l[i]? with
  | none =>
    refine ⟨fun _ => ⟨vs, vs2, e1, e2, .inl (by rw [← r.length]; exact List.getElem?_eq_none_iff.mp c1)⟩, fun d z => ?_⟩
    simp at z
  | some d1 =>
    cases c2 : l2[i]? with
    | none =>
      refine ⟨fun _ => ⟨vs, vs2, e1, e2, .inr (by rw [← r2.length]; exact List.getElem?_eq_none_iff.mp c2)⟩, fun d z => ?_⟩
      simp at z
    | some d2 =>
      refine ⟨fun z => by simp at z, fun d z => ?_⟩
      simp only [Option.some.injEq] at z
      subst z
      obtain ⟨v, ev, rv⟩ := r.get c1
      obtain ⟨v2, ev2, rv2⟩ := r2.get c2
      refine ⟨⟨vs, vs2, v, v2, e1, e2, ev, ev2⟩, fun x H' ⟨T, y1, y2, ex, hT, eh, z1, z2⟩ => ⟨μ, by rw [eh]; exact Grow.fresh hT, by rw [eh]; exact rh.fresh hT, ?_⟩⟩
      have w1 := z1 vs e1
      have w2 := z2 vs2 e2
      rw [ev] at w1; cases w1
      rw [ev2] at w2; cases w2
      rw [ex, eh]
      exact RD.tup upd_same (RDs.cons (RD.grow (Grow.fresh hT).toExt _ _ rv) (RDs.cons (RD.grow (Grow.fresh hT).toExt _ _ rv2) RDs.nil))
def zipN : List D → Hd → Option Nx
  | [.tup a, .tup b], _ => some (nxZip (nxOf a) (nxOf b))
  | [.ref n, .ref m], h => (seqAt h n).bind fun _ => (seqAt h m).map fun _ => nxZip (nxLst n) (nxLst m)
  | _, _ => none
theorem i_zip (hk : k.K = X.K) (hg : Gl X "zip") (hm : X.mg "zip" = none) (ha : PA X [e, e2] (tA k W fs)) (hs : starEach [e, e2] X.env = (false, eval e X.env) :: starEach [e2] X.env) (hpl : (backTo pos (starEach [e2] X.env)).any (·.1) = false) :
    PI X (.Tuple elts kk tpos) (.Call (.Name "zip" p) [e, e2] [] pos) (tI k W (dArgI zipN fs)) :=
  PI.weak (RZ.pi_zipA hg hm ha hs hpl) fun σ H R ⟨μ, env, h, rh, re, q⟩ => thenA rh re q fun l h1 H1 μ1 vs g1 r1 e1 rl q1 => by
    obtain ⟨nx, en, q1⟩ := PostG.ofN q1
    have q2 := now2 r1 q1
    unfold zipN at en
    split at en
    · rename_i la lb
      cases en
      simp only [RDs] at rl
      obtain ⟨v, r, rfl, rv, v2, r2, rfl, rv2, rfl⟩ := rl
      obtain ⟨a, va, rfl, ea, ra⟩ := rv.tup_of
      obtain ⟨b, vb, rfl, eb, rb⟩ := rv2.tup_of
      exact ⟨a, b, va, vb, rfl, .inr ⟨SqT.of ea, SqT.of eb, q2 _ (hk ▸ jok_zipT ea ra eb rb)⟩⟩
    · rename_i n m
      simp only [RDs] at rl
      obtain ⟨v, r, rfl, rv, v2, r2, rfl, rv2, rfl⟩ := rl
      obtain ⟨la, ela, en⟩ := Option.bind_eq_some_iff.mp en
      obtain ⟨lb, elb, rfl⟩ := Option.map_eq_some_iff.mp en
      obtain ⟨a, ea, rfl⟩ := rv.ref_of
      obtain ⟨b, eb, rfl⟩ := rv2.ref_of
      obtain ⟨va, e1, ra⟩ := r1.seq ela ea
      obtain ⟨vb, e2, rb⟩ := r1.seq elb eb
      exact ⟨a, b, va, vb, rfl, .inl ⟨hk ▸ e1, hk ▸ e2, q2 _ (hk ▸ jok_zipL ea eb)⟩⟩
    · cases en
end
end PN
namespace PN
open PySem L2 PyProof.Rows
/-! ## list comprehensions -/
/-- in a block no exception is let out -/
def Rs.ne {α : Type} (r : Rs α) : Rs α := match r with
  | .ok a h => .ok a h
  | _ => .bad
@[simp] theorem Rs.ne_ok {α : Type} (a : α) (h : Hd) : (Rs.ok a h).ne = .ok a h := rfl
abbrev WF : WX := fun _ _ _ _ => False
theorem PostG.ne {α β : Type} {k : Kx} {W : WX} {μ μb : List Addr} {H Hb : Hp} {σ σ' : L2.St} {r : Rs α} {g : α → Hd → Rs β} {okc : β → Hd → Hp → List Addr → Prop} (p : PostG k W μb Hb σ okc (r.ne.bind g)) :
    PostG k WF μ H σ' (fun a h1 _ _ => PostG k W μb Hb σ okc (g a h1)) r := by
  cases r with
  | ok a h => exact fun H' μ' g' r' => p
  | err x h => exact p.elim
  | bad => exact p
def wipeE (env : Env) : List Nat → Env
  | [] => env
  | v :: vs => (wipeE env vs).set v none
theorem RE.wipe {H μ env σ} (r : RE H μ env σ) : ∀ vs, RE H μ (wipeE env vs) (L2.wipe σ vs)
  | [] => r
  | v :: vs => by
    have r' := RE.wipe r vs
    refine ⟨by simp [wipeE, L2.wipe, r'.len], fun j d e => ?_⟩
    unfold wipeE at e
    by_cases z : j = v
    · subst z
      have hl := (List.getElem?_eq_some_iff.mp e).1
      rw [List.length_set] at hl
      rw [List.getElem?_set_self hl] at e; cases e
    · rw [List.getElem?_set_ne (Ne.symm z)] at e
      obtain ⟨w, e1, q⟩ := r'.at_ j d e
      exact ⟨w, by unfold L2.wipe; rw [List.getElem?_set_ne (Ne.symm z)]; exact e1, q⟩
theorem wipe_set {σ : L2.St} {i : Nat} {x : Option V} : ∀ {vs : List Nat}, i ∈ vs → L2.wipe (σ.set i x) vs = L2.wipe σ vs
  | v :: vs, h => by
    unfold L2.wipe
    by_cases z : i ∈ vs
    · rw [wipe_set z]
    · have e : i = v := by rcases List.mem_cons.mp h with q | q; exact q; exact (z q).elim
      subst e
      have : ∀ (us : List Nat), i ∉ us → L2.wipe (σ.set i x) us = (L2.wipe σ us).set i x := by
        intro us
        induction us with
        | nil => intro _; rfl
        | cons u us ih =>
          intro hn
          unfold L2.wipe
          rw [ih fun m => hn (List.mem_cons_of_mem _ m)]
          exact List.set_comm _ _ fun q => hn (by rw [q]; exact List.mem_cons_self)
      rw [this vs z, List.set_set]
theorem wipe_none {σ : L2.St} {u : Nat} : ∀ {ys : List Nat}, u ∈ ys → (L2.wipe σ ys).set u none = L2.wipe σ ys
  | y :: ys, q => by
    show ((L2.wipe σ ys).set y none).set u none = (L2.wipe σ ys).set y none
    by_cases z : u = y
    · subst z; rw [List.set_set]
    · rcases List.mem_cons.mp q with q | q
      · exact (z q).elim
      · rw [List.set_comm _ _ (Ne.symm z), wipe_none q]
theorem wipe_wipe (σ : L2.St) (vs : List Nat) : ∀ us : List Nat, (∀ u ∈ us, u ∈ vs) → L2.wipe (L2.wipe σ vs) us = L2.wipe σ vs
  | [], _ => rfl
  | u :: us, hs => by
    show (L2.wipe (L2.wipe σ vs) us).set u none = _
    rw [wipe_wipe σ vs us fun w hw => hs w (List.mem_cons_of_mem _ hw), wipe_none (hs u List.mem_cons_self)]
/-- a target of a block: only its slots change -/
def tGw (k : Kx) (vs : List Nat) (f : Sg) : TG := fun v σ H Q => ∃ μ env h d e', RH k μ h H ∧ RE H μ env σ ∧ RD H μ d v ∧ f d env h = .nx e' h ∧ ∀ σ', RE H μ e' σ' → L2.wipe σ' vs = L2.wipe σ vs → Q σ' H
def tGsw (k : Kx) (vs : List Nat) (f : Sgs) : TGs := fun v σ H Q => ∃ μ env h d e', RH k μ h H ∧ RE H μ env σ ∧ RDs H μ d v ∧ f d env h = .nx e' h ∧ ∀ σ', RE H μ e' σ' → L2.wipe σ' vs = L2.wipe σ vs → Q σ' H
def Pure (f : Sg) : Prop := ∀ d e h e' h', f d e h = .nx e' h' → h' = h
def PureS (f : Sgs) : Prop := ∀ d e h e' h', f d e h = .nx e' h' → h' = h
theorem pure_n {i : Nat} : Pure (dGn i) := fun d e h e' h' q => by cases q; rfl
theorem pure_nil : PureS dGnil := fun d e h e' h' q => by
  cases d <;> cases q; rfl
theorem pure_cons {f : Sg} {g : Sgs} (p : Pure f) (q : PureS g) : PureS (dGcons f g) := fun d e h e' h' z => by
  cases d with
  | nil => cases z
  | cons d l =>
    simp only [dGcons] at z
    cases c : f d e h with
    | nx e1 h1 =>
      rw [c] at z
      have := p _ _ _ _ _ c
      subst this
      exact q _ _ _ _ _ z
    | _ => rw [c] at z; cases z
theorem pure_tup {n : Nat} {g : Sgs} (q : PureS g) : Pure (dGtup n g) := fun d e h e' h' z => by
  cases d <;> first | (cases z; done) | skip
  rename_i l
  simp only [dGtup] at z
  split at z
  · exact q _ _ _ _ _ z
  · cases z
section
variable {X : Cx} {k : Kx} {W : WX} {a b c : Expr} {pos : Pos} {es : List Expr} {vs : List Nat}
theorem gw_name {i : Nat} {x : Str} (hm : i ∈ vs) (hN : X.N.Nodup) (hi : X.N[i]? = some x) (hx : Loc X.env.scope x) (hf : X.fn x = true ∨ X.env.scope.names.lookup x = some .local) : PG X (.Name x pos) (tGw k vs (dGn i)) :=
  PG.weak (pg_name hN hi hx hf) fun v σ H Q ⟨μ, env, h, d, e', rh, re, rv, e, p⟩ => by
    cases e
    exact p _ (re.set i rv) (wipe_set hm)
theorem gsw_nil : PGs X [] (tGsw k vs dGnil) := PGs.weak pgs_nil fun v σ H Q ⟨μ, env, h, d, e', rh, re, rv, e, p⟩ => by
  cases d with
  | nil => simp only [RDs] at rv; cases e; exact ⟨rv, p σ re rfl⟩
  | cons a l => cases e
variable {gf : Sg} {gfs : Sgs}
theorem gsw_cons (pu : Pure gf) (h1 : PG X a (tGw k vs gf)) (h2 : PGs X es (tGsw k vs gfs)) (hs : (assignEach (a :: es) X.env).map (·.2) = assign a X.env :: (assignEach es X.env).map (·.2)) : PGs X (a :: es) (tGsw k vs (dGcons gf gfs)) :=
  PGs.weak (pgs_cons h1 h2 hs) fun v σ H Q ⟨μ, env, h, d, e', rh, re, rv, e, p⟩ => by
    cases d with
    | nil => cases e
    | cons d l =>
      simp only [RDs] at rv
      obtain ⟨v, r, rfl, q1, q2⟩ := rv
      simp only [dGcons] at e
      cases c : gf d env h with
      | nx e1 hh =>
        rw [c] at e
        have := pu _ _ _ _ _ c
        subst this
        exact ⟨v, r, rfl, μ, env, hh, d, e1, rh, re, q1, c, fun σ1 r1 w1 => ⟨μ, e1, hh, l, e', rh, r1, q2, e, fun σ2 r2 w2 => p σ2 r2 (w2.trans w1)⟩⟩
      | _ => rw [c] at e; cases e
theorem gw_tup {n kk : Nat} (hc : X.calm = true) (h : PGs X es (tGsw k vs gfs)) (hn : (assignEach es X.env).length = n) (hst : (assignEach es X.env).findIdx? (·.1) = none) : PG X (.Tuple es kk pos) (tGw k vs (dGtup n gfs)) :=
  PG.weak (pg_tup hc h hn hst) fun v σ H Q ⟨μ, env, h, d, e', rh, re, rv, e, p⟩ => by
    cases d <;> first | (cases e; done) | skip
    rename_i l
    simp only [dGtup] at e
    split at e
    · rename_i hl
      obtain ⟨a, ws, rfl, ea, q⟩ := rv.tup_of
      exact ⟨a, ws, rfl, SqT.of ea, by rw [← q.length]; exact hl, μ, env, h, l, e', rh, re, q, e, p⟩
    · cases e
end
/-- the loop of a block: what is found so far grows -/
def dLcI (nx : Nx) (g : Sg) (t : St') (f : Se) (env : Env) : Nat → Nat → List D → Hd → Rs (List D)
  | 0, _, _, _ => .bad
  | n + 1, i, acc, h => match nx i h with
    | none => .bad
    | some none => .ok acc h
    | some (some d) => match g d env h with
      | .nx e1 h1 => (t e1 h1).ne.bind fun b h2 => if b = true then (f e1 h2).ne.bind fun y h3 => if acc.length < BIG then dLcI nx g t f env n (i + 1) (acc ++ [y]) h3 else .bad
        else dLcI nx g t f env n (i + 1) acc h2
      | _ => .bad
def dLc (s : Si) (g : Sg) (t : St') (f : Se) (vs : List Nat) : Se := fun env h => (s env h).bind fun nx h1 => (dLcI nx g t f (wipeE env vs) BIG 0 [] h1).bind fun acc h2 => .ok (.ref h2.length) (h2 ++ [.lst acc])
/-- a thing aside is written -/
theorem Ext.aside {H μ p u ho} (e : H p = some u) (nt : ∀ xs, u ≠ .tup xs) (nf : ∀ o x, u ≠ .frz o x) : Ext H μ (upd H p ho) μ :=
  ⟨fun _ _ e => e, Nat.le_refl _, fun b xs z => by rw [upd_ne (ne_of z e fun q => nt xs q.symm)]; exact z, fun b o x z => by rw [upd_ne (ne_of z e fun q => nf o x q.symm)]; exact z⟩
theorem RH.aside {k : Kx} {H μ h p u ho} (r : RH k μ h H) (hp : p ∉ μ) (e : H p = some u) (nt : ∀ xs, u ≠ .tup xs) (nf : ∀ o x, u ≠ .frz o x) : RH k μ h (upd H p ho) :=
  ⟨r.len, r.nd, fun n ob a e1 e2 => (r.ob n ob a e1 e2).grow (Ext.aside e nt nf) fun _ => by
    rw [upd_ne fun z => hp (by rw [← z]; exact List.mem_of_getElem? e2)]⟩
theorem Grow.aside {Hb H : Hp} {μb μ : List Addr} {p : Addr} {u ho : HO} (g : Grow Hb μb H μ) (hb : Hb p = none) (e : H p = some u) (nt : ∀ xs, u ≠ .tup xs) (nf : ∀ o x, u ≠ .frz o x) : Grow Hb μb (upd H p ho) μ :=
  ⟨g.toExt.trans (Ext.aside e nt nf), fun a w ea ma => ⟨by rw [upd_ne (ne_of_none ea hb)]; exact (g.oth a w ea ma).1, (g.oth a w ea ma).2⟩⟩
theorem Rs.bind_assoc {α β γ : Type} (r : Rs α) (f : α → Hd → Rs β) (g : β → Hd → Rs γ) : (r.bind f).bind g = r.bind fun a h => (f a h).bind g := by cases r <;> rfl
section
variable {k : Kx} {W : WX} {okc : D → Hd → Hp → List Addr → Prop}
/-- the loop's law; base: where the whole began; behind it N is to hold -/
theorem lcI_ok {J : It} {nx : Nx} {g : Sg} {t : St'} {f : Se} {env : Env} {vs : List Nat} {σ σb : L2.St} {Hb H1 : Hp} {μb μ1 : List Addr} {Dp : Addr} {N : Hp → Prop} {fin : List D → Hd → Rs D} {h1 : Hd} {acc : List D} {ws : List V}
    (pu : Pure g) (hb : Hb Dp = none) (jok : JOk k J nx H1 μ1) (g0 : Grow Hb μb H1 μ1) (rh : RH k μ1 h1 H1) (re : RE H1 μ1 env (L2.wipe σ vs)) (hD : H1 Dp = some (.lst ws)) (rw0 : RDs H1 μ1 acc ws) (hm : Dp ∉ μ1)
    (p : PostG k W μb Hb σb okc ((dLcI nx g t f env BIG 0 acc h1).bind fin))
    (hN : ∀ acc h H μ ws, Ext H1 μ1 H μ → Grow Hb μb H μ → RH k μ h H → H Dp = some (.lst ws) → RDs H μ acc ws → Dp ∉ μ → PostG k W μb Hb σb okc (fin acc h) → N H) :
    ∃ Wi : Nat → Nat → Hp → Prop, (∃ m, Wi 0 m H1) ∧ ∀ i m H, Wi i m H →
      (J.stop i H ∧ N H) ∨ (J.go i H ∧ ∃ Nx : Hp → Prop, (∀ H', Nx H' → ∃ m', m' < m ∧ Wi (i + 1) m' H') ∧ ∀ x H', J.yld i H x H' → tGw k vs g x (L2.wipe σ vs) H' fun σ2 H2 => L2.wipe σ2 vs = L2.wipe σ vs ∧ tT k WF t σ2 H2 fun b H3 =>
        if b = true then tX k WF f σ2 H3 fun y H4 => ∃ acc, H4 Dp = some (.lst acc) ∧ acc.length < sizeLine ∧ Nx (upd H4 Dp (.lst (acc ++ [y]))) else Nx H3) := by
  refine ⟨fun i m H => ∃ μ h acc ws, Ext H1 μ1 H μ ∧ Grow Hb μb H μ ∧ RH k μ h H ∧ H Dp = some (.lst ws) ∧ RDs H μ acc ws ∧ Dp ∉ μ ∧ PostG k W μb Hb σb okc ((dLcI nx g t f env m i acc h).bind fin),
    ⟨BIG, μ1, h1, acc, ws, Grow.refl.toExt, g0, rh, hD, rw0, hm, p⟩, ?_⟩
  rintro i m H ⟨μ, h, acc, ws, x1, gb, rh, hD, rw1, hm, p⟩
  cases m with
  | zero => exact p.elim
  | succ n =>
    unfold dLcI at p
    have j := jok i H μ h x1 rh
    split at p
    · exact p.elim
    · rename_i e
      exact .inl ⟨j.1 e, hN acc h H μ ws x1 gb rh hD rw1 hm p⟩
    · rename_i d e
      obtain ⟨j1, j2⟩ := j.2 d e
      refine .inr ⟨j1, fun H' => ∃ μ h acc ws, Ext H1 μ1 H' μ ∧ Grow Hb μb H' μ ∧ RH k μ h H' ∧ H' Dp = some (.lst ws) ∧ RDs H' μ acc ws ∧ Dp ∉ μ ∧ PostG k W μb Hb σb okc ((dLcI nx g t f env n (i + 1) acc h).bind fin), fun H' q => ⟨n, Nat.lt_succ_self n, q⟩, fun x H' y => ?_⟩
      obtain ⟨μ2, g2, r2, rx⟩ := j2 x H' y
      split at p
      · rename_i e1 h' eg
        have hh := pu _ _ _ _ _ eg
        subst hh
        have re2 : RE H' μ2 env (L2.wipe σ vs) := (re.grow x1).grow g2.toExt
        obtain ⟨hD2, hm2⟩ := g2.oth _ _ hD hm
        refine ⟨μ2, env, h', d, e1, r2, re2, rx, eg, fun σ2 rσ hw => ⟨?_, μ2, e1, h', r2, rσ, ?_⟩⟩
        · rw [hw]
          exact wipe_wipe σ vs vs fun _ h => h
        · rw [Rs.bind_assoc] at p
          refine (PostG.ne p).mono fun b h3 H3 μ3 g3 r3 p3 => ?_
          obtain ⟨hD3, hm3⟩ := g3.oth _ _ hD2 hm2
          have rw3 : RDs H3 μ3 acc ws := RDs.grow g3.toExt _ _ (RDs.grow g2.toExt _ _ rw1)
          have gb3 := (gb.trans g2).trans g3
          have x3 := (x1.trans g2.toExt).trans g3.toExt
          show if b = true then _ else _
          cases b with
          | true =>
            simp only [if_true] at p3 ⊢
            rw [Rs.bind_assoc] at p3
            refine ⟨μ3, e1, h3, r3, rσ.grow g3.toExt, (PostG.ne p3).mono fun y h4 H4 μ4 g4 r4 p4 v rv => ?_⟩
            obtain ⟨hD4, hm4⟩ := g4.oth _ _ hD3 hm3
            have rw4 := RDs.grow g4.toExt _ _ rw3
            by_cases hz : acc.length < BIG
            · rw [if_pos hz] at p4
              have xa : Ext H4 μ4 (upd H4 Dp (.lst (ws ++ [v]))) μ4 := Ext.aside hD4 (fun _ z => nomatch z) (fun _ _ z => nomatch z)
              refine ⟨ws, hD4, by rw [← rw4.length, ← big_eq]; exact hz, μ4, h4, acc ++ [y], ws ++ [v], (x3.trans g4.toExt).trans xa, (gb3.trans g4).aside hb hD4 (fun _ z => nomatch z) (fun _ _ z => nomatch z), r4.aside hm4 hD4 (fun _ z => nomatch z) (fun _ _ z => nomatch z), upd_same, ?_, hm4, p4⟩
              exact RDs.append (RDs.grow xa _ _ rw4) (RDs.cons (RD.grow xa _ _ rv) RDs.nil)
            · rw [if_neg hz] at p4; exact p4.elim
          | false =>
            simp only [Bool.false_eq_true, if_false] at p3 ⊢
            exact ⟨μ3, h3, acc, ws, x3, gb3, r3, hD3, rw3, hm3, p3⟩
      · exact p.elim
theorem lc_w {si : Si} {g : Sg} {t : St'} {f : Se} {vs : List Nat} (pu : Pure g) {σ : L2.St} {H : Hp} {Q : VK} (h : tX k W (dLc si g t f vs) σ H Q) : tLc (tI k W si) (tGw k vs g) (tT k WF t) (tX k WF f) vs σ H Q := by
  obtain ⟨μ, env, h, rh, re, p⟩ := h
  refine ⟨μ, env, h, rh, re, (PostG.bind p).mono fun nx h1 H1 μ1 g1 r1 p1 J jok Dp hD => ?_⟩
  have hm := r1.out hD
  have gf : Grow H1 μ1 (upd H1 Dp (.lst [])) μ1 := Grow.fresh hD
  have jok' : JOk k J nx (upd H1 Dp (.lst [])) μ1 := fun i H μ h x r => jok i H μ h (gf.toExt.trans x) r
  exact lcI_ok pu hD jok' gf (r1.fresh hD) (((re.grow g1.toExt).grow gf.toExt).wipe vs) upd_same RDs.nil hm p1 fun acc h H μ ws x gb r hD' rw hm' q =>
    q H (μ ++ [Dp]) (gb.more hD) (r.adopt hm' ⟨ws, hD', RDs.grow Ext.app _ _ rw⟩) (.ref Dp) (RD.ref (by rw [← r.len, List.getElem?_append_right (Nat.le_refl _)]; simp))
end
def dYes : St' := fun _ h => .ok true h
section
variable {X : Cx} {k : Kx} {W : WX} {c : Expr} {t : St'}
theorem ts_nil : PTs X [] (tT k W dYes) := ⟨fun pins s σ H Q I ⟨μ, env, h, rh, re, p⟩ => pts_nil.run pins s σ H Q I (p H μ Grow.refl rh)⟩
theorem ts_one (h : PT X c (tT k W t)) : PTs X [c] (tT k W t) := pts_one h
variable {elt tg iter : Expr} {ifs : List Expr} {scope : Scope} {own : List (Str × Nat)} {pos : Pos} {si : Si} {g : Sg} {f : Se}
theorem x_lc (hc : X.calm = true) (hN : X.N.Nodup) (pu : Pure g) (hi : PI X tg iter (tI k W si)) (ok : BlkOk X.N X.env.scope scope own)
    (hg : ∀ (s : Shared) (H : Hp) (C : Addr) (cl : List (Str × Addr)) (fp : List Addr), PG (X.blk s H scope (compEnvC scope cl C X.env) fp) tg (tGw k (own.map (·.2)) g))
    (ht : ∀ (s : Shared) (H : Hp) (C : Addr) (cl : List (Str × Addr)) (fp : List Addr), PTs (X.blk s H scope (compEnvC scope cl C X.env) fp) ifs (tT k WF t))
    (he : ∀ (s : Shared) (H : Hp) (C : Addr) (cl : List (Str × Addr)) (fp : List Addr), PE (X.blk s H scope (compEnvC scope cl C X.env) fp) elt (tX k WF f)) (hs : ∀ x, foldedSetIterable iter X.env x = pure x) :
    PE X (.ListComp elt [⟨tg, iter, ifs, 0⟩] scope pos) (tX k W (dLc si g t f (own.map (·.2)))) :=
  PE.weak (pe_lc hc hN hi ok hg ht he hs) fun σ H Q h => lc_w pu h
theorem s_setLc {i : Nat} {y : Str} {py spos : Pos} (hc : X.calm = true) (hN : X.N.Nodup) (hy : X.N[i]? = some y) (hyl : X.env.scope.names.lookup y = some .local)
    (hsw : swapsWith (.ListComp elt [⟨tg, iter, ifs, 0⟩] scope pos) (some (.Name y py)) spos.line X.env = pure true) (pu : Pure g) (hi : PI X tg iter (tI k W si)) (ok : BlkOk X.N X.env.scope scope own)
    (hg : ∀ (s : Shared) (H : Hp) (C : Addr) (cl : List (Str × Addr)) (fp : List Addr), PG (X.blk s H scope (compEnvC scope cl C X.env) fp) tg (tGw k (own.map (·.2)) g))
    (ht : ∀ (s : Shared) (H : Hp) (C : Addr) (cl : List (Str × Addr)) (fp : List Addr), PTs (X.blk s H scope (compEnvC scope cl C X.env) fp) ifs (tT k WF t))
    (he : ∀ (s : Shared) (H : Hp) (C : Addr) (cl : List (Str × Addr)) (fp : List Addr), PE (X.blk s H scope (compEnvC scope cl C X.env) fp) elt (tX k WF f)) (hs : ∀ x, foldedSetIterable iter X.env x = pure x) :
    PS X (.Assign [.Name y py] (.ListComp elt [⟨tg, iter, ifs, 0⟩] scope pos) spos) (tS k W (dAsg (dLc si g t f (own.map (·.2))) (dGn i))) :=
  PS.weak (ps_setLc hc hN hy hyl hsw hi ok hg ht he hs) fun σ H B ⟨μ, env, h, rh, re, p⟩ => lc_w pu (s1 rh re p fun d h1 H1 μ1 v g1 r1 e1 rv p1 => p1 _ _ _ Grow.refl r1 (e1.set i rv))
end
end PN
namespace PN
open PySem L2 PyProof.Rows
/-! ## two clauses -/
def dLcO (nx : Nx) (g : Sg) (t : St') (s1 : Si) (g1 : Sg) (t1 : St') (f : Se) (env : Env) (vs1 : List Nat) : Nat → Nat → List D → Hd → Rs (List D)
  | 0, _, _, _ => .bad
  | n + 1, i, acc, h => match nx i h with
    | none => .bad
    | some none => .ok acc h
    | some (some d) => match g d env h with
      | .nx e1 h1 => (t e1 h1).ne.bind fun b h2 => if b = true then (s1 e1 h2).ne.bind fun nx1 h3 => (dLcI nx1 g1 t1 f (wipeE e1 vs1) BIG 0 acc h3).bind (dLcO nx g t s1 g1 t1 f env vs1 n (i + 1))
        else dLcO nx g t s1 g1 t1 f env vs1 n (i + 1) acc h2
      | _ => .bad
def dLc2 (s : Si) (g : Sg) (t : St') (s1 : Si) (g1 : Sg) (t1 : St') (f : Se) (vs vs1 : List Nat) : Se := fun env h => (s env h).bind fun nx h1 => (dLcO nx g t s1 g1 t1 f (wipeE env vs) vs1 BIG 0 [] h1).bind fun acc h2 => .ok (.ref h2.length) (h2 ++ [.lst acc])
section
variable {k : Kx} {W : WX}
theorem lc2_w {si s1 : Si} {g g1 : Sg} {t t1 : St'} {f : Se} {vs vs1 : List Nat} (pu : Pure g) (pu1 : Pure g1) {σ : L2.St} {H : Hp} {Q : VK} (h : tX k W (dLc2 si g t s1 g1 t1 f vs vs1) σ H Q) :
    tLc2 (tI k W si) (tGw k vs g) (tT k WF t) (tI k WF s1) (tGw k vs1 g1) (tT k WF t1) (tX k WF f) vs vs1 σ H Q := by
  obtain ⟨μ, env, h, rh, re, p⟩ := h
  refine ⟨μ, env, h, rh, re, (PostG.bind p).mono fun nx h1 H1 μ1 g01 r1 p1 J jok Dp hb => ?_⟩
  have hm := r1.out hb
  have gf : Grow H1 μ1 (upd H1 Dp (.lst [])) μ1 := Grow.fresh hb
  have re1 := (re.grow g01.toExt).wipe vs
  clear p re rh g01
  refine ⟨fun i m H => ∃ μ h acc ws, Grow H1 μ1 H μ ∧ RH k μ h H ∧ H Dp = some (.lst ws) ∧ RDs H μ acc ws ∧ Dp ∉ μ ∧ PostG k W μ1 H1 σ (okV Q) ((dLcO nx g t s1 g1 t1 f (wipeE env vs) vs1 m i acc h).bind fun acc h2 => .ok (.ref h2.length) (h2 ++ [.lst acc])),
    ⟨BIG, μ1, h1, [], [], gf, r1.fresh hb, upd_same, RDs.nil, hm, p1⟩, ?_⟩
  rintro i m H ⟨μ, h, acc, ws, gb, rh, hD, rw1, hm, p⟩
  cases m with
  | zero => exact p.elim
  | succ n =>
    unfold dLcO at p
    have j := jok i H μ h gb.toExt rh
    split at p
    · exact p.elim
    · rename_i e
      exact .inl ⟨j.1 e, p H (μ ++ [Dp]) (gb.more hb) (rh.adopt hm ⟨ws, hD, RDs.grow Ext.app _ _ rw1⟩) (.ref Dp) (RD.ref (by rw [← rh.len, List.getElem?_append_right (Nat.le_refl _)]; simp))⟩
    · rename_i d e
      obtain ⟨j1, j2⟩ := j.2 d e
      refine .inr ⟨j1, fun H' => ∃ μ h acc ws, Grow H1 μ1 H' μ ∧ RH k μ h H' ∧ H' Dp = some (.lst ws) ∧ RDs H' μ acc ws ∧ Dp ∉ μ ∧ PostG k W μ1 H1 σ (okV Q) ((dLcO nx g t s1 g1 t1 f (wipeE env vs) vs1 n (i + 1) acc h).bind fun acc h2 => .ok (.ref h2.length) (h2 ++ [.lst acc])), fun H' q => ⟨n, Nat.lt_succ_self n, q⟩, fun x H' y => ?_⟩
      obtain ⟨μ2, g2, r2, rx⟩ := j2 x H' y
      split at p
      · rename_i e1 h' eg
        have hh := pu _ _ _ _ _ eg
        subst hh
        obtain ⟨hD2, hm2⟩ := g2.oth _ _ hD hm
        refine ⟨μ2, wipeE env vs, h', d, e1, r2, (re1.grow gb.toExt).grow g2.toExt, rx, eg, fun σ2 rσ hw => ⟨by rw [hw]; exact wipe_wipe σ vs vs fun _ h => h, μ2, e1, h', r2, rσ, ?_⟩⟩
        rw [Rs.bind_assoc] at p
        refine (PostG.ne p).mono fun b h3 H3 μ3 g3 r3 p3 => ?_
        obtain ⟨hD3, hm3⟩ := g3.oth _ _ hD2 hm2
        have rw3 : RDs H3 μ3 acc ws := RDs.grow g3.toExt _ _ (RDs.grow g2.toExt _ _ rw1)
        have gb3 := (gb.trans g2).trans g3
        show if b = true then _ else _
        cases b with
        | true =>
          simp only [if_true] at p3 ⊢
          rw [Rs.bind_assoc] at p3
          have rσ3 := rσ.grow g3.toExt
          refine ⟨μ3, e1, h3, r3, rσ3, (PostG.ne p3).mono fun nx1 h4 H4 μ4 g4 r4 p4 J1 jok1 => ?_⟩
          obtain ⟨hD4, hm4⟩ := g4.oth _ _ hD3 hm3
          rw [Rs.bind_assoc] at p4
          exact lcI_ok pu1 hb jok1 (gb3.trans g4) r4 ((rσ3.grow g4.toExt).wipe vs1) hD4 (RDs.grow g4.toExt _ _ rw3) hm4 p4 fun acc h H μ ws x gb r hD' rw hm' q => ⟨μ, h, acc, ws, gb, r, hD', rw, hm', q⟩
        | false =>
          simp only [Bool.false_eq_true, if_false] at p3 ⊢
          exact ⟨μ3, h3, acc, ws, gb3, r3, hD3, rw3, hm3, p3⟩
      · exact p.elim
end
section
variable {X : Cx} {k : Kx} {W : WX} {elt tg iter tg1 iter1 : Expr} {ifs ifs1 : List Expr} {scope : Scope} {own : List (Str × Nat)} {vs1 : List Nat} {pos : Pos} {si s1 : Si} {g g1 : Sg} {f : Se} {t t1 : St'}
theorem x_lc2 (hc : X.calm = true) (hN : X.N.Nodup) (pu : Pure g) (pu1 : Pure g1) (hi : PI X tg iter (tI k W si)) (ok : BlkOk X.N X.env.scope scope own) (hv : ∀ i ∈ vs1, i ∈ own.map (·.2))
    (hg : ∀ (s : Shared) (H : Hp) (C : Addr) (cl : List (Str × Addr)) (fp : List Addr), PG (X.blk s H scope (compEnvC scope cl C X.env) fp) tg (tGw k (own.map (·.2)) g))
    (ht : ∀ (s : Shared) (H : Hp) (C : Addr) (cl : List (Str × Addr)) (fp : List Addr), PTs (X.blk s H scope (compEnvC scope cl C X.env) fp) ifs (tT k WF t))
    (hi1 : ∀ (s : Shared) (H : Hp) (C : Addr) (cl : List (Str × Addr)) (fp : List Addr), PI (X.blk s H scope (compEnvC scope cl C X.env) fp) tg1 iter1 (tI k WF s1))
    (hg1 : ∀ (s : Shared) (H : Hp) (C : Addr) (cl : List (Str × Addr)) (fp : List Addr), PG (X.blk s H scope (compEnvC scope cl C X.env) fp) tg1 (tGw k vs1 g1))
    (ht1 : ∀ (s : Shared) (H : Hp) (C : Addr) (cl : List (Str × Addr)) (fp : List Addr), PTs (X.blk s H scope (compEnvC scope cl C X.env) fp) ifs1 (tT k WF t1))
    (he : ∀ (s : Shared) (H : Hp) (C : Addr) (cl : List (Str × Addr)) (fp : List Addr), PE (X.blk s H scope (compEnvC scope cl C X.env) fp) elt (tX k WF f)) (hs : ∀ x, foldedSetIterable iter X.env x = pure x) (hs1 : ∀ env x, foldedSetIterable iter1 env x = pure x) :
    PE X (.ListComp elt [⟨tg, iter, ifs, 0⟩, ⟨tg1, iter1, ifs1, 0⟩] scope pos) (tX k W (dLc2 si g t s1 g1 t1 f (own.map (·.2)) vs1)) :=
  PE.weak (pe_lc2 hc hN hi ok hv hg ht hi1 hg1 ht1 he hs hs1) fun σ H Q h => lc2_w pu pu1 h
theorem s_setLc2 {i : Nat} {y : Str} {py spos : Pos} (hc : X.calm = true) (hN : X.N.Nodup) (hy : X.N[i]? = some y) (hyl : X.env.scope.names.lookup y = some .local)
    (hsw : swapsWith (.ListComp elt [⟨tg, iter, ifs, 0⟩, ⟨tg1, iter1, ifs1, 0⟩] scope pos) (some (.Name y py)) spos.line X.env = pure true) (pu : Pure g) (pu1 : Pure g1) (hi : PI X tg iter (tI k W si)) (ok : BlkOk X.N X.env.scope scope own) (hv : ∀ i ∈ vs1, i ∈ own.map (·.2))
    (hg : ∀ (s : Shared) (H : Hp) (C : Addr) (cl : List (Str × Addr)) (fp : List Addr), PG (X.blk s H scope (compEnvC scope cl C X.env) fp) tg (tGw k (own.map (·.2)) g))
    (ht : ∀ (s : Shared) (H : Hp) (C : Addr) (cl : List (Str × Addr)) (fp : List Addr), PTs (X.blk s H scope (compEnvC scope cl C X.env) fp) ifs (tT k WF t))
    (hi1 : ∀ (s : Shared) (H : Hp) (C : Addr) (cl : List (Str × Addr)) (fp : List Addr), PI (X.blk s H scope (compEnvC scope cl C X.env) fp) tg1 iter1 (tI k WF s1))
    (hg1 : ∀ (s : Shared) (H : Hp) (C : Addr) (cl : List (Str × Addr)) (fp : List Addr), PG (X.blk s H scope (compEnvC scope cl C X.env) fp) tg1 (tGw k vs1 g1))
    (ht1 : ∀ (s : Shared) (H : Hp) (C : Addr) (cl : List (Str × Addr)) (fp : List Addr), PTs (X.blk s H scope (compEnvC scope cl C X.env) fp) ifs1 (tT k WF t1))
    (he : ∀ (s : Shared) (H : Hp) (C : Addr) (cl : List (Str × Addr)) (fp : List Addr), PE (X.blk s H scope (compEnvC scope cl C X.env) fp) elt (tX k WF f)) (hs : ∀ x, foldedSetIterable iter X.env x = pure x) (hs1 : ∀ env x, foldedSetIterable iter1 env x = pure x) :
    PS X (.Assign [.Name y py] (.ListComp elt [⟨tg, iter, ifs, 0⟩, ⟨tg1, iter1, ifs1, 0⟩] scope pos) spos) (tS k W (dAsg (dLc2 si g t s1 g1 t1 f (own.map (·.2)) vs1) (dGn i))) :=
  PS.weak (ps_setLc2 hc hN hy hyl hsw hi ok hv hg ht hi1 hg1 ht1 he hs hs1) fun σ H B ⟨μ, env, h, rh, re, p⟩ => lc2_w pu pu1 (PN.s1 rh re p fun d h1 H1 μ1 v g1 r1 e1 rv p1 => p1 _ _ _ Grow.refl r1 (e1.set i rv))
end
end PN
namespace PN
open PySem L2 PyProof.Rows
/-! ## dict comprehensions -/
theorem put_dict {X : Cx} {pins : List (Addr × Obj)} {σ : L2.St} {H H2 : Hp} {s : Shared} {E : Value → Shared → Prop} {d : Addr} {y v : V} {u r : Value} {Q : Unit → Shared → Prop} (hu : X.A.units + 1 < cLine) (I : L2.Inv X pins σ H s) (g : DPut H d y v H2)
    (ry : RelV y u) (rv : RelV v r) (q : ∀ s', L2.Inv X pins σ H2 s' → Q () s') : wpAny (model X.prog X.w) X.A (dictSet d u r) Q E s := by
  rcases g with ⟨kvs, kk, ed, ey, hl, e2⟩ | ⟨kvs, kk, b, ed, ey, eb, hl, e2⟩
  · subst ey e2
    exact d_dictSet I ed hl ry rv q
  · subst ey e2
    cases (show u = Value.ref b from ry)
    obtain ⟨z, hd, xs, rel, dd⟩ := dt_of I.hok ed
    have z1 : xs.length ≤ sizeLine := by rw [← Paired.length rel]; exact z
    have z2 : (putK kvs kk v).length ≤ sizeLine := by have := length_putK kvs kk v; omega
    refine wpAny_dictSet_heap (hsz := z1) (show X.A.units < cLine by omega) (key_of I.hok eb) dd fun h2 dd2 same => q _ ?_
    obtain ⟨o, es, ep, ho, w2, w3, w4, _, w5⟩ := dd2
    refine d_write I (by rw [ed]; exact True.intro) same ⟨o, ho⟩ ⟨z2, hd, _, (rel.put kk eb rv).keeps fun c ys ec => ?_, o, es, ep, ho, w2, w3, w4, w5⟩
    rw [upd_ne (ne_of ec ed fun z => nomatch z)]
    exact ec
/-- a store, the empty dict taken as the key wants it -/
def PutAt (d : Addr) (y z : V) (H : Hp) (N : Hp → Prop) : Prop := (∃ H2, DPut H d y z H2 ∧ N H2) ∨ (H d = some (.dK []) ∧ ∃ H2, DPut (upd H d (.dT [])) d y z H2 ∧ N H2) ∨ (H d = some (.dT []) ∧ ∃ H2, DPut (upd H d (.dK [])) d y z H2 ∧ N H2)
theorem put_at {X : Cx} {pins : List (Addr × Obj)} {σ : L2.St} {H : Hp} {s : Shared} {E : Value → Shared → Prop} {d : Addr} {y v : V} {u r : Value} {N : Hp → Prop} {Q : Unit → Shared → Prop} (hu : X.A.units + 1 < cLine) (I : L2.Inv X pins σ H s) (g : PutAt d y v H N)
    (ry : RelV y u) (rv : RelV v r) (q : ∀ H2 s', L2.Inv X pins σ H2 s' → N H2 → Q () s') : wpAny (model X.prog X.w) X.A (dictSet d u r) Q E s := by
  rcases g with ⟨H2, g, n⟩ | ⟨e, H2, g, n⟩ | ⟨e, H2, g, n⟩
  · exact put_dict hu I g ry rv fun s' J => q H2 s' J n
  · exact put_dict hu (Inv.toT I e) g ry rv fun s' J => q H2 s' J n
  · exact put_dict hu (Inv.toK I e) g ry rv fun s' J => q H2 s' J n
/-- {k: v for target in iter if ..} -/
def tDx (wi : TI) (g : TG) (tt : TT) (tk tv : TE) (vs : List Nat) : TE := fun σ H Q => wi σ H fun J H1 => ∀ d, H1 d = none → ∃ Wn : Nat → Nat → Hp → Prop, (∃ m, Wn 0 m (upd H1 d (.dK []))) ∧ ∀ i m H, Wn i m H →
  (J.stop i H ∧ Q (.ref d) H) ∨ (J.go i H ∧ ∃ Nx : Hp → Prop, (∀ H', Nx H' → ∃ m', m' < m ∧ Wn (i + 1) m' H') ∧ ∀ x H', J.yld i H x H' → g x (L2.wipe σ vs) H' fun σ2 H2 => L2.wipe σ2 vs = L2.wipe σ vs ∧ tt σ2 H2 fun b H3 =>
    if b = true then tk σ2 H3 fun y H4 => tv σ2 H4 fun z H5 => PutAt d y z H5 Nx else Nx H3)
/-- with two clauses -/
def tDx2 (wi : TI) (g : TG) (tt : TT) (wi1 : TI) (g1 : TG) (tt1 : TT) (tk tv : TE) (vs vs1 : List Nat) : TE := fun σ H Q => wi σ H fun J H1 => ∀ d, H1 d = none → ∃ Wn : Nat → Nat → Hp → Prop, (∃ m, Wn 0 m (upd H1 d (.dK []))) ∧ ∀ i m H, Wn i m H →
  (J.stop i H ∧ Q (.ref d) H) ∨ (J.go i H ∧ ∃ Nx : Hp → Prop, (∀ H', Nx H' → ∃ m', m' < m ∧ Wn (i + 1) m' H') ∧ ∀ x H', J.yld i H x H' → g x (L2.wipe σ vs) H' fun σ2 H2 => L2.wipe σ2 vs = L2.wipe σ vs ∧ tt σ2 H2 fun b H3 =>
    if b = true then wi1 σ2 H3 fun J1 H4 => ∃ W1 : Nat → Nat → Hp → Prop, (∃ m, W1 0 m H4) ∧ ∀ j l H, W1 j l H →
      (J1.stop j H ∧ Nx H) ∨ (J1.go j H ∧ ∃ Nx1 : Hp → Prop, (∀ H', Nx1 H' → ∃ l', l' < l ∧ W1 (j + 1) l' H') ∧ ∀ x H', J1.yld j H x H' → g1 x (L2.wipe σ2 vs1) H' fun σ3 H5 => L2.wipe σ3 vs1 = L2.wipe σ2 vs1 ∧ tt1 σ3 H5 fun b H6 =>
        if b = true then tk σ3 H6 fun y H7 => tv σ3 H7 fun z H8 => PutAt d y z H8 Nx1 else Nx1 H6)
    else Nx H3)
section
variable {kx vx t0 i0 t1 i1 : Expr} {ifs0 ifs1 : List Expr} {scope : Scope} {pos : Pos} {prog : Program} {w : World} {A : Around} {R : Result → Shared → Prop} {s : Shared} {it acc : Value} {env : Env} {D : Addr}
abbrev noted (prog : Program) (w : World) (A : Around) (env : PySem.Env) (R : Result → Shared → Prop) : Value → Shared → Prop := notedBy (model prog w) A env fun e s' => R (.error e) s'
theorem turn_outer (kx vx t0 i0 t1 i1 : Expr) (ifs0 ifs1 : List Expr) (scope : Scope) (pos : Pos) (it acc : Value) (env : PySem.Env) :
    compTurn (.DictComp kx vx [⟨t0, i0, ifs0, 0⟩, ⟨t1, i1, ifs1, 0⟩] scope pos) 0 it acc env = (do
      standAt i0.pos
      match ← pyNext it with
      | none => pure (.done .next)
      | some given =>
        letOwnedTupleGo t0 it given
        assign t0 env given
        let mut fit := true
        for c in ifs0 do
          if fit then fit ← isTrue c env (eval c env)
        if fit then
          let src ← eval i1 env
          standAt i1.pos
          let src ← foldedSetIterable i1 env src
          let _ ← runOwn (.compStart (.DictComp kx vx [⟨t0, i0, ifs0, 0⟩, ⟨t1, i1, ifs1, 0⟩] scope pos) 1 (← holding [src] (pyIter src)) acc env) env
        again (.compLoop (.DictComp kx vx [⟨t0, i0, ifs0, 0⟩, ⟨t1, i1, ifs1, 0⟩] scope pos) 0 it acc env)) := by rfl
theorem turn_inner (kx vx t0 i0 t1 i1 : Expr) (ifs0 ifs1 : List Expr) (scope : Scope) (pos : Pos) (it : Value) (D : Addr) (env : PySem.Env) :
    compTurn (.DictComp kx vx [⟨t0, i0, ifs0, 0⟩, ⟨t1, i1, ifs1, 0⟩] scope pos) 1 it (.ref D) env = (do
      standAt i1.pos
      match ← pyNext it with
      | none => pure (.done .next)
      | some given =>
        letOwnedTupleGo t1 it given
        assign t1 env given
        let mut fit := true
        for c in ifs1 do
          if fit then fit ← isTrue c env (eval c env)
        if fit then
          (do
            let key ← eval kx env
            let val ← holding [key] (eval vx env)
            standAt { kx.pos with endLine := vx.pos.endLine, endCol := vx.pos.endCol }
            holding [key, val] (dictSet D key val))
        again (.compLoop (.DictComp kx vx [⟨t0, i0, ifs0, 0⟩, ⟨t1, i1, ifs1, 0⟩] scope pos) 1 it (.ref D) env)) := by rfl
/-- the outer loop -/
theorem loop_outer {env : PySem.Env} (hs : ∀ x, foldedSetIterable i1 env x = pure x) (Iv : Nat → Shared → Prop)
    (turn : ∀ n s, Iv n s → wpAny (model prog w) A (pyNext it) (fun r sa => match r with
      | none => R (.ok .next) sa
      | some given => wpAny (model prog w) A (letOwnedTupleGo t0 it given) (fun _ sb => wpAny (model prog w) A (assign t0 env given) (fun _ sc =>
          wpAny (model prog w) A (forIn ifs0 true fun c r => if r = true then do let fit ← isTrue c env (eval c env); pure (ForInStep.yield fit) else pure (ForInStep.yield r)) (fun fit sd =>
            if fit = true then wpAny (model prog w) A (eval i1 env) (fun src se => wpAny (model prog w) A (pyIter src) (fun itb sf =>
              codeAny (model prog w) A (.compStart (.DictComp kx vx [⟨t0, i0, ifs0, 0⟩, ⟨t1, i1, ifs1, 0⟩] scope pos) 1 itb acc env) (fun r s' => match r with
                | .ok _ => ∃ m, m < n ∧ Iv m s'
                | .error _ => False) sf) (noted prog w A env R) se) (noted prog w A env R) sd
            else ∃ m, m < n ∧ Iv m sd) (noted prog w A env R) sc) (noted prog w A env R) sb) (noted prog w A env R) sa) (noted prog w A env R) s)
    (n : Nat) (h : Iv n s) : codeAny (model prog w) A (.compLoop (.DictComp kx vx [⟨t0, i0, ifs0, 0⟩, ⟨t1, i1, ifs1, 0⟩] scope pos) 0 it acc env) R s := by
  refine codeAny_loop rfl Iv (fun n s hI => ?_) n h
  show wpAny _ A ((compTurn (.DictComp kx vx [⟨t0, i0, ifs0, 0⟩, ⟨t1, i1, ifs1, 0⟩] scope pos) 0 it acc env).onRaise (fun x => do noteFrame x env; theTreesLotGoes x)) _ _ s
  refine wpAny_noted ?_
  rw [turn_outer]
  refine wpAny_bind (wpAny_standAt (wpAny_bind (wpAny_mono (turn n s hI) (fun r sa ha => ?_) fun _ _ z => z)))
  cases r with
  | none => exact wpAny_pure ha
  | some given =>
    refine wpAny_bind (wpAny_mono ha (fun _ sb hb => ?_) fun _ _ z => z)
    refine wpAny_bind (wpAny_mono hb (fun _ sc hc => wpAny_bind (wpAny_mono hc (fun fit sd hd => ?_) fun _ _ z => z)) fun _ _ z => z)
    cases fit with
    | false => exact wpAny_pure ⟨rfl, hd⟩
    | true =>
      refine wpAny_bind (wpAny_mono hd (fun src se he => ?_) fun _ _ z => z)
      refine wpAny_bind (wpAny_standAt (wpAny_bind (wpAny_of_eq (hs src) (wpAny_bind (wpAny_holding (wpAny_mono he (fun itb sf hf => ?_) fun _ _ z => z))))))
      refine wpAny_bind (wpAny_runOwn ?_)
      rw [Around.mark_none]
      refine codeAny_mono hf fun r s' hr => ?_
      cases r with
      | ok f =>
        first
          | exact wpAny_pure ⟨rfl, hr⟩
          | exact wpAny_bind (wpAny_pure (wpAny_pure ⟨rfl, hr⟩))
      | error e => exact hr.elim
/-- the inner -/
theorem loop_inner {env : PySem.Env} (Iv : Nat → Shared → Prop)
    (turn : ∀ n s, Iv n s → wpAny (model prog w) A (pyNext it) (fun r sa => match r with
      | none => R (.ok .next) sa
      | some given => wpAny (model prog w) A (letOwnedTupleGo t1 it given) (fun _ sb => wpAny (model prog w) A (assign t1 env given) (fun _ sc =>
          wpAny (model prog w) A (forIn ifs1 true fun c r => if r = true then do let fit ← isTrue c env (eval c env); pure (ForInStep.yield fit) else pure (ForInStep.yield r)) (fun fit sd =>
            if fit = true then wpAny (model prog w) A (eval kx env) (fun key se => wpAny (model prog w) A (eval vx env) (fun val sf =>
              wpAny (model prog w) A (dictSet D key val) (fun _ sg => ∃ m, m < n ∧ Iv m sg) (noted prog w A env R) sf) (noted prog w A env R) se) (noted prog w A env R) sd
            else ∃ m, m < n ∧ Iv m sd) (noted prog w A env R) sc) (noted prog w A env R) sb) (noted prog w A env R) sa) (noted prog w A env R) s)
    (n : Nat) (h : Iv n s) : codeAny (model prog w) A (.compLoop (.DictComp kx vx [⟨t0, i0, ifs0, 0⟩, ⟨t1, i1, ifs1, 0⟩] scope pos) 1 it (.ref D) env) R s := by
  refine codeAny_loop rfl Iv (fun n s hI => ?_) n h
  show wpAny _ A ((compTurn (.DictComp kx vx [⟨t0, i0, ifs0, 0⟩, ⟨t1, i1, ifs1, 0⟩] scope pos) 1 it (.ref D) env).onRaise (fun x => do noteFrame x env; theTreesLotGoes x)) _ _ s
  refine wpAny_noted ?_
  rw [turn_inner]
  refine wpAny_bind (wpAny_standAt (wpAny_bind (wpAny_mono (turn n s hI) (fun r sa ha => ?_) fun _ _ z => z)))
  cases r with
  | none => exact wpAny_pure ha
  | some given =>
    refine wpAny_bind (wpAny_mono ha (fun _ sb hb => ?_) fun _ _ z => z)
    refine wpAny_bind (wpAny_mono hb (fun _ sc hc => wpAny_bind (wpAny_mono hc (fun fit sd hd => ?_) fun _ _ z => z)) fun _ _ z => z)
    cases fit with
    | false => exact wpAny_pure ⟨rfl, hd⟩
    | true =>
      exact wpAny_bind (wpAny_bind (wpAny_mono hd (fun key se he => wpAny_bind (wpAny_holding (wpAny_mono he (fun val sf hf => wpAny_bind (wpAny_standAt (wpAny_holding (wpAny_mono hf (fun _ sg hg => wpAny_pure ⟨rfl, hg⟩) fun _ _ z => z)))) fun _ _ z => z))) fun _ _ z => z))
theorem start_inner {env : PySem.Env} (h0 : codeAny (model prog w) A (.compLoop (.DictComp kx vx [⟨t0, i0, ifs0, 0⟩, ⟨t1, i1, ifs1, 0⟩] scope pos) 1 it acc env) R s)
    (h : wpAny (model prog w) A (pyIter it) (fun itb s' => codeAny (model prog w) A (.compLoop (.DictComp kx vx [⟨t0, i0, ifs0, 0⟩, ⟨t1, i1, ifs1, 0⟩] scope pos) 1 itb acc env) R s') (noted prog w A env R) s) :
    codeAny (model prog w) A (.compStart (.DictComp kx vx [⟨t0, i0, ifs0, 0⟩, ⟨t1, i1, ifs1, 0⟩] scope pos) 1 it acc env) R s := by
  refine codeAny_of_tree ?_
  show wpAny _ _ ((compStart (.DictComp kx vx [⟨t0, i0, ifs0, 0⟩, ⟨t1, i1, ifs1, 0⟩] scope pos) 1 it acc env).onRaise (fun x => do noteFrame x env; standAt theWindowsPlace)) _ _ s
  refine wpAny_notedAt ?_
  unfold compStart
  show wpAny _ _ (ask >>= _) _ _ s
  refine wpAny_bind (wpAny_askSetting (wpAny_ite ?_))
  split
  · first
      | exact wpAny_bind (wpAny_pure (wpAny_pure (And.intro rfl h0)))
      | exact wpAny_pure (And.intro rfl h0)
  · first
      | exact wpAny_bind (wpAny_rule (wpAny_bind (wpAny_standAt (wpAny_bind (wpAny_mono h (fun itb s' z => wpAny_pure (And.intro rfl z)) fun _ _ z => z)))))
      | (refine wpAny_bind (wpAny_rule ?_); show wpAny _ _ (standAt i1.pos >>= _) _ _ s; exact wpAny_bind (wpAny_standAt (wpAny_bind (wpAny_mono h (fun itb s' z => wpAny_pure (And.intro rfl z)) fun _ _ z => z))))
end
end PN
namespace PN
open PySem L2 PyProof.Rows
section
variable {X : Cx} {pins : List (Addr × Obj)} {s : Shared} {σ : L2.St} {H : Hp} {Q : VK} {kx vx tg iter tg1 iter1 : Expr} {ifs ifs1 : List Expr} {scope : Scope} {own : List (Str × Nat)} {vs1 : List Nat} {pos pos' : Pos} {wi wi1 : TI} {g g1 : TG} {tt tt1 : TT} {tk tv : TE} {use : Option (Value → Sem Unit)} {Qf : Value → Shared → Prop}
abbrev blkAt (X : Cx) (scope : Scope) (s : Shared) (H : Hp) (C : Addr) (cl : List (Str × Addr)) (fp : List Addr) : Cx := X.blk s H scope (compEnvC scope cl C X.env) fp
/-- what holds in every block -/
abbrev InBlk (X : Cx) (scope : Scope) (P : Cx → Prop) : Prop := ∀ (s : Shared) (H : Hp) (C : Addr) (cl : List (Str × Addr)) (fp : List Addr), P (blkAt X scope s H C cl fp)
theorem dx_core (hu : X.A.units + 1 < cLine) (hc : X.calm = true) (hN : X.N.Nodup) (I : L2.Inv X pins σ H s) (hi : PI X tg iter wi) (ok : BlkOk X.N X.env.scope scope own)
    (hg : InBlk X scope fun Y => PG Y tg g) (ht : InBlk X scope fun Y => PTs Y ifs tt) (hk : InBlk X scope fun Y => PE Y kx tk) (hv0 : InBlk X scope fun Y => PE Y vx tv) (hs : ∀ x, foldedSetIterable iter X.env x = pure x)
    (law : tDx wi g tt tk tv (own.map (·.2)) σ H Q)
    (ends : ∀ d C s' m H', L2.Inv X pins σ H' s' → Q (.ref d) H' → s'.heap.Ns C m → FpOk X pins H' C → compPost (model X.prog X.w) X.A X.xe use Qf (.ref d) C (.ok .next) s') :
    wpAny (model X.prog X.w) X.A (comprehension (.DictComp kx vx [⟨tg, iter, ifs, 0⟩] scope pos) scope X.env pos' newDict false (eval iter X.env) use) Qf X.xe s := by
  have caught : ∀ y ∈ scope.names, y.2 = .free → ∃ c, X.env.cells.lookup y.1 = some c := fun y hy e => (ok.free y hy e).elim (fun z => I.ok.has _ (.inl z)) fun z => I.ok.has _ (.inr z)
  refine wpAny_comprehension_free (use := use) rfl hs (closure_ok caught) ok.kind (fun y hy e => by rw [ok.uniq y hy, e]) (thn (hi.run pins s σ H _ I law) fun xv sa hx => thn hx fun itv sb hb => ?_)
  obtain ⟨it, fp, tn, J, Hb, ei, Ib, T, stb, fb, q⟩ := hb
  subst ei
  refine wpAny_newObj_type (newEnv_comp ?_)
  generalize ed : sb.heap.objs.size = d
  have dn : Hb d = none := Ib.hok.fresh (Nat.le_of_eq ed)
  obtain ⟨Wn, ⟨m0, w0⟩, turn⟩ := q d dn
  generalize ec : ({ sb with heap := sb.heap.push { cls := .type "dict", data := .dict #[] } } : Shared) = sc
  have Ic : L2.Inv X pins σ (upd Hb d (.dK [])) sc := by
    rw [← ec]
    refine Ib.laid (t' := sb.toks) (fun b o e => Heap.get?_push_of_some _ e) (Nat.le_of_eq ed) ?_
    rw [← ed]
    exact dk_empty sb.heap Ib.big
  have hc3 : sc.heap = sb.heap.push { cls := .type "dict", data := .dict #[] } := by rw [← ec]
  have below : ∀ b ∈ fp, b < sb.heap.objs.size := fun b hm => let ⟨o, e, _⟩ := T.obj _ _ stb b hm; Heap.lt_size e
  have fc : ∀ b ∈ fp, FpOk X pins (upd Hb d (.dK [])) b ∧ b < sc.heap.objs.size := fun b hm => by
    refine ⟨⟨?_, (fb b hm).2⟩, by rw [hc3, Heap.size_push]; exact Nat.lt_succ_of_lt (below b hm)⟩
    rw [upd_ne (by rw [← ed]; exact Nat.ne_of_lt (below b hm))]
    exact (fb b hm).1
  have stc : tn 0 sc.heap := T.keep _ _ _ stb fun b _ o e => by rw [hc3]; exact Heap.get?_push_of_some _ e
  have Id := block_start Ic ok hN fc
  have pg := hg sc (upd Hb d (.dK [])) sc.heap.objs.size (cellsFrom (sc.heap.objs.size + 1) scope.names (cloFrom X.env.cells scope.names [])) fp
  have pt := ht sc (upd Hb d (.dK [])) sc.heap.objs.size (cellsFrom (sc.heap.objs.size + 1) scope.names (cloFrom X.env.cells scope.names [])) fp
  have pk := hk sc (upd Hb d (.dK [])) sc.heap.objs.size (cellsFrom (sc.heap.objs.size + 1) scope.names (cloFrom X.env.cells scope.names [])) fp
  have pv := hv0 sc (upd Hb d (.dK [])) sc.heap.objs.size (cellsFrom (sc.heap.objs.size + 1) scope.names (cloFrom X.env.cells scope.names [])) fp
  have nofp : ∀ b ∈ fp, (upd Hb d (.dK [])) b = none := fun b hm => (fc b hm).1.1
  show codeAny _ _ (.compStart (.DictComp kx vx [⟨tg, iter, ifs, 0⟩] scope pos) 0 (.ref it) (.ref d) (compEnvC scope (cellsFrom (sc.heap.objs.size + 1) scope.names (cloFrom X.env.cells scope.names [])) sc.heap.objs.size X.env)) (compPost (model X.prog X.w) X.A X.xe use Qf (.ref d) sc.heap.objs.size) { sc with heap := pushCells (sc.heap.push { cls := .type "dict", data := .dict #[] }) scope.names }
  unfold blkAt at pg pt pk pv
  generalize ee : compEnvC scope (cellsFrom (sc.heap.objs.size + 1) scope.names (cloFrom X.env.cells scope.names [])) sc.heap.objs.size X.env = ce at Id pg pt pk pv ⊢
  have cl0 : ce.locals = sc.heap.objs.size := by subst ee; rfl
  generalize eh : upd Hb d (.dK []) = Hc at Ic Id pg pt pk pv w0 nofp fc
  generalize es : ({ sc with heap := pushCells (sc.heap.push { cls := .type "dict", data := .dict #[] }) scope.names } : Shared) = sd at Id ⊢
  have std : tn 0 sd.heap := T.keep _ _ _ stc fun b _ o e => by rw [← es]; exact pushCells_keeps _ _ _ _ (Heap.get?_push_of_some _ e)
  have stay : ∀ {σ' : L2.St} {H' : Hp} {s' : Shared}, L2.Inv (X.blk sc Hc scope ce fp) [] σ' H' s' → (∀ b ∈ fp, H' b = none) → ∀ b ∈ fp, FpOk (X.blk sc Hc scope ce fp) [] H' b := fun {σ' H' s'} I' hn b hm =>
    ⟨hn b hm, (I'.ok.exf b hm).1, I'.ok.exfs b hm, .inl hm, fun x c e => (I'.ok.exf b hm).2 x c e, fun p hp => absurd (show p ∈ ([] : List (Addr × Obj)) ++ [] from hp) (by simp)⟩
  have loop : codeAny (model X.prog X.w) X.A (.compLoop (.DictComp kx vx [⟨tg, iter, ifs, 0⟩] scope pos) 0 (.ref it) (.ref d) ce) (compPost (model X.prog X.w) X.A X.xe use Qf (.ref d) sc.heap.objs.size) sd := by
    refine compLoop_anyD (fun n s' => ∃ i H', L2.Inv (X.blk sc Hc scope ce fp) [] (L2.wipe σ (own.map (·.2))) H' s' ∧ tn i s'.heap ∧ (∀ b ∈ fp, H' b = none) ∧ Wn i n H') ?_ m0 ⟨0, Hc, Id, std, nofp, w0⟩
    rintro n se ⟨i, He, Ie, ste, ne, we⟩
    rcases turn i n He we with ⟨stop, fin⟩ | ⟨go, Nx, hNx, step⟩
    · refine thnF (T.done (X.blk sc Hc scope ce fp) rfl rfl rfl hc i [] se _ He (fun _ _ => False) Ie (stay Ie ne) ste stop) fun r sf ⟨hr, If⟩ => ?_
      subst hr
      have Ig : L2.Inv X pins σ He sf := Ic.call' (ch := fp) If.os If.base If.hok If.bare fun b hm => ⟨(fc b hm).1.2.2.2.1, (fc b hm).1.2.1, (fc b hm).1.2.2.2.2.1, (fc b hm).1.2.2.2.2.2⟩
      have nC : He sc.heap.objs.size = none := by
        have z : He ce.locals = none := If.free
        rwa [cl0] at z
      obtain ⟨m, hn, _⟩ := If.loc
      have hn : sf.heap.Ns ce.locals m := hn
      rw [cl0] at hn
      exact ends d sc.heap.objs.size sf m He Ig fin hn (Ic.fpOk (Nat.le_refl _) nC)
    · refine thnF (T.item (X.blk sc Hc scope ce fp) rfl rfl rfl hc i [] se _ He (fun _ _ => False) Ie (stay Ie ne) ste go) fun r sf ⟨u, hr, hf⟩ => ?_
      subst hr
      refine thnF hf fun _ sg ⟨x, Hg, Ig, rg, yg, stg, ng⟩ => ?_
      have Ig' := Ig.pinned (stay Ig ng) (T.obj _ _ stg)
      refine thnF (pg.run _ sg _ Hg x u _ Ig' rg (step x Hg yg)) fun _ sh ⟨σh, Hh, Ih, hw, qh⟩ => ?_
      refine thnF (pt.run _ sh σh Hh _ Ih qh) fun b si ⟨Hi, Ii, qi⟩ => ?_
      have again : ∀ {σz : L2.St} {s' : Shared} {H' : Hp}, L2.Inv (X.blk sc Hc scope ce fp) ([] ++ pinsAt fp sg.heap) σz H' s' → (L2.wipe σ (own.map (·.2))).length = σz.length → (∀ (j : Nat) v, (L2.wipe σ (own.map (·.2)))[j]? = some (some v) → σz[j]? = some (some v)) → Nx H' →
          ∃ m, m < n ∧ ∃ i H', L2.Inv (X.blk sc Hc scope ce fp) [] (L2.wipe σ (own.map (·.2))) H' s' ∧ tn i s'.heap ∧ (∀ b ∈ fp, H' b = none) ∧ Wn i m H' := fun {σz s' H'} I' hl hz nx => by
        obtain ⟨m', hm, w'⟩ := hNx H' nx
        have pin' : ∀ b ∈ fp, ∀ o, sg.heap.get? b = some o → s'.heap.get? b = some o ∧ H' b = none := fun b hb o e =>
          let z := I'.pin (b, o) (List.mem_append_right _ (List.mem_append_right _ (mem_pinsAt hb e)))
          ⟨z.1, z.2.1⟩
        refine ⟨m', hm, i + 1, H', (I'.unpinned (pins := [])).weak hl hz, T.keep _ _ _ stg fun b hb o e => (pin' b hb o e).1, fun b hb => ?_, w'⟩
        obtain ⟨o, e, _⟩ := T.obj _ _ stg b hb
        exact (pin' b hb o e).2
      have lenh : (L2.wipe σ (own.map (·.2))).length = σh.length := by rw [← hw, wipe_length]
      have knowh : ∀ (j : Nat) v, (L2.wipe σ (own.map (·.2)))[j]? = some (some v) → σh[j]? = some (some v) := fun j v e => by
        rw [← hw] at e
        exact (wipe_some e).1
      cases b with
      | false =>
        simp only [Bool.false_eq_true, if_false] at qi ⊢
        exact again Ii lenh knowh qi
      | true =>
        simp only [if_true] at qi ⊢
        refine thnF (pk.run _ si σh Hi _ Ii qi) fun zk sj ⟨yk, Hj, Ij, rj, qj⟩ => ?_
        refine thnF (pv.run _ sj σh Hj _ Ij qj) fun zv sk ⟨yv, Hk, Ik, rk, put⟩ => ?_
        exact put_at (X := X.blk sc Hc scope ce fp) hu Ik put rj rk fun H2 sl Il nx => again Il lenh knowh nx
  exact codeAny_compStart_dict loop (T.self X.A 0 _ _ _ std loop)
theorem pe_dx (hu : X.A.units + 1 < cLine) (hc : X.calm = true) (hN : X.N.Nodup) (hi : PI X tg iter wi) (ok : BlkOk X.N X.env.scope scope own)
    (hg : InBlk X scope fun Y => PG Y tg g) (ht : InBlk X scope fun Y => PTs Y ifs tt) (hk : InBlk X scope fun Y => PE Y kx tk) (hv0 : InBlk X scope fun Y => PE Y vx tv) (hs : ∀ x, foldedSetIterable iter X.env x = pure x) : PE X (.DictComp kx vx [⟨tg, iter, ifs, 0⟩] scope pos) (tDx wi g tt tk tv (own.map (·.2))) := by
  refine ⟨fun pins s σ H Q I law => ?_⟩
  rw [arm_eval_DictComp]
  refine dx_core hu hc hN I hi ok hg ht hk hv0 hs law fun d C s' m H' I' q hn f => ⟨m, hn, fun h2 sm => ?_⟩
  exact ⟨.ref d, H', I'.turned (t' := s'.toks) (fun b o hb e => (sm.2 b hb).trans e) f.1 f.2.1 f.2.2.2.1 f.2.2.2.2.1 f.2.2.2.2.2, rfl, q⟩
theorem ps_dx {i : Nat} {y : Str} {py spos : Pos} (hu : X.A.units + 1 < cLine) (hc : X.calm = true) (hN : X.N.Nodup) (hy : X.N[i]? = some y) (hyl : X.env.scope.names.lookup y = some .local) (hi : PI X tg iter wi) (ok : BlkOk X.N X.env.scope scope own)
    (hg : InBlk X scope fun Y => PG Y tg g) (ht : InBlk X scope fun Y => PTs Y ifs tt) (hk : InBlk X scope fun Y => PE Y kx tk) (hv0 : InBlk X scope fun Y => PE Y vx tv) (hs : ∀ x, foldedSetIterable iter X.env x = pure x)
    (hsw : swapsWith (.DictComp kx vx [⟨tg, iter, ifs, 0⟩] scope pos) (some (.Name y py)) spos.line X.env = pure true) : PS X (.Assign [.Name y py] (.DictComp kx vx [⟨tg, iter, ifs, 0⟩] scope pos) spos) (tAsg (tDx wi g tt tk tv (own.map (·.2))) (gName i)) := by
  refine ⟨fun pins s σ H B I law => ?_⟩
  rw [exec_Assign_Name_used _ _ _ _ hsw]
  refine wpAny_bind (wpAny_standAt (wpAny_bind ?_))
  show wpAny _ X.A (do let _ ← comprehension (.DictComp kx vx [⟨tg, iter, ifs, 0⟩] scope pos) scope X.env (firstIterPos [⟨tg, iter, ifs, 0⟩] pos) newDict false (eval iter X.env) (some (assign (.Name y py) X.env))) _ _ s
  have law' : (tDx wi g tt tk tv (own.map (·.2))) σ H (fun x H1 => gName i x σ H1 B.nx) := law
  refine wpAny_bind (thn (dx_core (Qf := fun _ s' => SP X pins B .next s') hu hc hN I hi ok hg ht hk hv0 hs law' fun d C s' m H' I' q hn f => ?_) fun _ s' hq => wpAny_pure (wpAny_pure hq))
  show wpAny _ _ (assign (.Name y py) X.env (.ref d)) _ _ _
  refine wpAny_assign_Name (store_ok2 (v := V.ref d) I' hN hy (.inl hyl) rfl (fun s2 I2 ⟨a, sm, ha⟩ => ?_) (.inr hyl))
  have away : C ≠ a := by
    rcases ha with z | z
    · rw [z]; exact f.2.1
    · exact fun e => f.2.2.2.2.1 y a z e.symm
  refine ⟨m, hn.sameBut sm away, fun h3 sm3 => ?_⟩
  exact ⟨_, H', I2.turned (t' := s2.toks) (fun b o hb e => (sm3.2 b hb).trans e) f.1 f.2.1 f.2.2.2.1 f.2.2.2.2.1 f.2.2.2.2.2, q⟩
theorem dx2_core (hu : X.A.units + 1 < cLine) (hc : X.calm = true) (hN : X.N.Nodup) (I : L2.Inv X pins σ H s) (hi : PI X tg iter wi) (ok : BlkOk X.N X.env.scope scope own)
    (hg : InBlk X scope fun Y => PG Y tg g) (ht : InBlk X scope fun Y => PTs Y ifs tt) (hk : InBlk X scope fun Y => PE Y kx tk) (hv0 : InBlk X scope fun Y => PE Y vx tv) (hs : ∀ x, foldedSetIterable iter X.env x = pure x)
    (hv : ∀ i ∈ vs1, i ∈ own.map (·.2)) (hi1 : InBlk X scope fun Y => PI Y tg1 iter1 wi1) (hg1 : InBlk X scope fun Y => PG Y tg1 g1) (ht1 : InBlk X scope fun Y => PTs Y ifs1 tt1) (hs1 : ∀ env x, foldedSetIterable iter1 env x = pure x)
    (law : tDx2 wi g tt wi1 g1 tt1 tk tv (own.map (·.2)) vs1 σ H Q)
    (ends : ∀ d C s' m H', L2.Inv X pins σ H' s' → Q (.ref d) H' → s'.heap.Ns C m → FpOk X pins H' C → compPost (model X.prog X.w) X.A X.xe use Qf (.ref d) C (.ok .next) s') :
    wpAny (model X.prog X.w) X.A (comprehension (.DictComp kx vx [⟨tg, iter, ifs, 0⟩, ⟨tg1, iter1, ifs1, 0⟩] scope pos) scope X.env pos' newDict false (eval iter X.env) use) Qf X.xe s := by
  have caught : ∀ y ∈ scope.names, y.2 = .free → ∃ c, X.env.cells.lookup y.1 = some c := fun y hy e => (ok.free y hy e).elim (fun z => I.ok.has _ (.inl z)) fun z => I.ok.has _ (.inr z)
  refine wpAny_comprehension_free (use := use) rfl hs (closure_ok caught) ok.kind (fun y hy e => by rw [ok.uniq y hy, e]) (thn (hi.run pins s σ H _ I law) fun xv sa hx => thn hx fun itv sb hb => ?_)
  obtain ⟨it, fp, tn, J, Hb, ei, Ib, T, stb, fb, q⟩ := hb
  subst ei
  refine wpAny_newObj_type (newEnv_comp ?_)
  generalize ed : sb.heap.objs.size = d
  have dn : Hb d = none := Ib.hok.fresh (Nat.le_of_eq ed)
  obtain ⟨Wn, ⟨m0, w0⟩, turn⟩ := q d dn
  generalize ec : ({ sb with heap := sb.heap.push { cls := .type "dict", data := .dict #[] } } : Shared) = sc
  have Ic : L2.Inv X pins σ (upd Hb d (.dK [])) sc := by
    rw [← ec]
    refine Ib.laid (t' := sb.toks) (fun b o e => Heap.get?_push_of_some _ e) (Nat.le_of_eq ed) ?_
    rw [← ed]
    exact dk_empty sb.heap Ib.big
  have hc3 : sc.heap = sb.heap.push { cls := .type "dict", data := .dict #[] } := by rw [← ec]
  have below : ∀ b ∈ fp, b < sb.heap.objs.size := fun b hm => let ⟨o, e, _⟩ := T.obj _ _ stb b hm; Heap.lt_size e
  have fc : ∀ b ∈ fp, FpOk X pins (upd Hb d (.dK [])) b ∧ b < sc.heap.objs.size := fun b hm => by
    refine ⟨⟨?_, (fb b hm).2⟩, by rw [hc3, Heap.size_push]; exact Nat.lt_succ_of_lt (below b hm)⟩
    rw [upd_ne (by rw [← ed]; exact Nat.ne_of_lt (below b hm))]
    exact (fb b hm).1
  have stc : tn 0 sc.heap := T.keep _ _ _ stb fun b _ o e => by rw [hc3]; exact Heap.get?_push_of_some _ e
  have Id := block_start Ic ok hN fc
  have pg := hg sc (upd Hb d (.dK [])) sc.heap.objs.size (cellsFrom (sc.heap.objs.size + 1) scope.names (cloFrom X.env.cells scope.names [])) fp
  have pt := ht sc (upd Hb d (.dK [])) sc.heap.objs.size (cellsFrom (sc.heap.objs.size + 1) scope.names (cloFrom X.env.cells scope.names [])) fp
  have pk := hk sc (upd Hb d (.dK [])) sc.heap.objs.size (cellsFrom (sc.heap.objs.size + 1) scope.names (cloFrom X.env.cells scope.names [])) fp
  have pv := hv0 sc (upd Hb d (.dK [])) sc.heap.objs.size (cellsFrom (sc.heap.objs.size + 1) scope.names (cloFrom X.env.cells scope.names [])) fp
  have pi1 := hi1 sc (upd Hb d (.dK [])) sc.heap.objs.size (cellsFrom (sc.heap.objs.size + 1) scope.names (cloFrom X.env.cells scope.names [])) fp
  have pg1 := hg1 sc (upd Hb d (.dK [])) sc.heap.objs.size (cellsFrom (sc.heap.objs.size + 1) scope.names (cloFrom X.env.cells scope.names [])) fp
  have pt1 := ht1 sc (upd Hb d (.dK [])) sc.heap.objs.size (cellsFrom (sc.heap.objs.size + 1) scope.names (cloFrom X.env.cells scope.names [])) fp
  have nofp : ∀ b ∈ fp, (upd Hb d (.dK [])) b = none := fun b hm => (fc b hm).1.1
  show codeAny _ _ (.compStart (.DictComp kx vx [⟨tg, iter, ifs, 0⟩, ⟨tg1, iter1, ifs1, 0⟩] scope pos) 0 (.ref it) (.ref d) (compEnvC scope (cellsFrom (sc.heap.objs.size + 1) scope.names (cloFrom X.env.cells scope.names [])) sc.heap.objs.size X.env)) (compPost (model X.prog X.w) X.A X.xe use Qf (.ref d) sc.heap.objs.size) { sc with heap := pushCells (sc.heap.push { cls := .type "dict", data := .dict #[] }) scope.names }
  unfold blkAt at pg pt pk pv pi1 pg1 pt1
  generalize ee : compEnvC scope (cellsFrom (sc.heap.objs.size + 1) scope.names (cloFrom X.env.cells scope.names [])) sc.heap.objs.size X.env = ce at Id pg pt pk pv pi1 pg1 pt1 ⊢
  have cl0 : ce.locals = sc.heap.objs.size := by subst ee; rfl
  generalize eh : upd Hb d (.dK []) = Hc at Ic Id pg pt pk pv pi1 pg1 pt1 w0 nofp fc
  generalize es : ({ sc with heap := pushCells (sc.heap.push { cls := .type "dict", data := .dict #[] }) scope.names } : Shared) = sd at Id ⊢
  have std : tn 0 sd.heap := T.keep _ _ _ stc fun b _ o e => by rw [← es]; exact pushCells_keeps _ _ _ _ (Heap.get?_push_of_some _ e)
  have stay : ∀ {σ' : L2.St} {H' : Hp} {s' : Shared}, L2.Inv (X.blk sc Hc scope ce fp) [] σ' H' s' → (∀ b ∈ fp, H' b = none) → ∀ b ∈ fp, FpOk (X.blk sc Hc scope ce fp) [] H' b := fun {σ' H' s'} I' hn b hm =>
    ⟨hn b hm, (I'.ok.exf b hm).1, I'.ok.exfs b hm, .inl hm, fun x c e => (I'.ok.exf b hm).2 x c e, fun p hp => absurd (show p ∈ ([] : List (Addr × Obj)) ++ [] from hp) (by simp)⟩
  have loop : codeAny (model X.prog X.w) X.A (.compLoop (.DictComp kx vx [⟨tg, iter, ifs, 0⟩, ⟨tg1, iter1, ifs1, 0⟩] scope pos) 0 (.ref it) (.ref d) ce) (compPost (model X.prog X.w) X.A X.xe use Qf (.ref d) sc.heap.objs.size) sd := by
    refine loop_outer (hs1 ce) (fun n s' => ∃ i H', L2.Inv (X.blk sc Hc scope ce fp) [] (L2.wipe σ (own.map (·.2))) H' s' ∧ tn i s'.heap ∧ (∀ b ∈ fp, H' b = none) ∧ Wn i n H') ?_ m0 ⟨0, Hc, Id, std, nofp, w0⟩
    rintro n se ⟨i, He, Ie, ste, ne, we⟩
    rcases turn i n He we with ⟨stop, fin⟩ | ⟨go, Nx, hNx, step⟩
    · refine thnF (T.done (X.blk sc Hc scope ce fp) rfl rfl rfl hc i [] se _ He (fun _ _ => False) Ie (stay Ie ne) ste stop) fun r sf ⟨hr, If⟩ => ?_
      subst hr
      have Ig : L2.Inv X pins σ He sf := Ic.call' (ch := fp) If.os If.base If.hok If.bare fun b hm => ⟨(fc b hm).1.2.2.2.1, (fc b hm).1.2.1, (fc b hm).1.2.2.2.2.1, (fc b hm).1.2.2.2.2.2⟩
      have nC : He sc.heap.objs.size = none := by
        have z : He ce.locals = none := If.free
        rwa [cl0] at z
      obtain ⟨m, hn, _⟩ := If.loc
      have hn : sf.heap.Ns ce.locals m := hn
      rw [cl0] at hn
      exact ends d sc.heap.objs.size sf m He Ig fin hn (Ic.fpOk (Nat.le_refl _) nC)
    · refine thnF (T.item (X.blk sc Hc scope ce fp) rfl rfl rfl hc i [] se _ He (fun _ _ => False) Ie (stay Ie ne) ste go) fun r sf ⟨u, hr, hf⟩ => ?_
      subst hr
      refine thnF hf fun _ sg ⟨x, Hg, Ig, rg, yg, stg, ng⟩ => ?_
      have Ig' := Ig.pinned (stay Ig ng) (T.obj _ _ stg)
      refine thnF (pg.run _ sg _ Hg x u _ Ig' rg (step x Hg yg)) fun _ sh ⟨σh, Hh, Ih, hw, qh⟩ => ?_
      refine thnF (pt.run _ sh σh Hh _ Ih qh) fun b si ⟨Hi, Ii, qi⟩ => ?_
      have again : ∀ {σz : L2.St} {s' : Shared} {H' : Hp}, L2.Inv (X.blk sc Hc scope ce fp) ([] ++ pinsAt fp sg.heap) σz H' s' → (L2.wipe σ (own.map (·.2))).length = σz.length → (∀ (j : Nat) v, (L2.wipe σ (own.map (·.2)))[j]? = some (some v) → σz[j]? = some (some v)) → Nx H' →
          ∃ m, m < n ∧ ∃ i H', L2.Inv (X.blk sc Hc scope ce fp) [] (L2.wipe σ (own.map (·.2))) H' s' ∧ tn i s'.heap ∧ (∀ b ∈ fp, H' b = none) ∧ Wn i m H' := fun {σz s' H'} I' hl hz nx => by
        obtain ⟨m', hm, w'⟩ := hNx H' nx
        have pin' : ∀ b ∈ fp, ∀ o, sg.heap.get? b = some o → s'.heap.get? b = some o ∧ H' b = none := fun b hb o e =>
          let z := I'.pin (b, o) (List.mem_append_right _ (List.mem_append_right _ (mem_pinsAt hb e)))
          ⟨z.1, z.2.1⟩
        refine ⟨m', hm, i + 1, H', (I'.unpinned (pins := [])).weak hl hz, T.keep _ _ _ stg fun b hb o e => (pin' b hb o e).1, fun b hb => ?_, w'⟩
        obtain ⟨o, e, _⟩ := T.obj _ _ stg b hb
        exact (pin' b hb o e).2
      have lenh : (L2.wipe σ (own.map (·.2))).length = σh.length := by rw [← hw, wipe_length]
      have knowh : ∀ (j : Nat) v, (L2.wipe σ (own.map (·.2)))[j]? = some (some v) → σh[j]? = some (some v) := fun j v e => by
        rw [← hw] at e
        exact (wipe_some e).1
      have know1 : ∀ (j : Nat) v, (L2.wipe σ (own.map (·.2)))[j]? = some (some v) → (L2.wipe σh vs1)[j]? = some (some v) := fun j v e => by
        rw [← hw] at e
        obtain ⟨e1, e2⟩ := wipe_some e
        rw [wipe_out fun z => e2 (hv j z)]
        exact e1
      cases b with
      | false =>
        simp only [Bool.false_eq_true, if_false] at qi ⊢
        exact again Ii lenh knowh qi
      | true =>
        simp only [if_true] at qi ⊢
        refine thnF (pi1.run _ si σh Hi _ Ii qi) fun xv sj hx => thnF hx fun itv sk hk' => ?_
        obtain ⟨itb, fpb, tnb, Jb, Hk, eb, Ik, Tb, stk, fk, Wb, ⟨mb, wb⟩, turnb⟩ := hk'
        subst eb
        have stayb : ∀ {H' : Hp}, (∀ b ∈ fpb, H' b = none) → ∀ b ∈ fpb, FpOk (X.blk sc Hc scope ce fp) ([] ++ pinsAt fp sg.heap) H' b := fun hn b hm => ⟨hn b hm, (fk b hm).2⟩
        have loopb : codeAny (model X.prog X.w) X.A (.compLoop (.DictComp kx vx [⟨tg, iter, ifs, 0⟩, ⟨tg1, iter1, ifs1, 0⟩] scope pos) 1 (.ref itb) (.ref d) ce)
            (fun r s' => match r with
              | .ok _ => ∃ m, m < n ∧ ∃ i H', L2.Inv (X.blk sc Hc scope ce fp) [] (L2.wipe σ (own.map (·.2))) H' s' ∧ tn i s'.heap ∧ (∀ b ∈ fp, H' b = none) ∧ Wn i m H'
              | .error _ => False) sk := by
          refine loop_inner (fun l s' => ∃ j H', L2.Inv (X.blk sc Hc scope ce fp) ([] ++ pinsAt fp sg.heap) (L2.wipe σh vs1) H' s' ∧ tnb j s'.heap ∧ (∀ b ∈ fpb, H' b = none) ∧ Wb j l H') ?_ mb ⟨0, Hk, Ik.weak (wipe_length _ _) (fun j v e => (wipe_some e).1), stk, fun b hm => (fk b hm).1, wb⟩
          rintro l sl ⟨j, Hl, Il, stl, nl, wl⟩
          rcases turnb j l Hl wl with ⟨stopb, nxb⟩ | ⟨gob, Nxb, hNxb, stepb⟩
          · refine thnF (Tb.done (X.blk sc Hc scope ce fp) rfl rfl rfl hc j _ sl (L2.wipe σh vs1) Hl (fun _ _ => False) Il (stayb nl) stl stopb) fun r sm ⟨hr, Im⟩ => ?_
            subst hr
            exact again Im (lenh.trans (wipe_length σh vs1).symm) know1 nxb
          · refine thnF (Tb.item (X.blk sc Hc scope ce fp) rfl rfl rfl hc j _ sl (L2.wipe σh vs1) Hl (fun _ _ => False) Il (stayb nl) stl gob) fun r sm ⟨ub, hr, hm0⟩ => ?_
            subst hr
            refine thnF hm0 fun _ sn ⟨xb, Hn, In, rn, yn, stn, nn⟩ => ?_
            have In' := In.pinned (stayb nn) (Tb.obj _ _ stn)
            refine thnF (pg1.run _ sn (L2.wipe σh vs1) Hn xb ub _ In' rn (stepb xb Hn yn)) fun _ so ⟨σo, Ho, Io, hwo, qo⟩ => ?_
            refine thnF (pt1.run _ so σo Ho _ Io qo) fun b1 sp ⟨Hp', Ip, qp⟩ => ?_
            have againb : ∀ {s' : Shared} {H' : Hp}, L2.Inv (X.blk sc Hc scope ce fp) (([] ++ pinsAt fp sg.heap) ++ pinsAt fpb sn.heap) σo H' s' → Nxb H' → ∃ m, m < l ∧ ∃ j H', L2.Inv (X.blk sc Hc scope ce fp) ([] ++ pinsAt fp sg.heap) (L2.wipe σh vs1) H' s' ∧ tnb j s'.heap ∧ (∀ b ∈ fpb, H' b = none) ∧ Wb j m H' := fun {s' H'} I' nx => by
              obtain ⟨m', hm, w'⟩ := hNxb H' nx
              have pin' : ∀ b ∈ fpb, ∀ o, sn.heap.get? b = some o → s'.heap.get? b = some o ∧ H' b = none := fun b hb o e =>
                let z := I'.pin (b, o) (List.mem_append_right _ (List.mem_append_right _ (mem_pinsAt hb e)))
                ⟨z.1, z.2.1⟩
              refine ⟨m', hm, j + 1, H', I'.unpinned.weak (by rw [← hwo, wipe_length]) (fun j v e => by rw [← hwo] at e; exact (wipe_some e).1), Tb.keep _ _ _ stn fun b hb o e => (pin' b hb o e).1, fun b hb => ?_, w'⟩
              obtain ⟨o, e, _⟩ := Tb.obj _ _ stn b hb
              exact (pin' b hb o e).2
            cases b1 with
            | false =>
              simp only [Bool.false_eq_true, if_false] at qp ⊢
              exact againb Ip qp
            | true =>
              simp only [if_true] at qp ⊢
              refine thnF (pk.run _ sp σo Hp' _ Ip qp) fun zk sq ⟨yk, Hq, Iq, rq, qq⟩ => ?_
              refine thnF (pv.run _ sq σo Hq _ Iq qq) fun zv sr ⟨yv, Hr, Ir, rr, put⟩ => ?_
              exact put_at (X := X.blk sc Hc scope ce fp) hu Ir put rq rr fun H2 st It nx => againb It nx
        exact start_inner loopb (Tb.self X.A 0 _ _ _ stk loopb)
  exact codeAny_compStart_dict loop (T.self X.A 0 _ _ _ std loop)
theorem pe_dx2 (hu : X.A.units + 1 < cLine) (hc : X.calm = true) (hN : X.N.Nodup) (hi : PI X tg iter wi) (ok : BlkOk X.N X.env.scope scope own)
    (hg : InBlk X scope fun Y => PG Y tg g) (ht : InBlk X scope fun Y => PTs Y ifs tt) (hk : InBlk X scope fun Y => PE Y kx tk) (hv0 : InBlk X scope fun Y => PE Y vx tv) (hs : ∀ x, foldedSetIterable iter X.env x = pure x)
    (hv : ∀ i ∈ vs1, i ∈ own.map (·.2)) (hi1 : InBlk X scope fun Y => PI Y tg1 iter1 wi1) (hg1 : InBlk X scope fun Y => PG Y tg1 g1) (ht1 : InBlk X scope fun Y => PTs Y ifs1 tt1) (hs1 : ∀ env x, foldedSetIterable iter1 env x = pure x) : PE X (.DictComp kx vx [⟨tg, iter, ifs, 0⟩, ⟨tg1, iter1, ifs1, 0⟩] scope pos) (tDx2 wi g tt wi1 g1 tt1 tk tv (own.map (·.2)) vs1) := by
  refine ⟨fun pins s σ H Q I law => ?_⟩
  rw [arm_eval_DictComp]
  refine dx2_core hu hc hN I hi ok hg ht hk hv0 hs hv hi1 hg1 ht1 hs1 law fun d C s' m H' I' q hn f => ⟨m, hn, fun h2 sm => ?_⟩
  exact ⟨.ref d, H', I'.turned (t' := s'.toks) (fun b o hb e => (sm.2 b hb).trans e) f.1 f.2.1 f.2.2.2.1 f.2.2.2.2.1 f.2.2.2.2.2, rfl, q⟩
theorem ps_dx2 {i : Nat} {y : Str} {py spos : Pos} (hu : X.A.units + 1 < cLine) (hc : X.calm = true) (hN : X.N.Nodup) (hy : X.N[i]? = some y) (hyl : X.env.scope.names.lookup y = some .local) (hi : PI X tg iter wi) (ok : BlkOk X.N X.env.scope scope own)
    (hg : InBlk X scope fun Y => PG Y tg g) (ht : InBlk X scope fun Y => PTs Y ifs tt) (hk : InBlk X scope fun Y => PE Y kx tk) (hv0 : InBlk X scope fun Y => PE Y vx tv) (hs : ∀ x, foldedSetIterable iter X.env x = pure x)
    (hv : ∀ i ∈ vs1, i ∈ own.map (·.2)) (hi1 : InBlk X scope fun Y => PI Y tg1 iter1 wi1) (hg1 : InBlk X scope fun Y => PG Y tg1 g1) (ht1 : InBlk X scope fun Y => PTs Y ifs1 tt1) (hs1 : ∀ env x, foldedSetIterable iter1 env x = pure x)
    (hsw : swapsWith (.DictComp kx vx [⟨tg, iter, ifs, 0⟩, ⟨tg1, iter1, ifs1, 0⟩] scope pos) (some (.Name y py)) spos.line X.env = pure true) : PS X (.Assign [.Name y py] (.DictComp kx vx [⟨tg, iter, ifs, 0⟩, ⟨tg1, iter1, ifs1, 0⟩] scope pos) spos) (tAsg (tDx2 wi g tt wi1 g1 tt1 tk tv (own.map (·.2)) vs1) (gName i)) := by
  refine ⟨fun pins s σ H B I law => ?_⟩
  rw [exec_Assign_Name_used _ _ _ _ hsw]
  refine wpAny_bind (wpAny_standAt (wpAny_bind ?_))
  show wpAny _ X.A (do let _ ← comprehension (.DictComp kx vx [⟨tg, iter, ifs, 0⟩, ⟨tg1, iter1, ifs1, 0⟩] scope pos) scope X.env (firstIterPos [⟨tg, iter, ifs, 0⟩, ⟨tg1, iter1, ifs1, 0⟩] pos) newDict false (eval iter X.env) (some (assign (.Name y py) X.env))) _ _ s
  have law' : (tDx2 wi g tt wi1 g1 tt1 tk tv (own.map (·.2)) vs1) σ H (fun x H1 => gName i x σ H1 B.nx) := law
  refine wpAny_bind (thn (dx2_core (Qf := fun _ s' => SP X pins B .next s') hu hc hN I hi ok hg ht hk hv0 hs hv hi1 hg1 ht1 hs1 law' fun d C s' m H' I' q hn f => ?_) fun _ s' hq => wpAny_pure (wpAny_pure hq))
  show wpAny _ _ (assign (.Name y py) X.env (.ref d)) _ _ _
  refine wpAny_assign_Name (store_ok2 (v := V.ref d) I' hN hy (.inl hyl) rfl (fun s2 I2 ⟨a, sm, ha⟩ => ?_) (.inr hyl))
  have away : C ≠ a := by
    rcases ha with z | z
    · rw [z]; exact f.2.1
    · exact fun e => f.2.2.2.2.1 y a z e.symm
  refine ⟨m, hn.sameBut sm away, fun h3 sm3 => ?_⟩
  exact ⟨_, H', I2.turned (t' := s2.toks) (fun b o hb e => (sm3.2 b hb).trans e) f.1 f.2.1 f.2.2.2.1 f.2.2.2.2.1 f.2.2.2.2.2, q⟩
end
end PN
namespace PN
open PySem L2 PyProof.Rows
/-! ## dict comprehensions, reckoned -/
def dDcI (nx : Nx) (g : Sg) (t : St') (fk fv : Se) (env : Env) : Nat → Nat → List (D × D) → Hd → Rs (List (D × D))
  | 0, _, _, _ => .bad
  | n + 1, i, acc, h => match nx i h with
    | none => .bad
    | some none => .ok acc h
    | some (some d) => match g d env h with
      | .nx e1 h1 => (t e1 h1).ne.bind fun b h2 => if b = true then (fk e1 h2).ne.bind fun y h3 => (fv e1 h3).ne.bind fun z h4 => if keyFits acc y = true ∧ acc.length < BIG then dDcI nx g t fk fv env n (i + 1) (dput acc y z) h4 else .bad
        else dDcI nx g t fk fv env n (i + 1) acc h2
      | _ => .bad
def dDc (s : Si) (g : Sg) (t : St') (fk fv : Se) (vs : List Nat) : Se := fun env h => (s env h).bind fun nx h1 => (dDcI nx g t fk fv (wipeE env vs) BIG 0 [] h1).bind fun acc h2 => .ok (.ref h2.length) (h2 ++ [.dic acc])
def dDcO (nx : Nx) (g : Sg) (t : St') (s1 : Si) (g1 : Sg) (t1 : St') (fk fv : Se) (env : Env) (vs1 : List Nat) : Nat → Nat → List (D × D) → Hd → Rs (List (D × D))
  | 0, _, _, _ => .bad
  | n + 1, i, acc, h => match nx i h with
    | none => .bad
    | some none => .ok acc h
    | some (some d) => match g d env h with
      | .nx e1 h1 => (t e1 h1).ne.bind fun b h2 => if b = true then (s1 e1 h2).ne.bind fun nx1 h3 => (dDcI nx1 g1 t1 fk fv (wipeE e1 vs1) BIG 0 acc h3).bind (dDcO nx g t s1 g1 t1 fk fv env vs1 n (i + 1))
        else dDcO nx g t s1 g1 t1 fk fv env vs1 n (i + 1) acc h2
      | _ => .bad
def dDc2 (s : Si) (g : Sg) (t : St') (s1 : Si) (g1 : Sg) (t1 : St') (fk fv : Se) (vs vs1 : List Nat) : Se := fun env h => (s env h).bind fun nx h1 => (dDcO nx g t s1 g1 t1 fk fv (wipeE env vs) vs1 BIG 0 [] h1).bind fun acc h2 => .ok (.ref h2.length) (h2 ++ [.dic acc])
/-- the dict that is made stands aside -/
def Kp (k : Kx) (H : Hp) (μ : List Addr) (p : Addr) (acc : List (D × D)) : Prop := RO k H μ p (.dic acc) ∧ p ∉ μ
theorem Kp.grow {k : Kx} {H μ H' μ' p acc} (g : Grow H μ H' μ') (q : Kp k H μ p acc) : Kp k H' μ' p acc := by
  obtain ⟨u, eu⟩ := q.1.ex
  obtain ⟨e1, n1⟩ := g.oth _ _ eu q.2
  exact ⟨q.1.grow g.toExt fun _ => by rw [eu, e1], n1⟩
theorem Kp.ext {k : Kx} {H μ p acc} (q : Kp k H μ p acc) {H' : Hp} (e : ∀ b, b ≠ p → H' b = H b) : Ext H μ H' μ := by
  obtain ⟨u, eu, nt, nf⟩ := q.1.mutH rfl
  exact ⟨fun _ _ z => z, Nat.le_refl _, fun b xs z => by rw [e b (ne_of z eu fun w => nt xs w.symm)]; exact z, fun b o x z => by rw [e b (ne_of z eu fun w => nf o x w.symm)]; exact z⟩
theorem Kp.rh {k : Kx} {H μ p acc h} (q : Kp k H μ p acc) {H' : Hp} (e : ∀ b, b ≠ p → H' b = H b) (r : RH k μ h H) : RH k μ h H' :=
  ⟨r.len, r.nd, fun n ob a e1 e2 => (r.ob n ob a e1 e2).grow (q.ext e) fun _ => e a fun z => q.2 (by rw [← z]; exact List.mem_of_getElem? e2)⟩
theorem Kp.gr {k : Kx} {Hb H : Hp} {μb μ : List Addr} {p acc} (q : Kp k H μ p acc) (hb : Hb p = none) {H' : Hp} (e : ∀ b, b ≠ p → H' b = H b) (g : Grow Hb μb H μ) : Grow Hb μb H' μ :=
  ⟨g.toExt.trans (q.ext e), fun a w ea ma => ⟨by rw [e a (ne_of_none ea hb)]; exact (g.oth a w ea ma).1, (g.oth a w ea ma).2⟩⟩
/-- a store aside -/
theorem Kp.put {k : Kx} {H μ p acc} (q : Kp k H μ p acc) {x y : D} {v u : V} (rx : RD H μ x v) (ry : RD H μ y u) (fit : keyFits acc x = true) (hz : acc.length < BIG) {N : Hp → Prop}
    (n : ∀ H', (∀ b, b ≠ p → H' b = H b) → Kp k H' μ p (dput acc x y) → N H') : PutAt p v u H N := by
  rw [big_eq] at hz
  have none_of : keysK acc = true → keysT acc = true → acc = [] := fun h1 h2 => by
    cases acc with
    | nil => rfl
    | cons w l =>
      simp only [keysK, keysT, List.all_cons, Bool.and_eq_true] at h1 h2
      obtain ⟨a, ha⟩ := Option.isSome_iff_exists.mp h1.1
      obtain ⟨b, hb⟩ := Option.isSome_iff_exists.mp h2.1
      exact (key_disj ha hb).elim
  unfold keyFits at fit
  rw [Bool.or_eq_true, Bool.and_eq_true, Bool.and_eq_true] at fit
  have kK : ∀ {vs : List (Key × V)} {a : Key}, H p = some (.dK vs) → RKv keyOf H μ acc vs → keyOf x = some a → PutAt p v u H N := fun {vs a} ev r ea => by
    rw [keyOf_v ea rx]
    have e' : ∀ b, b ≠ p → upd H p (.dK (putK vs a u)) b = H b := fun b hb => upd_ne hb
    exact .inl ⟨_, .inl ⟨vs, a, ev, rfl, by rw [← r.length]; exact hz, rfl⟩, n _ e' ⟨.inl ⟨_, upd_same, RKv.grow (q.ext e') _ _ (r.put (fun _ _ _ => keyOf_inj) ea ry)⟩, q.2⟩⟩
  rcases q.1 with ⟨vs, ev, r⟩ | ⟨vs, ev, r⟩
  · rcases fit with ⟨f1, f2⟩ | ⟨f1, f2⟩
    · obtain ⟨a, ha⟩ := Option.isSome_iff_exists.mp f1
      exact kK ev r ha
    · obtain ⟨a, ha⟩ := Option.isSome_iff_exists.mp f1
      have := none_of r.key f2
      subst this
      have ve : vs = [] := r
      subst ve
      obtain ⟨b, rfl, eb⟩ := tkeyOf_v ha rx
      have e' : ∀ c, c ≠ p → upd (upd H p (.dT [])) p (.dT (putK [] a u)) c = H c := fun c hc => by rw [upd_ne hc, upd_ne hc]
      have bp : b ≠ p := fun z => by subst z; rw [ev] at eb; cases eb
      refine .inr (.inl ⟨ev, _, .inr ⟨[], a, b, upd_same, rfl, by rw [upd_ne bp]; exact eb, by show 0 < sizeLine; decide, rfl⟩, n _ e' ⟨.inr ⟨_, upd_same, ?_⟩, q.2⟩⟩)
      exact RKv.grow (q.ext e') _ _ (RKv.put (fun _ _ _ => tkeyOf_inj) ha ry (show RKv tkeyOf H μ [] [] from rfl))
  · rcases fit with ⟨f1, f2⟩ | ⟨f1, f2⟩
    · obtain ⟨a, ha⟩ := Option.isSome_iff_exists.mp f1
      have := none_of f2 r.key
      subst this
      have ve : vs = [] := r
      subst ve
      rw [keyOf_v ha rx]
      have e' : ∀ c, c ≠ p → upd (upd H p (.dK [])) p (.dK (putK [] a u)) c = H c := fun c hc => by rw [upd_ne hc, upd_ne hc]
      refine .inr (.inr ⟨ev, _, .inl ⟨[], a, upd_same, rfl, by show 0 < sizeLine; decide, rfl⟩, n _ e' ⟨.inl ⟨_, upd_same, ?_⟩, q.2⟩⟩)
      exact RKv.grow (q.ext e') _ _ (RKv.put (fun _ _ _ => keyOf_inj) ha ry (show RKv keyOf H μ [] [] from rfl))
    · obtain ⟨a, ha⟩ := Option.isSome_iff_exists.mp f1
      obtain ⟨b, rfl, eb⟩ := tkeyOf_v ha rx
      have e' : ∀ c, c ≠ p → upd H p (.dT (putK vs a u)) c = H c := fun c hc => upd_ne hc
      exact .inl ⟨_, .inr ⟨vs, a, b, ev, rfl, eb, by rw [← r.length]; exact hz, rfl⟩, n _ e' ⟨.inr ⟨_, upd_same, RKv.grow (q.ext e') _ _ (r.put (fun _ _ _ => tkeyOf_inj) ha ry)⟩, q.2⟩⟩
section
variable {k : Kx} {W : WX} {okc : D → Hd → Hp → List Addr → Prop}
theorem dcI_ok {J : It} {nx : Nx} {g : Sg} {t : St'} {fk fv : Se} {env : Env} {vs : List Nat} {σ σb : L2.St} {Hb H1 : Hp} {μb μ1 : List Addr} {p : Addr} {N : Hp → Prop} {fin : List (D × D) → Hd → Rs D} {h1 : Hd} {acc : List (D × D)}
    (pu : Pure g) (hb : Hb p = none) (jok : JOk k J nx H1 μ1) (g0 : Grow Hb μb H1 μ1) (rh : RH k μ1 h1 H1) (re : RE H1 μ1 env (L2.wipe σ vs)) (kp : Kp k H1 μ1 p acc)
    (q : PostG k W μb Hb σb okc ((dDcI nx g t fk fv env BIG 0 acc h1).bind fin))
    (hN : ∀ acc h H μ, Ext H1 μ1 H μ → Grow Hb μb H μ → RH k μ h H → Kp k H μ p acc → PostG k W μb Hb σb okc (fin acc h) → N H) :
    ∃ Wi : Nat → Nat → Hp → Prop, (∃ m, Wi 0 m H1) ∧ ∀ i m H, Wi i m H →
      (J.stop i H ∧ N H) ∨ (J.go i H ∧ ∃ Nx : Hp → Prop, (∀ H', Nx H' → ∃ m', m' < m ∧ Wi (i + 1) m' H') ∧ ∀ x H', J.yld i H x H' → tGw k vs g x (L2.wipe σ vs) H' fun σ2 H2 => L2.wipe σ2 vs = L2.wipe σ vs ∧ tT k WF t σ2 H2 fun b H3 =>
        if b = true then tX k WF fk σ2 H3 fun y H4 => tX k WF fv σ2 H4 fun z H5 => PutAt p y z H5 Nx else Nx H3) := by
  refine ⟨fun i m H => ∃ μ h acc, Ext H1 μ1 H μ ∧ Grow Hb μb H μ ∧ RH k μ h H ∧ Kp k H μ p acc ∧ PostG k W μb Hb σb okc ((dDcI nx g t fk fv env m i acc h).bind fin),
    ⟨BIG, μ1, h1, acc, Grow.refl.toExt, g0, rh, kp, q⟩, ?_⟩
  rintro i m H ⟨μ, h, acc, x1, gb, rh, kp, q⟩
  cases m with
  | zero => exact q.elim
  | succ n =>
    unfold dDcI at q
    have j := jok i H μ h x1 rh
    split at q
    · exact q.elim
    · rename_i e
      exact .inl ⟨j.1 e, hN acc h H μ x1 gb rh kp q⟩
    · rename_i d e
      obtain ⟨j1, j2⟩ := j.2 d e
      refine .inr ⟨j1, fun H' => ∃ μ h acc, Ext H1 μ1 H' μ ∧ Grow Hb μb H' μ ∧ RH k μ h H' ∧ Kp k H' μ p acc ∧ PostG k W μb Hb σb okc ((dDcI nx g t fk fv env n (i + 1) acc h).bind fin), fun H' z => ⟨n, Nat.lt_succ_self n, z⟩, fun x H' y => ?_⟩
      obtain ⟨μ2, g2, r2, rx⟩ := j2 x H' y
      split at q
      · rename_i e1 h' eg
        have hh := pu _ _ _ _ _ eg
        subst hh
        refine ⟨μ2, env, h', d, e1, r2, (re.grow x1).grow g2.toExt, rx, eg, fun σ2 rσ hw => ⟨by rw [hw]; exact wipe_wipe σ vs vs fun _ h => h, μ2, e1, h', r2, rσ, ?_⟩⟩
        rw [Rs.bind_assoc] at q
        refine (PostG.ne q).mono fun b h3 H3 μ3 g3 r3 q3 => ?_
        have kp3 := (kp.grow g2).grow g3
        have gb3 := (gb.trans g2).trans g3
        have x3 := (x1.trans g2.toExt).trans g3.toExt
        show if b = true then _ else _
        cases b with
        | true =>
          simp only [if_true] at q3 ⊢
          rw [Rs.bind_assoc] at q3
          have rσ3 := rσ.grow g3.toExt
          refine ⟨μ3, e1, h3, r3, rσ3, (PostG.ne q3).mono fun y h4 H4 μ4 g4 r4 q4 v rv => ?_⟩
          rw [Rs.bind_assoc] at q4
          refine ⟨μ4, e1, h4, r4, rσ3.grow g4.toExt, (PostG.ne q4).mono fun z h5 H5 μ5 g5 r5 q5 u ru => ?_⟩
          by_cases hz : keyFits acc y = true ∧ acc.length < BIG
          · rw [if_pos hz] at q5
            have kp5 := (kp3.grow g4).grow g5
            exact kp5.put (RD.grow g5.toExt _ _ rv) ru hz.1 hz.2 fun H6 e6 kp6 => ⟨μ5, h5, _, ((x3.trans g4.toExt).trans g5.toExt).trans (kp5.ext e6), kp5.gr hb e6 ((gb3.trans g4).trans g5), kp5.rh e6 r5, kp6, q5⟩
          · rw [if_neg hz] at q5; exact q5.elim
        | false =>
          simp only [Bool.false_eq_true, if_false] at q3 ⊢
          exact ⟨μ3, h3, acc, x3, gb3, r3, kp3, q3⟩
      · exact q.elim
/-- the dict is taken in -/
theorem Kp.done {μ1 μ : List Addr} {H1 H : Hp} {σ : L2.St} {Q : VK} {p : Addr} {acc : List (D × D)} {h : Hd} (hb : H1 p = none) (gb : Grow H1 μ1 H μ) (r : RH k μ h H) (kp : Kp k H μ p acc) (q : PostG k W μ1 H1 σ (okV Q) (.ok (.ref h.length) (h ++ [.dic acc]))) : Q (.ref p) H :=
  q H (μ ++ [p]) (gb.more hb) (r.adopt kp.2 (kp.1.grow Ext.app fun _ => rfl)) (.ref p) (RD.ref (by rw [← r.len, List.getElem?_append_right (Nat.le_refl _)]; simp))
theorem Kp.new {μ1 : List Addr} {H1 : Hp} {p : Addr} {h1 : Hd} (hb : H1 p = none) (r1 : RH k μ1 h1 H1) : Kp k (upd H1 p (.dK [])) μ1 p [] := ⟨.inl ⟨[], upd_same, rfl⟩, r1.out hb⟩
theorem dc_w {si : Si} {g : Sg} {t : St'} {fk fv : Se} {vs : List Nat} (pu : Pure g) {σ : L2.St} {H : Hp} {Q : VK} (h : tX k W (dDc si g t fk fv vs) σ H Q) : tDx (tI k W si) (tGw k vs g) (tT k WF t) (tX k WF fk) (tX k WF fv) vs σ H Q := by
  obtain ⟨μ, env, h, rh, re, q⟩ := h
  refine ⟨μ, env, h, rh, re, (PostG.bind q).mono fun nx h1 H1 μ1 g1 r1 q1 J jok p hb => ?_⟩
  have gf : Grow H1 μ1 (upd H1 p (.dK [])) μ1 := Grow.fresh hb
  have jok' : JOk k J nx (upd H1 p (.dK [])) μ1 := fun i H μ h x r => jok i H μ h (gf.toExt.trans x) r
  exact dcI_ok pu hb jok' gf (r1.fresh hb) (((re.grow g1.toExt).grow gf.toExt).wipe vs) (Kp.new hb r1) q1 fun acc h H μ x gb r kp z => kp.done hb gb r z
theorem dc2_w {si s1 : Si} {g g1 : Sg} {t t1 : St'} {fk fv : Se} {vs vs1 : List Nat} (pu : Pure g) (pu1 : Pure g1) {σ : L2.St} {H : Hp} {Q : VK} (h : tX k W (dDc2 si g t s1 g1 t1 fk fv vs vs1) σ H Q) :
    tDx2 (tI k W si) (tGw k vs g) (tT k WF t) (tI k WF s1) (tGw k vs1 g1) (tT k WF t1) (tX k WF fk) (tX k WF fv) vs vs1 σ H Q := by
  obtain ⟨μ, env, h, rh, re, q⟩ := h
  refine ⟨μ, env, h, rh, re, (PostG.bind q).mono fun nx h1 H1 μ1 g01 r1 q1 J jok p hb => ?_⟩
  have gf : Grow H1 μ1 (upd H1 p (.dK [])) μ1 := Grow.fresh hb
  have re1 := (re.grow g01.toExt).wipe vs
  clear q re rh g01
  refine ⟨fun i m H => ∃ μ h acc, Grow H1 μ1 H μ ∧ RH k μ h H ∧ Kp k H μ p acc ∧ PostG k W μ1 H1 σ (okV Q) ((dDcO nx g t s1 g1 t1 fk fv (wipeE env vs) vs1 m i acc h).bind fun acc h2 => .ok (.ref h2.length) (h2 ++ [.dic acc])),
    ⟨BIG, μ1, h1, [], gf, r1.fresh hb, Kp.new hb r1, q1⟩, ?_⟩
  rintro i m H ⟨μ, h, acc, gb, rh, kp, q⟩
  cases m with
  | zero => exact q.elim
  | succ n =>
    unfold dDcO at q
    have j := jok i H μ h gb.toExt rh
    split at q
    · exact q.elim
    · rename_i e
      exact .inl ⟨j.1 e, kp.done hb gb rh q⟩
    · rename_i d e
      obtain ⟨j1, j2⟩ := j.2 d e
      refine .inr ⟨j1, fun H' => ∃ μ h acc, Grow H1 μ1 H' μ ∧ RH k μ h H' ∧ Kp k H' μ p acc ∧ PostG k W μ1 H1 σ (okV Q) ((dDcO nx g t s1 g1 t1 fk fv (wipeE env vs) vs1 n (i + 1) acc h).bind fun acc h2 => .ok (.ref h2.length) (h2 ++ [.dic acc])), fun H' z => ⟨n, Nat.lt_succ_self n, z⟩, fun x H' y => ?_⟩
      obtain ⟨μ2, g2, r2, rx⟩ := j2 x H' y
      split at q
      · rename_i e1 h' eg
        have hh := pu _ _ _ _ _ eg
        subst hh
        refine ⟨μ2, wipeE env vs, h', d, e1, r2, (re1.grow gb.toExt).grow g2.toExt, rx, eg, fun σ2 rσ hw => ⟨by rw [hw]; exact wipe_wipe σ vs vs fun _ h => h, μ2, e1, h', r2, rσ, ?_⟩⟩
        rw [Rs.bind_assoc] at q
        refine (PostG.ne q).mono fun b h3 H3 μ3 g3 r3 q3 => ?_
        have kp3 := (kp.grow g2).grow g3
        have gb3 := (gb.trans g2).trans g3
        show if b = true then _ else _
        cases b with
        | true =>
          simp only [if_true] at q3 ⊢
          rw [Rs.bind_assoc] at q3
          have rσ3 := rσ.grow g3.toExt
          refine ⟨μ3, e1, h3, r3, rσ3, (PostG.ne q3).mono fun nx1 h4 H4 μ4 g4 r4 q4 J1 jok1 => ?_⟩
          rw [Rs.bind_assoc] at q4
          exact dcI_ok pu1 hb jok1 (gb3.trans g4) r4 ((rσ3.grow g4.toExt).wipe vs1) (kp3.grow g4) q4 fun acc h H μ x gb r kp z => ⟨μ, h, acc, gb, r, kp, z⟩
        | false =>
          simp only [Bool.false_eq_true, if_false] at q3 ⊢
          exact ⟨μ3, h3, acc, gb3, r3, kp3, q3⟩
      · exact q.elim
end
section
variable {X : Cx} {k : Kx} {W : WX} {kx vx tg iter tg1 iter1 : Expr} {ifs ifs1 : List Expr} {scope : Scope} {own : List (Str × Nat)} {vs1 : List Nat} {pos : Pos} {si s1 : Si} {g g1 : Sg} {fk fv : Se} {t t1 : St'}
theorem x_dc (hu : X.A.units + 1 < cLine) (hc : X.calm = true) (hN : X.N.Nodup) (pu : Pure g) (hi : PI X tg iter (tI k W si)) (ok : BlkOk X.N X.env.scope scope own)
    (hg : InBlk X scope fun Y => PG Y tg (tGw k (own.map (·.2)) g)) (ht : InBlk X scope fun Y => PTs Y ifs (tT k WF t)) (hk : InBlk X scope fun Y => PE Y kx (tX k WF fk)) (hv0 : InBlk X scope fun Y => PE Y vx (tX k WF fv)) (hs : ∀ x, foldedSetIterable iter X.env x = pure x) :
    PE X (.DictComp kx vx [⟨tg, iter, ifs, 0⟩] scope pos) (tX k W (dDc si g t fk fv (own.map (·.2)))) :=
  PE.weak (pe_dx hu hc hN hi ok hg ht hk hv0 hs) fun σ H Q h => dc_w pu h
theorem s_setDc {i : Nat} {y : Str} {py spos : Pos} (hu : X.A.units + 1 < cLine) (hc : X.calm = true) (hN : X.N.Nodup) (hy : X.N[i]? = some y) (hyl : X.env.scope.names.lookup y = some .local) (pu : Pure g) (hi : PI X tg iter (tI k W si)) (ok : BlkOk X.N X.env.scope scope own)
    (hg : InBlk X scope fun Y => PG Y tg (tGw k (own.map (·.2)) g)) (ht : InBlk X scope fun Y => PTs Y ifs (tT k WF t)) (hk : InBlk X scope fun Y => PE Y kx (tX k WF fk)) (hv0 : InBlk X scope fun Y => PE Y vx (tX k WF fv)) (hs : ∀ x, foldedSetIterable iter X.env x = pure x)
    (hsw : swapsWith (.DictComp kx vx [⟨tg, iter, ifs, 0⟩] scope pos) (some (.Name y py)) spos.line X.env = pure true) :
    PS X (.Assign [.Name y py] (.DictComp kx vx [⟨tg, iter, ifs, 0⟩] scope pos) spos) (tS k W (dAsg (dDc si g t fk fv (own.map (·.2))) (dGn i))) :=
  PS.weak (ps_dx hu hc hN hy hyl hi ok hg ht hk hv0 hs hsw) fun σ H B ⟨μ, env, h, rh, re, p⟩ => dc_w pu (PN.s1 rh re p fun d h1 H1 μ1 v g1 r1 e1 rv p1 => p1 _ _ _ Grow.refl r1 (e1.set i rv))
theorem x_dc2 (hu : X.A.units + 1 < cLine) (hc : X.calm = true) (hN : X.N.Nodup) (pu : Pure g) (pu1 : Pure g1) (hi : PI X tg iter (tI k W si)) (ok : BlkOk X.N X.env.scope scope own)
    (hg : InBlk X scope fun Y => PG Y tg (tGw k (own.map (·.2)) g)) (ht : InBlk X scope fun Y => PTs Y ifs (tT k WF t)) (hk : InBlk X scope fun Y => PE Y kx (tX k WF fk)) (hv0 : InBlk X scope fun Y => PE Y vx (tX k WF fv)) (hs : ∀ x, foldedSetIterable iter X.env x = pure x)
    (hv : ∀ i ∈ vs1, i ∈ own.map (·.2)) (hi1 : InBlk X scope fun Y => PI Y tg1 iter1 (tI k WF s1)) (hg1 : InBlk X scope fun Y => PG Y tg1 (tGw k vs1 g1)) (ht1 : InBlk X scope fun Y => PTs Y ifs1 (tT k WF t1)) (hs1 : ∀ env x, foldedSetIterable iter1 env x = pure x) :
    PE X (.DictComp kx vx [⟨tg, iter, ifs, 0⟩, ⟨tg1, iter1, ifs1, 0⟩] scope pos) (tX k W (dDc2 si g t s1 g1 t1 fk fv (own.map (·.2)) vs1)) :=
  PE.weak (pe_dx2 hu hc hN hi ok hg ht hk hv0 hs hv hi1 hg1 ht1 hs1) fun σ H Q h => dc2_w pu pu1 h
theorem s_setDc2 {i : Nat} {y : Str} {py spos : Pos} (hu : X.A.units + 1 < cLine) (hc : X.calm = true) (hN : X.N.Nodup) (hy : X.N[i]? = some y) (hyl : X.env.scope.names.lookup y = some .local) (pu : Pure g) (pu1 : Pure g1) (hi : PI X tg iter (tI k W si)) (ok : BlkOk X.N X.env.scope scope own)
    (hg : InBlk X scope fun Y => PG Y tg (tGw k (own.map (·.2)) g)) (ht : InBlk X scope fun Y => PTs Y ifs (tT k WF t)) (hk : InBlk X scope fun Y => PE Y kx (tX k WF fk)) (hv0 : InBlk X scope fun Y => PE Y vx (tX k WF fv)) (hs : ∀ x, foldedSetIterable iter X.env x = pure x)
    (hv : ∀ i ∈ vs1, i ∈ own.map (·.2)) (hi1 : InBlk X scope fun Y => PI Y tg1 iter1 (tI k WF s1)) (hg1 : InBlk X scope fun Y => PG Y tg1 (tGw k vs1 g1)) (ht1 : InBlk X scope fun Y => PTs Y ifs1 (tT k WF t1)) (hs1 : ∀ env x, foldedSetIterable iter1 env x = pure x)
    (hsw : swapsWith (.DictComp kx vx [⟨tg, iter, ifs, 0⟩, ⟨tg1, iter1, ifs1, 0⟩] scope pos) (some (.Name y py)) spos.line X.env = pure true) :
    PS X (.Assign [.Name y py] (.DictComp kx vx [⟨tg, iter, ifs, 0⟩, ⟨tg1, iter1, ifs1, 0⟩] scope pos) spos) (tS k W (dAsg (dDc2 si g t s1 g1 t1 fk fv (own.map (·.2)) vs1) (dGn i))) :=
  PS.weak (ps_dx2 hu hc hN hy hyl hi ok hg ht hk hv0 hs hv hi1 hg1 ht1 hs1 hsw) fun σ H B ⟨μ, env, h, rh, re, p⟩ => dc2_w pu pu1 (PN.s1 rh re p fun d h1 H1 μ1 v g1 r1 e1 rv p1 => p1 _ _ _ Grow.refl r1 (e1.set i rv))
end
end PN
namespace PN
open PySem L2 PyProof.Rows
/-! ## sum(rows, ()) -/
/-- a list or a tuple -/
def SqK (b : Bool) (K : PySem.W.Frag) (H : Hp) (a : Addr) (xs : List V) : Prop := if b = true then SqL K H a xs else SqT K H a xs
def ItK (b : Bool) (h : Heap) (it a : Addr) (i : Nat) : Prop := if b = true then h.IsListIter it a i else h.IsTupleIter it a i
section
variable {X : Cx} {pins : List (Addr × Obj)} {σ : L2.St} {H : Hp} {s : Shared} {A : Around} {E : Value → Shared → Prop} {it a : Addr} {i : Nat} {xs : List V} {b : Bool}
theorem ItK.at {h h' : Heap} (st : ItK b h it a i) (kp : ∀ o, h.get? it = some o → h'.get? it = some o) : ItK b h' it a i := by
  unfold ItK at st ⊢
  cases b with
  | true => exact Heap.IsListIter.at st kp
  | false => exact Heap.IsTupleIter.at st kp
theorem nextK (I : L2.Inv X pins σ H s) (st : ItK b s.heap it a i) (hs : SqK b X.K H a xs) {x : V} (hx : xs[i]? = some x) {Q : Option Value → Shared → Prop}
    (q : ∀ u h', RelV x u → ItK b h' it a (i + 1) → Heap.SameBut it s.heap h' → Q (some u) { s with heap := h' }) : wpAny (model X.prog X.w) A (pyNext (.ref it)) Q E s := by
  unfold SqK at hs
  cases b with
  | true =>
    obtain ⟨us, rv, pl, _⟩ := I.list hs
    obtain ⟨u, hu, ru⟩ := rv.get hx
    exact wpAny_pyNext_list_item st pl.isList (x := u) (by simpa using hu) fun h' st' sb => q u h' ru st' sb
  | false =>
    obtain ⟨us, rv, pl, _⟩ := I.tuple hs
    obtain ⟨u, hu, ru⟩ := rv.get hx
    exact wpAny_pyNext_tuple_item st (show s.heap.IsTuple a us.toArray from pl) (x := u) (by simpa using hu) fun h' st' sb => q u h' ru st' sb
theorem endK (hh : A.handled = none) (I : L2.Inv X pins σ H s) (st : ItK b s.heap it a i) (hs : SqK b X.K H a xs) (hx : xs.length ≤ i) {Q : Option Value → Shared → Prop}
    (q : ∀ h', Heap.ExtBut it s.heap h' → Q none { s with heap := h' }) : wpAny (model X.prog X.w) A (pyNext (.ref it)) Q E s := by
  unfold SqK at hs
  cases b with
  | true =>
    obtain ⟨us, rv, pl, _⟩ := I.list hs
    have hl := rv.length
    exact wpAny_pyNext_list_end hh st pl.isList (by simp; omega) q
  | false =>
    obtain ⟨us, rv, pl, _⟩ := I.tuple hs
    have hl := rv.length
    exact wpAny_pyNext_tuple_end hh st (show s.heap.IsTuple a us.toArray from pl) (by simp; omega) q
/-- t + u under any caller -/
theorem catK {t u : Addr} {vs ws : List V} (I : L2.Inv X pins σ H s) (ht : H t = some (.tup vs)) (hu : H u = some (.tup ws)) (hz : vs.length + ws.length ≤ sizeLine) {Q : Value → Shared → Prop}
    (q : ∀ r H' s', L2.Inv X pins σ H' s' → H' r = some (.tup (vs ++ ws)) → ((H' = H ∧ s' = s) ∨ (r = s.heap.objs.size ∧ H' = upd H r (.tup (vs ++ ws)) ∧ ∃ o, s' = { s with heap := s.heap.push o })) → Q (.ref r) s') :
    wpAny (model X.prog X.w) A (binaryOp .Add (.ref t) (.ref u)) Q E s := by
  obtain ⟨its, r1, p1, _⟩ := I.tuple (SqT.of ht)
  obtain ⟨its2, r2, p2, _⟩ := I.tuple (SqT.of hu)
  by_cases hv : vs = []
  · subst hv
    cases r1
    exact cat_tup0 p1 p2 (q u H s I hu (.inl ⟨rfl, rfl⟩))
  · refine HT.cat_tup p1 p2 (fun z => hv (r1.nil_iff.mp z)) (fun z => ?_) (fun z => ?_) (by rw [← r1.length, ← r2.length]; exact hz)
    · have w0 := r2.nil_iff.mp z
      subst w0
      exact q t H s I (by rw [List.append_nil]; exact ht) (.inl ⟨rfl, rfl⟩)
    · refine q s.heap.objs.size _ _ (I.laid (t' := s.toks) (o := .tup (vs ++ ws)) (fun b ob q => Heap.get?_push_of_some _ q) (Nat.le_refl _) ⟨by rw [List.length_append]; exact hz, _, r1.append r2, IsTup.new _ _⟩) upd_same (.inr ⟨rfl, rfl, _, rfl⟩)
/-- the objects a tuple's items are: tuples all -/
def TupsAt (H : Hp) : List V → List (List V) → Prop
  | [], l => l = []
  | x :: xs, l => ∃ t vs r, x = .ref t ∧ H t = some (.tup vs) ∧ l = vs :: r ∧ TupsAt H xs r
theorem FpOk.upd {X : Cx} {pins : List (Addr × Obj)} {H : Hp} {b r : Addr} {o : HO} (f : FpOk X pins H b) (n : b ≠ r) : FpOk X pins (L2.upd H r o) b := ⟨by rw [upd_ne n]; exact f.1, f.2⟩
theorem TupsAt.grow {H H' : Hp} (g : ∀ a vs, H a = some (.tup vs) → H' a = some (.tup vs)) : ∀ {xs : List V} {l}, TupsAt H xs l → TupsAt H' xs l
  | [], _, h => h
  | _ :: xs, _, ⟨t, vs, r, e1, e2, e3, e4⟩ => ⟨t, vs, r, e1, g _ _ e2, e3, TupsAt.grow g e4⟩
theorem sum_loop {S : Addr} (hSit : S ≠ it) : ∀ (rest : List V) (rows : List (List V)) (H : Hp) (s : Shared) (i : Nat) (t : Addr) (vs : List V) (c : Nat) {R : Result → Shared → Prop}, A.handled = none → L2.Inv X pins σ H s → ItK b s.heap it a i → SqK b X.K H a xs → xs.drop i = rest →
    TupsAt H rest rows → H t = some (.tup vs) → vs.length + rows.flatten.length ≤ sizeLine → FpOk X pins H it → FpOk X pins H S → s.heap.get? S = some { cls := .type "list", dict := none, data := .seq #[.ref t] c, slots := #[] } →
    (∀ r H' s', L2.Inv X pins σ H' s' → H' r = some (.tup (vs ++ rows.flatten)) → (∀ a o, H a = some o → H' a = some o) → R (.ok (.ret (.ref r))) s') →
    codeAny (model X.prog X.w) A (.builtin "sum.loop" ⟨[.ref it, .ref S, rawInt 2, rawInt 0], []⟩) R s := by
  intro rest
  induction rest with
  | nil =>
    intro rows H s i t vs c R hA I st hs hd tr ht hz f1 f2 hS q
    have hrows : rows = [] := tr
    subst hrows
    refine codeAny_builtin F.entry_sum_loop ?_
    rw [Around.under_plainId F.plain_sum_loop _]
    show wpAny _ A.in1 (seqItems? (.ref S) >>= _) _ _ s
    refine wpAny_bind (wpAny_seqItems hS rfl ?_)
    show wpAny _ A.in1 (tryCatch (pyNext (.ref it)) _ >>= _) _ _ s
    have hx : xs.length ≤ i := by
      have := congrArg List.length hd
      simp at this; omega
    refine wpAny_bind (wpAny_tryCatch (endK (A := A.in1) hA I st hs hx fun h' eb => ?_))
    refine wpAny_pure (q t H _ (I.turned (t' := s.toks) (fun b o hb e => eb b o hb e) f1.1 f1.2.1 f1.2.2.2.1 f1.2.2.2.2.1 f1.2.2.2.2.2) (by simpa using ht) (fun _ _ e => e))
  | cons x rest ih =>
    intro rows H s i t vs c R hA I st hs hd tr ht hz f1 f2 hS q
    obtain ⟨t2, ws, rows', rfl, et2, rfl, tr'⟩ := tr
    refine codeAny_builtin F.entry_sum_loop ?_
    rw [Around.under_plainId F.plain_sum_loop _]
    show wpAny _ A.in1 (seqItems? (.ref S) >>= _) _ _ s
    refine wpAny_bind (wpAny_seqItems hS rfl ?_)
    show wpAny _ A.in1 (tryCatch (pyNext (.ref it)) _ >>= _) _ _ s
    have hx : xs[i]? = some (.ref t2) := by
      have := congrArg (fun l => l[0]?) hd
      simpa using this
    refine wpAny_bind (wpAny_tryCatch (nextK I st hs hx fun u h' ru st' sb => ?_))
    cases ru
    have I1 : L2.Inv X pins σ H { s with heap := h' } := I.turned (t' := s.toks) (fun b o hb e => (sb.2 b hb).trans e) f1.1 f1.2.1 f1.2.2.2.1 f1.2.2.2.2.1 f1.2.2.2.2.2
    have hS1 : h'.get? S = some { cls := .type "list", dict := none, data := .seq #[.ref t] c, slots := #[] } := (sb.2 S hSit).trans hS
    show wpAny _ A.in1 ((holding [Value.ref t2] (binaryOp .Add (.ref t) (.ref t2))).attempt >>= _) _ _ _
    have hz1 : vs.length + ws.length ≤ sizeLine := by simp at hz; omega
    refine wpAny_bind (wpAny_attempt (wpAny_holding (catK I1 ht et2 hz1 fun r H' s' I' er cases' => ?_)))
    have keep : ∀ a o, H a = some o → H' a = some o := by
      rcases cases' with ⟨e, _⟩ | ⟨e, e2, _⟩
      · subst e; exact fun _ _ z => z
      · intro c o z
        rw [e2, upd_ne]
        · exact z
        · intro w
          have hn : H r = none := by rw [e]; exact I1.hok.fresh (Nat.le_refl _)
          rw [w, hn] at z; cases z
    have it_lt : it < h'.objs.size := by
      unfold ItK at st'
      cases b with
      | true => obtain ⟨_, e, _⟩ := st'; exact Heap.lt_size e
      | false => obtain ⟨_, e, _⟩ := st'; exact Heap.lt_size e
    have S_lt : S < h'.objs.size := Heap.lt_size hS1
    have f1' : FpOk X pins H' it := by
      rcases cases' with ⟨e, _⟩ | ⟨e, e2, _⟩
      · rw [e]; exact f1
      · rw [e2]; exact FpOk.upd f1 (by rw [e]; exact Nat.ne_of_lt it_lt)
    have f2' : FpOk X pins H' S := by
      rcases cases' with ⟨e, _⟩ | ⟨e, e2, _⟩
      · rw [e]; exact f2
      · rw [e2]; exact FpOk.upd f2 (by rw [e]; exact Nat.ne_of_lt S_lt)
    have old : ∀ c o, h'.get? c = some o → s'.heap.get? c = some o := by
      rcases cases' with ⟨_, e⟩ | ⟨_, _, o, e⟩
      · rw [e]; exact fun _ _ z => z
      · rw [e]; exact fun _ _ z => Heap.get?_push_of_some _ z
    have hS2 := old _ _ hS1
    have st2 : ItK b s'.heap it a (i + 1) := st'.at fun o e => old _ _ e
    show wpAny _ A.in1 (updateSeq S (fun _ => #[.ref r]) >>= _) _ _ _
    refine wpAny_bind (wpAny_updateSeq hS2 rfl ?_)
    have hS3 := Heap.get?_update_self (Obj.mapSeq fun _ => #[Value.ref r]) hS2 rfl
    refine wpAny_bind (wpAny_letGo ?_)
    refine wpAny_bind (wpAny_updateSeq hS3 rfl (wpAny_pure ⟨plainId_quiet F.plain_sum_loop _, ?_⟩))
    have other : ∀ c o, c ≠ S → s'.heap.get? c = some o → ((s'.heap.update S (Obj.mapSeq fun _ => #[Value.ref r])).update S (Obj.mapSeq fun _ => #[Value.ref r])).get? c = some o := fun c o n e =>
      (Heap.get?_update_other _ _ (Ne.symm n)).trans ((Heap.get?_update_other _ _ (Ne.symm n)).trans e)
    have I3 := I'.turned (t' := s'.toks) other f2'.1 f2'.2.1 f2'.2.2.2.1 f2'.2.2.2.2.1 f2'.2.2.2.2.2
    refine ih rows' H' _ (i + 1) r (vs ++ ws) _ hA I3 (st2.at fun o e => other _ _ (Ne.symm hSit) e) ?_ ?_ (tr'.grow fun a vs e => keep a _ e) er ?_ f1' f2' (Heap.get?_update_self _ hS3 rfl) fun r' H2 s2 I2 er2 k2 => ?_
    · unfold SqK at hs ⊢
      have up : ∀ {a' : Addr} {P : HO}, H a' = some P → H' a' = some P := fun e => keep _ _ e
      cases b with
      | true =>
        rcases hs with (e | ⟨o, e⟩) | e
        · exact .inl (.inl (up e))
        · exact .inl (.inr ⟨o, up e⟩)
        · exact .inr e
      | false =>
        rcases hs with (e | ⟨o, e⟩) | e
        · exact .inl (.inl (up e))
        · exact .inl (.inr ⟨o, up e⟩)
        · exact .inr e
    · have := congrArg (List.drop 1) hd
      simpa [List.drop_drop, Nat.add_comm] using this
    · simp at hz ⊢; omega
    · exact q r' H2 s2 I2 (by simpa using er2) (fun a o e => k2 a o (keep a o e))
theorem args_sum2 (u v : Value) : argsOk "sum" ⟨[u, v], []⟩ := by unfold argsOk; kernel_rfl
theorem tup_no_str : isSubtype (.type "tuple") (.type "str") = pure false := by rw [isSubtype_type]; kernel_rfl
theorem tup_no_bytes : isSubtype (.type "tuple") (.type "bytes") = pure false := by rw [isSubtype_type]; kernel_rfl
theorem tup_no_bytearray : isSubtype (.type "tuple") (.type "bytearray") = pure false := by rw [isSubtype_type]; kernel_rfl
def rSumT (K : PySem.W.Frag) : List V → Hp → VK → Prop := fun vs H Q => ∃ (b : Bool) (a t : Addr) (xs us : List V) (rows : List (List V)), vs = [.ref a, .ref t] ∧ SqK b K H a xs ∧ TupsAt H xs rows ∧ H t = some (.tup us) ∧ us.length + rows.flatten.length ≤ sizeLine ∧
  ∀ r H', H' r = some (.tup (us ++ rows.flatten)) → (∀ a o, H a = some o → H' a = some o) → Q (.ref r) H'
theorem c_sumT (hc : X.calm = true) : CallR X (.builtin "sum") (rSumT X.K) := by
  intro pins s σ H vs us Q I r h
  obtain ⟨b, a, t, xs, ws, rows, rfl, hs, tr, ht, hz, q⟩ := h
  obtain ⟨u1, u2, rfl, r1, r2⟩ := vals2 r
  cases (show u1 = Value.ref a from r1)
  cases (show u2 = Value.ref t from r2)
  refine call_function_tree F.kind_sum F.plain_sum F.entry_sum (args_sum2 _ _) ?_
  unfold Builtin.«sum»
  simp only [List.length_cons, List.length_nil]
  rw [if_neg (by decide)]
  refine wpAny_bind (wpAny_of_eq (show Builtin.Builtins.bindParams "sum" ["start"] 0 ⟨[.ref t], []⟩ = pure [some (.ref t)] from rfl) ?_)
  have hh : X.A.handled = none := I.ok.hd hc
  -- the iterator
  have iter : ∀ {R : Value → Shared → Prop} {E : Value → Shared → Prop}, (∀ o : Obj, o.isFreed = false → ItK b (s.heap.push o) s.heap.objs.size a 0 → R (.ref s.heap.objs.size) { s with heap := s.heap.push o }) → wpAny (model X.prog X.w) X.A.in1 (pyIter (.ref a)) R E s := fun {R E} k => by
    unfold SqK at hs
    cases b with
    | true =>
      obtain ⟨its, rv, pl, _⟩ := I.list hs
      exact wpAny_pyIter_list pl.isList (k _ rfl ⟨_, Heap.get?_push_size _ rfl, rfl, rfl⟩)
    | false =>
      obtain ⟨its, rv, pl, _⟩ := I.tuple hs
      exact wpAny_pyIter_tuple (show s.heap.IsTuple a its.toArray from pl) (k _ rfl ⟨_, Heap.get?_push_size _ rfl, rfl, rfl⟩)
  refine wpAny_bind (iter fun o _ st => ?_)
  have I1 : L2.Inv X pins σ H { s with heap := s.heap.push o } := I.kept (t' := s.toks) fun b ob e => Heap.get?_push_of_some _ e
  have f1 : FpOk X pins H s.heap.objs.size := I.fpOk (Nat.le_refl _) (I.hok.fresh (Nat.le_refl _))
  obtain ⟨its, rvt, pt, _⟩ := I1.tuple (SqT.of ht)
  have tT : Shared.TypeIs { s with heap := s.heap.push o } (.ref t) "tuple" := IsTup.typeIs pt
  refine wpAny_bind (wpAny_pure ?_)
  simp only [List.forIn_cons, List.forIn_nil]
  refine wpAny_bind (wpAny_bind (wpAny_bind (wpAny_isInstance (T := "tuple") (b := false) tT tup_no_str ?_)))
  simp only [Bool.false_eq_true, if_false]
  refine wpAny_pure (wpAny_bind (wpAny_bind (wpAny_isInstance (T := "tuple") (b := false) tT tup_no_bytes ?_)))
  simp only [Bool.false_eq_true, if_false]
  refine wpAny_pure (wpAny_bind (wpAny_bind (wpAny_isInstance (T := "tuple") (b := false) tT tup_no_bytearray ?_)))
  simp only [Bool.false_eq_true, if_false]
  refine wpAny_pure (wpAny_pure ?_)
  refine wpAny_bind (wpAny_newObj_type ?_)
  have z1 : (s.heap.push o).objs.size = s.heap.objs.size + 1 := Heap.size_push ..
  have I2 := I1.kept (t' := s.toks) (h' := (s.heap.push o).push { cls := .type "list", data := .seq [Value.ref t].toArray }) fun b ob e => Heap.get?_push_of_some _ e
  have f2 : FpOk X pins H (s.heap.push o).objs.size := I.fpOk (by rw [z1]; exact Nat.le_succ _) (I.hok.fresh (by rw [z1]; exact Nat.le_succ _))
  refine wpAny_pure ⟨plainId_quiet F.plain_sum_loop _, sum_loop (A := X.A) (S := (s.heap.push o).objs.size) (by rw [z1]; exact Nat.succ_ne_self _) xs rows H _ 0 t ws 0 hh I2 (st.at fun o e => Heap.get?_push_of_some _ e) hs rfl tr ht hz f1 f2 (Heap.get?_push_size _ rfl) fun r H' s' I' er kp => ?_⟩
  exact ⟨.ref r, H', I', rfl, q r H' er kp⟩
end
theorem RH.keep {k : Kx} {H H' : Hp} {μ : List Addr} {h : Hd} (kp : ∀ a o, H a = some o → H' a = some o) (r : RH k μ h H) : RH k μ h H' ∧ Grow H μ H' μ := by
  have x : Ext H μ H' μ := ⟨fun _ _ e => e, Nat.le_refl _, fun a xs e => kp a _ e, fun a o u e => kp a _ e⟩
  refine ⟨⟨r.len, r.nd, fun n o a e1 e2 => (r.ob n o a e1 e2).grow x fun _ => ?_⟩, x, fun a u e n => ⟨kp a u e, n⟩⟩
  obtain ⟨u, eu⟩ := (r.ob n o a e1 e2).ex
  rw [eu, kp a u eu]
/-- the rows of a list of tuples -/
def rowsOf : List D → Option (List (List D))
  | [] => some []
  | .tup l :: r => (rowsOf r).map (l :: ·)
  | _ => none
theorem rows_at {H : Hp} {μ : List Addr} : ∀ {l : List D} {vs : List V} {rows : List (List D)}, rowsOf l = some rows → RDs H μ l vs → ∃ rv, TupsAt H vs rv ∧ RDs H μ rows.flatten rv.flatten
  | [], vs, rows, e, r => by
    simp only [rowsOf, Option.some.injEq] at e
    simp only [RDs] at r
    subst e r
    exact ⟨[], rfl, RDs.nil⟩
  | d :: l, vs, rows, e, r => by
    cases d <;> first | (simp [rowsOf] at e; done) | skip
    rename_i row
    obtain ⟨rows', e', rfl⟩ := Option.map_eq_some_iff.mp (show (rowsOf l).map (row :: ·) = some rows from e)
    simp only [RDs] at r
    obtain ⟨v, vs', rfl, h1, h2⟩ := r
    obtain ⟨a, ws, rfl, ea, q⟩ := h1.tup_of
    obtain ⟨rv, t1, t2⟩ := rows_at e' h2
    exact ⟨ws :: rv, ⟨a, ws, rv, rfl, ea, rfl, t1⟩, by rw [List.flatten_cons, List.flatten_cons]; exact RDs.append q t2⟩
def itemsD : D → Hd → Option (List D)
  | .tup l, _ => some l
  | .ref n, h => seqAt h n
  | _, _ => none
def cSumT : OpN := two fun d e h => match e with
  | .tup us => (itemsD d h).bind fun l => (rowsOf l).bind fun rows => if us.length + rows.flatten.length ≤ BIG then some (.tup (us ++ rows.flatten), h) else none
  | _ => none
theorem c_sum2 {X : Cx} {k : Kx} (hc : X.calm = true) (hk : k.K = X.K) : CallD X k (.builtin "sum") cSumT := CallD.two fun pins s σ H μ h d e v u us Q I r rh rd re p => by
  cases e <;> first | exact p.elim | skip
  rename_i ws
  obtain ⟨l, el, p⟩ := PostO.of p
  obtain ⟨rows, er, p⟩ := PostO.of p
  obtain ⟨hz, p⟩ := PostO.guard p
  obtain ⟨t, tv, rfl, et, rt⟩ := re.tup_of
  have go : ∀ (b : Bool) (a : Addr) (vs : List V), v = .ref a → SqK b X.K H a vs → RDs H μ l vs → wpAny (model X.prog X.w) X.A (call (.builtin "sum") us) (EP X pins σ Q) X.xe s := fun b a vs ev hs rl => by
    obtain ⟨rv, ta, rr⟩ := rows_at er rl
    subst ev
    refine c_sumT hc pins s σ H _ us Q I r ⟨b, a, t, vs, tv, rv, rfl, hs, ta, et, ?_, fun r' H' e' kp => ?_⟩
    · rw [← rt.length, ← rr.length, ← big_eq]; exact hz
    · obtain ⟨r1, g1⟩ := rh.keep kp
      exact p H' μ g1 r1 _ (RD.tup e' (RDs.grow g1.toExt _ _ (rt.append rr)))
  cases d <;> first | (simp [itemsD] at el; done) | skip
  · simp only [itemsD, Option.some.injEq] at el
    subst el
    obtain ⟨a, vs, rfl, ea, q⟩ := rd.tup_of
    exact go false a vs rfl (SqT.of ea) q
  · obtain ⟨a, ea, rfl⟩ := rd.ref_of
    obtain ⟨vs, e1, q⟩ := rh.seq (show seqAt h _ = some l from el) ea
    exact go true a vs rfl (show SqL X.K H a vs from hk ▸ e1) q
end PN
namespace PN
open PySem L2 PyProof.Rows
/-! ## isinstance of built-in types -/
def tyOfD : D → Hd → Option String
  | .non, _ => some "NoneType"
  | .bl _, _ => some "bool"
  | .int _, _ => some "int"
  | .str _, _ => some "str"
  | .tup _, _ => some "tuple"
  | .ref n, h => match h[n]? with
    | some (.lst _) => some "list"
    | some (.frz _) => some "list"
    | some (.dic _) => some "dict"
    | _ => none
theorem tyOf_ok {K : PySem.W.Frag} {k : Kx} {μ : List Addr} {H : Hp} {h : Hd} {d : D} {v : V} {t : String} (rh : RH k μ h H) (r : RD H μ d v) (e : tyOfD d h = some t) : TyX K H v (.type t) := by
  cases d with
  | non => rw [r.non_of]; simp only [tyOfD, Option.some.injEq] at e; subst e; exact .base .non
  | bl b => rw [r.bl_of]; simp only [tyOfD, Option.some.injEq] at e; subst e; exact .base (.bl b)
  | int b => rw [r.int_of]; simp only [tyOfD, Option.some.injEq] at e; subst e; exact .base (.int b)
  | str b => rw [r.str_of]; simp only [tyOfD, Option.some.injEq] at e; subst e; exact .base (.str b)
  | tup l =>
    obtain ⟨a, vs, rfl, ea, q⟩ := r.tup_of
    simp only [tyOfD, Option.some.injEq] at e; subst e; exact .base (.tup ea)
  | ref n =>
    obtain ⟨a, ea, rfl⟩ := r.ref_of
    simp only [tyOfD] at e
    split at e
    · rename_i l el
      cases e
      obtain ⟨vs, e1, _⟩ := rh.ob _ _ _ el ea
      exact .base (.lst e1)
    · rename_i l el
      cases e
      obtain ⟨vs, ⟨o, e1⟩, _⟩ := rh.ob _ _ _ el ea
      exact .base (.frz e1)
    · rename_i l el
      cases e
      rcases rh.ob _ _ _ el ea with ⟨vs, e1, _⟩ | ⟨vs, e1, _⟩
      · exact .base (.dK e1)
      · exact .base (.dT e1)
    · cases e
/-- the built-in classes that are asked -/
def isiOne (t c : String) : Option Bool :=
  if t = c then some true else if t = "bool" ∧ c = "int" then some true
  else if t ∈ ["NoneType", "bool", "int", "str", "tuple", "list", "dict"] ∧ c ∈ ["bool", "int", "str", "tuple", "list", "dict"] then some false else none
theorem isi_all : (["NoneType", "bool", "int", "str", "tuple", "list", "dict"].all fun t => ["bool", "int", "str", "tuple", "list", "dict"].all fun c => kitB t c == isiOne t c) = true := by decide +kernel
theorem isi_ok {K : PySem.W.Frag} {t c : String} {b : Bool} (ht : t ∈ ["NoneType", "bool", "int", "str", "tuple", "list", "dict"]) (hc : c ∈ ["bool", "int", "str", "tuple", "list", "dict"]) (e : isiOne t c = some b) : PySem.W.kitOne K (.type t) (.type c) = some b := by
  have q := List.all_eq_true.mp (List.all_eq_true.mp isi_all t ht) c hc
  exact kit_ty ((eq_of_beq q).trans e)
def tys : List String := ["NoneType", "bool", "int", "str", "tuple", "list", "dict"]
theorem tyOf_mem {d : D} {h : Hd} {t : String} (e : tyOfD d h = some t) : t ∈ ["NoneType", "bool", "int", "str", "tuple", "list", "dict"] := by
  cases d with
  | ref n =>
    simp only [tyOfD] at e
    split at e <;> first | (cases e; simp; done) | cases e
  | _ => simp only [tyOfD, Option.some.injEq] at e; subst e; simp
def clsOk (c : String) : Bool := ["bool", "int", "str", "tuple", "list", "dict"].contains c
def isiB (c : String) (d : D) (h : Hd) : Option Bool := (tyOfD d h).bind fun t => isiOne t c
def isiAny : List String → D → Hd → Option Bool
  | [], _, _ => some false
  | c :: cs, d, h => match isiB c d h with
    | some true => some true
    | some false => isiAny cs d h
    | none => none
section
variable {X : Cx} {k : Kx} {W : WX} {e c : Expr} {p pos : Pos} {f : Se}
def tTy (n : String) : TE := fun _ H Q => Q (.ty n) H
def dIsi (c : String) (f : Se) : Se := fun env h => (f env h).bind fun d h1 => ofO ((isiB c d h1).map fun b => (.bl b, h1))
theorem PostG.ofO' {α : Type} {μ : List Addr} {H : Hp} {σ : L2.St} {okc : D → Hd → Hp → List Addr → Prop} {o : Option α} {g : α → D × Hd} (q : PostG k W μ H σ okc (PN.ofO (o.map g))) : ∃ a, o = some a ∧ PostG k W μ H σ okc (.ok (g a).1 (g a).2) := by
  cases o with
  | none => exact q.elim
  | some a => exact ⟨a, rfl, q⟩
theorem x_isi {n : String} (hn : clsOk n = true) (ha : PE X e (tX k W f)) (hT : PE X c (tTy n)) (hg : Gl X "isinstance") (hm : X.mg "isinstance" = none)
    (he : starEach [e, c] X.env = (false, eval e X.env) :: starEach [c] X.env) (he2 : starEach [c] X.env = (false, eval c X.env) :: starEach [] X.env) (hpl : (backTo pos (starEach [c] X.env)).any (·.1) = false) : PE X (.Call (.Name "isinstance" p) [e, c] [] pos) (tX k W (dIsi n f)) :=
  PE.weak (pe_callB call_isi hg hm boot_isinstance (pa_cons ha (pa_cons hT pa_nil he2) he) (by decide) (by decide) he hpl) fun σ H Q ⟨μ, env, h, rh, re, q⟩ => then1 rh re q fun d h1 H1 μ1 v g1 r1 e1 rv q1 => by
    obtain ⟨b, eb, q1⟩ := PostG.ofO' q1
    obtain ⟨t, et, eb⟩ := Option.bind_eq_some_iff.mp (show (tyOfD d h1).bind (fun t => isiOne t n) = some b from eb)
    exact ⟨v, .ty n, .type t, .type n, b, rfl, .ty n, tyOf_ok r1 rv et, isi_ok (tyOf_mem et) (by simpa [clsOk] using hn) eb, now2 r1 q1 _ (RD.bl _)⟩
/-- a tuple of them -/
def dIsiT (cs : List String) (f : Se) : Se := fun env h => (f env h).bind fun d h1 => ofO ((isiAny cs d h1).map fun b => (.bl b, h1))
theorem isiAny_ok {K : PySem.W.Frag} {d : D} {h : Hd} {t : String} (et : tyOfD d h = some t) : ∀ {cs : List String} {b : Bool}, cs.all clsOk = true → isiAny cs d h = some b → PySem.W.kitAny K (.type t) (cs.map Value.type) = some b
  | [], b, _, e => by simp only [isiAny] at e; rw [← e]; exact kitAny_nil
  | c :: cs, b, hc, e => by
    simp only [List.all_cons, Bool.and_eq_true] at hc
    simp only [isiAny, isiB, et, Option.bind_some] at e
    have one : ∀ r, isiOne t c = some r → PySem.W.kitOne K (.type t) (.type c) = some r := fun r er => isi_ok (tyOf_mem et) (by simpa [clsOk] using hc.1) er
    split at e
    · rename_i er
      cases e
      exact kitAny_cons (one _ er) (fun z => nomatch z) fun _ => rfl
    · rename_i er
      exact kitAny_cons (one _ er) (fun _ => isiAny_ok et hc.2 e) fun z => nomatch z
    · cases e
theorem x_isiT {c1 c2 : Expr} {n1 n2 : String} {j : Nat} {tp : Pos} (hn : [n1, n2].all clsOk = true) (ha : PE X e (tX k W f)) (h1 : PE X c1 (tTy n1)) (h2 : PE X c2 (tTy n2)) (hg : Gl X "isinstance") (hm : X.mg "isinstance" = none)
    (s1 : starEach [c1, c2] X.env = (false, eval c1 X.env) :: starEach [c2] X.env) (s2 : starEach [c2] X.env = (false, eval c2 X.env) :: starEach [] X.env)
    (he : starEach [e, .Tuple [c1, c2] j tp] X.env = (false, eval e X.env) :: starEach [.Tuple [c1, c2] j tp] X.env) (he2 : starEach [.Tuple [c1, c2] j tp] X.env = (false, eval (.Tuple [c1, c2] j tp) X.env) :: starEach [] X.env)
    (hpl : (backTo pos (starEach [.Tuple [c1, c2] j tp] X.env)).any (·.1) = false) : PE X (.Call (.Name "isinstance" p) [e, .Tuple [c1, c2] j tp] [] pos) (tX k W (dIsiT [n1, n2] f)) :=
  PE.weak (pe_callB call_isiT hg hm boot_isinstance (pa_cons ha (pa_cons (pe_tup (pa_cons h1 (pa_cons h2 pa_nil s2) s1)) pa_nil he2) he) (by decide) (by decide) he hpl) fun σ H Q ⟨μ, env, h, rh, re, q⟩ => then1 rh re q fun d h1 H1 μ1 v g1 r1 e1 rv q1 => by
    obtain ⟨b, eb, q1⟩ := PostG.ofO' q1
    refine ⟨by show 2 ≤ sizeLine; decide, fun a ha => ?_⟩
    have gf : Grow H1 μ1 (upd H1 a (.tup [.ty n1, .ty n2])) μ1 := Grow.fresh ha
    have et : ∃ t, tyOfD d h1 = some t := by
      cases z : tyOfD d h1 with
      | some t => exact ⟨t, rfl⟩
      | none => simp [isiAny, isiB, z] at eb
    obtain ⟨t, et⟩ := et
    exact ⟨v, a, [.ty n1, .ty n2], .type t, [.type n1, .type n2], b, rfl, upd_same, .cons (.ty n1) (.cons (.ty n2) .nil), tyOf_ok (r1.fresh ha) (RD.grow gf.toExt _ _ rv) et, isiAny_ok et hn eb, q1 _ _ gf (r1.fresh ha) _ (RD.bl _)⟩
end
end PN
namespace PN
open PySem L2 PyProof.Rows
/-! ## sorted of a tuple -/
section
variable {β : Type} {R : Value → β → Prop} {enc : β → PyData} {vs : List Value} {bs : List β} {prog : Program} {w : World} {A : Around} {E : Value → Shared → Prop} {s : Shared}
theorem sorted_tuple {a : Addr} {Q : Value → Shared → Prop} (ht : IsTup s.heap a vs.toArray) (e : PySem.W.EachIs R vs bs) (er : PySem.W.EachIs (fun v b => ∃ as, Reads s.heap v (enc b) as) vs bs) (hal : PySem.W.AllAlike (bs.map enc)) (hk : PySem.W.Sortable (bs.map enc)) (hL : bs.length ≤ sizeLine)
    (hu : ∀ b, b ∈ bs → A.units + 2 + (enc b).depth < cLine)
    (h : ∀ (h1 h' : Heap) out, (∀ b o, s.heap.get? b = some o → h1.get? b = some o) → (∀ b o, h1.get? b = some o → h'.get? b = some o) → (∃ c, h'.get? h1.objs.size = some (seqObj "list" (List.toArray out) c)) → out.length = bs.length → PySem.W.EachIs R out (bs.mergeSort (PySem.W.dataLe false enc)) → Q (.ref h1.objs.size) { s with heap := h' }) :
    wpAny (model prog w) A (call (.builtin "sorted") [.ref a]) Q E s := by
  obtain ⟨o, ho, hc, n, hd⟩ := id ht
  have hL' : vs.length ≤ sizeLine := by rw [e.length]; exact hL
  refine Calls.call_function_entry kind_sorted plain_sorted entry_sorted (args_sorted1 _) ?_
  unfold Builtin.«sorted»
  refine wpAny_bind (m := checkCount "sorted" 1 1 _) (wpAny_pure ?_)
  refine wpAny_bind (wpAny_collect_seq (s := s) a (.inr rfl) ho hc hd (fun h1 k1 => ?_) (by simpa using hL'))
  refine wpAny_bind (wpAny_newList ?_ (by simpa using hL'))
  have k2 : ∀ b o, h1.get? b = some o → (h1.push (seqObj "list" vs.toArray 0)).get? b = some o := fun b o e => Heap.get?_push_of_some _ e
  have hl : (h1.push (seqObj "list" vs.toArray 0)).get? h1.objs.size = some (seqObj "list" vs.toArray 0) := Heap.get?_push_size _ rfl
  have er' : PySem.W.EachIs (fun v b => ∃ as, Reads (PySem.W.sortingHeap (h1.push (seqObj "list" vs.toArray 0)) h1.objs.size vs) v (enc b) as) vs bs := er.mono fun _ _ ⟨as, r⟩ => ⟨as, PyProof.Rows.Reads.keeps (fun b o e => PySem.W.sortingHeap_old (Nat.ne_of_lt (Heap.lt_size (k1 b o e))) (k2 b o (k1 b o e))) r⟩
  refine wpAny_bind (wpAny_holding (wpAny_call_entry slot_list_sort ⟨_, hl, rfl⟩ entry_list_sort (PySem.W.list_sort_vals (s := { s with heap := h1.push (seqObj "list" vs.toArray 0) }) (κ := PySem.W.dataKind (PySem.W.sortingHeap (h1.push (seqObj "list" vs.toArray 0)) h1.objs.size vs) (bs.map enc)) hl
    (PySem.W.SortsAt.data (s := { s with heap := PySem.W.sortingHeap (h1.push (seqObj "list" vs.toArray 0)) h1.objs.size vs }) (PySem.W.each_map (R := fun v d => ∃ as, Reads (PySem.W.sortingHeap (h1.push (seqObj "list" vs.toArray 0)) h1.objs.size vs) v d as) enc er') hal hk (PySem.W.bound_map hu)) (by rw [e.length]; exact hL) ⟨.none, rfl, ?_⟩) (args_list_sort _)))
  refine wpAny_pure ⟨_, rfl, h h1 _ (PySem.W.sortVals (PySem.W.dataKind (PySem.W.sortingHeap (h1.push (seqObj "list" vs.toArray 0)) h1.objs.size vs) (bs.map enc)) false vs vs) k1 (fun b o e => ?_) (sortedHeap_at hl) (by rw [PySem.W.sortVals_length false rfl]; exact e.length) (PySem.W.sortVals_data false e er' hal)⟩
  have lt := Heap.lt_size e
  rw [sortedHeap_old (Nat.ne_of_lt lt) (by rw [Heap.size_push]; exact Nat.lt_succ_of_lt lt)]
  exact k2 b o e
end
theorem sortable_of {X : Cx} {k : Kx} {H : Hp} {μ : List Addr} {l : List D} {vs : List V} {us : List Value} {pins : List (Addr × Obj)} {σ : L2.St} {s : Shared} (I : L2.Inv X pins σ H s) (hs : sortableB l = true) (q : RDs H μ l vs) (rv : Vals vs us) :
    PySem.W.EachIs (fun u d => ∃ as, Reads s.heap u (D.py d) as) us l ∧ PySem.W.AllAlike (l.map D.py) ∧ PySem.W.Sortable (l.map D.py) ∧ ∀ b, b ∈ l → b.depth ≤ 50 := by
  simp only [sortableB, Bool.and_eq_true, Bool.or_eq_true, decide_eq_true_eq] at hs
  obtain ⟨⟨⟨hf, hal⟩, hsh⟩, hd⟩ := hs
  have hfm := flat_of_mem hf
  refine ⟨each_imp (q.each rv) fun u d hd ⟨v, h1, h2⟩ => Dp.reads I d.py v u (h2.dp d v (hfm d hd)) h1, fun x hx y hy => ?_, ?_, fun b hb => Nat.le_trans (depth_of_mem b hb) hd⟩
  · obtain ⟨x', hx', rfl⟩ := List.mem_map.mp hx
    obtain ⟨y', hy', rfl⟩ := List.mem_map.mp hy
    exact List.all_eq_true.mp (List.all_eq_true.mp hal x' hx') y' hy'
  · rcases hsh with hsh | hsh
    · refine .inl fun x hx => ?_
      obtain ⟨x', hx', rfl⟩ := List.mem_map.mp hx
      have := List.all_eq_true.mp hsh x' hx'
      cases x' <;> first | (simp [tupNe] at this; done) | skip
      rename_i m
      cases m with
      | nil => simp [tupNe] at this
      | cons y r => exact ⟨y.py, D.pyL r, by simp [D.py, D.pyL]⟩
    · refine .inr fun x hx => ?_
      obtain ⟨x', hx', rfl⟩ := List.mem_map.mp hx
      have := List.all_eq_true.mp hsh x' hx'
      cases x' <;> first | (simp [plainS] at this; done) | (simp [D.py])
def cSort : OpN := one fun d h => match d with
  | .tup l => if sortableB l = true ∧ l.length ≤ BIG then some (.ref h.length, h ++ [.lst (l.mergeSort leD)]) else none
  | d => (seqD d h).bind fun l => if sortableB l = true ∧ l.length ≤ BIG then some (.ref h.length, h ++ [.lst (l.mergeSort leD)]) else none
theorem c_sort {X : Cx} (hu : X.A.units + 64 < cLine) {k : Kx} (hk : k.K = X.K) : CallD X k (.builtin "sorted") cSort := by
  intro pins s σ H xs us Q I r ⟨μ, h, ds, rh, rd, p⟩
  by_cases tt : ∃ l, ds = [.tup l]
  · obtain ⟨l, rfl⟩ := tt
    obtain ⟨⟨hs, hz⟩, p⟩ := PostO.guard (show PostO k μ H Q (if sortableB l = true ∧ l.length ≤ BIG then some (.ref h.length, h ++ [.lst (l.mergeSort leD)]) else none) from p)
    obtain ⟨v, rfl, rv0⟩ := rd.one
    obtain ⟨a, vs, rfl, ea, q⟩ := rv0.tup_of
    obtain ⟨u, rfl, ru⟩ := vals1 r
    cases ru
    obtain ⟨its, rv, pt, hz2⟩ := I.tuple (SqT.of ea)
    obtain ⟨er, halk, hsort, hdep⟩ := sortable_of (k := k) I hs q rv
    refine sorted_tuple (R := fun u d => ∃ v, RelV v u ∧ RD H μ d v) pt (q.each rv) er halk hsort (by rw [← big_eq]; exact hz) (fun b hb => ?_) fun h1 h2 out k1 k2 ⟨c, hc⟩ hout ho => ?_
    · rw [depth_py]
      have := hdep b hb
      omega
    · obtain ⟨vs', rv', q'⟩ := RDs.ofEach ho
      have I1 := I.kept (t' := s.toks) k1
      have hn : H h1.objs.size = none := I1.hok.fresh (Nat.le_refl _)
      have I' := I1.laid (t' := s.toks) (a := h1.objs.size) (o := .lst vs') (h' := h2) k2 (Nat.le_refl _) ⟨?_, out, c, rv', hc⟩
      · exact ⟨.ref _, _, I', rfl, PostO.newLst rh q' p _ hn⟩
      · rw [rv'.length, hout, ← big_eq]; exact hz
  · refine c_sorted hu hk pins s σ H xs us Q I r ⟨μ, h, ds, rh, rd, ?_⟩
    rcases ds with _ | ⟨d, _ | ⟨d2, r2⟩⟩
    · exact p.elim
    · cases d with
      | tup l => exact (tt ⟨l, rfl⟩).elim
      | _ => exact p
    · exact p.elim
/-! ## list(range(n)), tuple(range(n)) -/
def rgD (a b : Int) : List D := (List.range (b - a).toNat).map fun i => .int (a + (i : Nat))
theorem rgD_v {H : Hp} {μ : List Addr} (a b : Int) : RDs H μ (rgD a b) (rgV a b) := by
  unfold rgD rgV
  generalize List.range (b - a).toNat = l
  induction l with
  | nil => exact RDs.nil
  | cons x l ih => exact RDs.cons (RD.int _) ih
section
variable {X : Cx} {k : Kx} {W : WX} {e e2 : Expr} {p p2 pos pos2 : Pos} {f f2 : Se}
def rgOk (a b : Int) : Prop := -RB ≤ a ∧ a < RB ∧ -RB ≤ b ∧ b < RB ∧ (b - a).toNat ≤ BIG
instance (a b : Int) : Decidable (rgOk a b) := inferInstanceAs (Decidable (_ ∧ _))
theorem rgOk_of {a b : Int} (h : rgOk a b) : RgOk a b := by
  have h62 : (2 : Int) ^ 62 = RB := by unfold RB; decide
  have h24 : (2 : Nat) ^ 24 = BIG := by unfold BIG; decide
  unfold RgOk
  rw [h62, h24]
  exact h
def dLRg (f : Se) : Se := fun env h => (f env h).bind fun d h1 => match d with
  | .int n => if rgOk 0 n then .ok (.ref h1.length) (h1 ++ [.lst (rgD 0 n)]) else .bad
  | _ => .bad
def dTRg (f : Se) : Se := fun env h => (f env h).bind fun d h1 => match d with
  | .int n => if rgOk 0 n then .ok (.tup (rgD 0 n)) h1 else .bad
  | _ => .bad
theorem x_listRg (hc : X.calm = true) (hg : Gl X "list") (hm : X.mg "list" = none) (hg2 : Gl X "range") (hm2 : X.mg "range" = none) (ha : PE X e (tX k W f)) (n2 : starEach [e] X.env = (false, eval e X.env) :: starEach [] X.env)
    (na : starEach [.Call (.Name "range" p2) [e] [] pos2] X.env = (false, eval (.Call (.Name "range" p2) [e] [] pos2) X.env) :: starEach [] X.env) : PE X (.Call (.Name "list" p) [.Call (.Name "range" p2) [e] [] pos2] [] pos) (tX k W (dLRg f)) :=
  PE.weak (pe_listRg hc hg hm (prg_1 hg2 hm2 ha n2) na) fun σ H Q ⟨μ, env, h, rh, re, q⟩ => then1 rh re q fun d h1 H1 μ1 v g1 r1 e1 rv q1 => by
    cases d <;> first | exact q1.elim | skip
    rename_i n
    obtain ⟨ok, q1⟩ := PostG.guard q1
    exact ⟨n, rv.int_of, rgOk_of ok, q1.toO.newLst r1 (rgD_v 0 n)⟩
theorem x_tupRg (hc : X.calm = true) (hg : Gl X "tuple") (hm : X.mg "tuple" = none) (hg2 : Gl X "range") (hm2 : X.mg "range" = none) (ha : PE X e (tX k W f)) (n2 : starEach [e] X.env = (false, eval e X.env) :: starEach [] X.env)
    (na : starEach [.Call (.Name "range" p2) [e] [] pos2] X.env = (false, eval (.Call (.Name "range" p2) [e] [] pos2) X.env) :: starEach [] X.env) : PE X (.Call (.Name "tuple" p) [.Call (.Name "range" p2) [e] [] pos2] [] pos) (tX k W (dTRg f)) :=
  PE.weak (pe_tupRg hc hg hm (prg_1 hg2 hm2 ha n2) na) fun σ H Q ⟨μ, env, h, rh, re, q⟩ => then1 rh re q fun d h1 H1 μ1 v g1 r1 e1 rv q1 => by
    cases d <;> first | exact q1.elim | skip
    rename_i n
    obtain ⟨ok, q1⟩ := PostG.guard q1
    exact ⟨n, rv.int_of, rgOk_of ok, q1.toO.newTup r1 (rgD_v 0 n)⟩
end
/-! ## repr -/
def cRepr : OpN := one fun d h => (rd h 4 d).bind fun p => if isDisplay p = true ∧ p.showable = true ∧ p.hasDict = false ∧ p.depth ≤ 50 ∧ p.shown.length ≤ BIG then some (.str p.shown, h) else none
theorem c_repr {X : Cx} (hu : X.A.units + 64 < cLine) (hg : X.A.guards = some []) {k : Kx} (hk : k.K = X.K) : CallD X k (.builtin "repr") cRepr := CallD.one fun pins s σ H μ h d v us Q I r rh rd0 p => by
  obtain ⟨q, eq, p⟩ := PostO.of p
  obtain ⟨⟨c1, c2, c3, c4, c5⟩, p⟩ := PostO.guard p
  obtain ⟨u, rfl, ru⟩ := vals1 r
  obtain ⟨as, r1⟩ := Dp.reads I q v u (hk ▸ rd_dp rh 4 d v q eq rd0) ru
  obtain ⟨a, rfl⟩ := isRef_of_reads r1 c1
  exact repr_of_reads' r1 c2 (PyData.noDict_hsm c3) hg (by omega) (fun _ _ e => e) (fun h' u tk hk => ⟨.str q.shown, H, I.kept hk, ⟨_, rfl⟩, p.now rh (RD.str _)⟩) (by rw [← big_eq]; exact c5)
/-! ## methods -/
abbrev OpM := D → List D → Hd → Option (D × Hd)
def MtdD (X : Cx) (k : Kx) (id : String) (g : OpM) : Prop := MtR X id (fun x xs H Q => ∃ μ h d ds, RH k μ h H ∧ RD H μ d x ∧ RDs H μ ds xs ∧ PostO k μ H Q (g d ds h))
inductive MT where
  | list
  | dict
  | str
  deriving DecidableEq
def MT.nm : MT → String
  | .list => "list"
  | .dict => "dict"
  | .str => "str"
def tyIs : MT → D → Hd → Bool
  | .list, .ref n, h => (seqAt h n).isSome
  | .dict, .ref n, h => (dicAt h n).isSome
  | .str, .str _, _ => true
  | _, _, _ => false
theorem tyIs_v {k : Kx} {μ : List Addr} {h : Hd} {H : Hp} {t : MT} {d : D} {v : V} (rh : RH k μ h H) (r : RD H μ d v) (e : tyIs t d h = true) : tyV k.K t.nm v H := by
  cases t with
  | list =>
    cases d <;> first | (simp [tyIs] at e; done) | skip
    simp only [tyIs] at e
    obtain ⟨l, el⟩ := Option.isSome_iff_exists.mp e
    obtain ⟨a, ea, rfl⟩ := r.ref_of
    obtain ⟨vs, e1, _⟩ := rh.seq el ea
    exact .inl ⟨rfl, vs, e1⟩
  | dict =>
    cases d <;> first | (simp [tyIs] at e; done) | skip
    simp only [tyIs] at e
    obtain ⟨l, el⟩ := Option.isSome_iff_exists.mp e
    obtain ⟨a, ea, rfl⟩ := r.ref_of
    refine .inr (.inr (.inl ⟨rfl, ?_⟩))
    rcases rh.ob _ _ _ (dicAt_eq el) ea with ⟨vs, e1, _⟩ | ⟨vs, e1, _⟩
    · exact .inl ⟨vs, e1⟩
    · exact .inr ⟨vs, e1⟩
  | str =>
    cases d <;> first | (simp [tyIs] at e; done) | skip
    rw [r.str_of]; rfl
def dMeth (t : MT) (g : OpM) (fo : Se) (fs : Sa) : Se := fun env h => (fo env h).bind fun o h1 => if tyIs t o h1 = true then (fs env h1).bind fun l h2 => ofO (g o l h2) else .bad
def dMeth0 (t : MT) (g : OpM) (fo : Se) : Se := fun env h => (fo env h).bind fun o h1 => if tyIs t o h1 = true then ofO (g o [] h1) else .bad
section
variable {X : Cx} {k : Kx} {W : WX} {o e : Expr} {es : List Expr} {fo : Se} {fs : Sa} {name : Str} {apos cpos : Pos} {id : String} {t : MT} {g : OpM}
theorem x_meth (hk : k.K = X.K) (pa : PlainAttrs t.nm) (slot : Slot t.nm name id) (hty : typeOf (.builtin id) = pure (.type "method_descriptor")) (hm : MtdD X k id g) (ho : PE X o (tX k W fo)) (ha : PA X (e :: es) (tA k W fs))
    (hbase : attributeBase o name X.env (eval o X.env) = eval o X.env)
    (hfew : ((backTo cpos (starEach (e :: es) X.env)).all (fun x => !x.1) && (backToKw cpos (keywordEach [] X.env)).all (fun x => x.1.isSome)
      && decide ((e :: es).length + ([] : List Keyword).length + (if ([] : List Keyword).isEmpty then 0 else 1) < 30)) = true)
    (hline : (apos.endLine == cpos.line) = true) (hs : starEach (e :: es) X.env = (false, eval e X.env) :: starEach es X.env) (hplain : (backTo cpos (starEach es X.env)).any (·.1) = false) :
    PE X (.Call (.Attribute o name apos) (e :: es) [] cpos) (tX k W (dMeth t g fo fs)) :=
  PE.weak (pe_bm pa slot hty hm ho ha hbase hfew hline hs hplain) fun σ H Q ⟨μ, env, h, rh, re, q⟩ => then1 rh re q fun d h1 H1 μ1 v g1 r1 e1 rv q1 => by
    obtain ⟨ht, q1⟩ := PostG.guard q1
    exact ⟨hk ▸ tyIs_v r1 rv ht, thenA r1 e1 q1 fun l h2 H2 μ2 vs g2 r2 e2 rl q2 => ⟨μ2, h2, d, l, r2, RD.grow g2.toExt _ _ rv, rl, q2.ofO⟩⟩
theorem x_meth0 (hk : k.K = X.K) (pa : PlainAttrs t.nm) (slot : Slot t.nm name id) (hty : typeOf (.builtin id) = pure (.type "method_descriptor")) (hm : MtdD X k id g) (ho : PE X o (tX k W fo))
    (hbase : attributeBase o name X.env (eval o X.env) = eval o X.env) (hline : (apos.endLine == cpos.line) = true) : PE X (.Call (.Attribute o name apos) [] [] cpos) (tX k W (dMeth0 t g fo)) :=
  PE.weak (pe_bm0 pa slot hty hm ho hbase hline) fun σ H Q ⟨μ, env, h, rh, re, q⟩ => then1 rh re q fun d h1 H1 μ1 v g1 r1 e1 rv q1 => by
    obtain ⟨ht, q1⟩ := PostG.guard q1
    exact ⟨hk ▸ tyIs_v r1 rv ht, μ1, h1, d, [], r1, rv, RDs.nil, q1.ofO⟩
def mAppend : OpM
  | .ref n, [d], h => (lstAt h n).bind fun l => if l.length < BIG then some (.non, h.set n (.lst (l ++ [d]))) else none
  | _, _, _ => none
/-- a list of ours is written -/
theorem lst_write {μ : List Addr} {h : Hd} {H : Hp} {n : Nat} {a : Addr} {l l' : List D} {vs : List V} (rh : RH k μ h H) (el : lstAt h n = some l) (ea : μ[n]? = some a) (r : RDs H μ l' vs) : RH k μ (h.set n (.lst l')) (upd H a (.lst vs)) ∧ Grow H μ (upd H a (.lst vs)) μ :=
  rh.write (lstAt_eq el) ea rfl rfl fun g => ⟨vs, upd_same, RDs.grow g.toExt _ _ r⟩
theorem m_append : MtdD X k "list.append" mAppend := by
  intro pins s σ H x xs v us Q I rx rxs ⟨μ, h, d, ds, rh, rd, rds, p⟩
  unfold mAppend at p
  split at p
  · rename_i n d1
    obtain ⟨l, el, p⟩ := PostO.of p
    obtain ⟨hz, p⟩ := PostO.guard p
    obtain ⟨a, ea, rfl⟩ := rd.ref_of
    obtain ⟨vs, e1, q⟩ := rh.lst el ea
    obtain ⟨y, rfl, ry⟩ := rds.one
    obtain ⟨w1, w2⟩ := lst_write rh el ea (q.append (RDs.cons ry RDs.nil))
    exact mt_append pins s σ H _ _ v us Q I rx rxs ⟨a, vs, y, rfl, rfl, e1, by rw [← q.length, ← big_eq]; exact hz, p _ _ w2 w1 _ RD.non⟩
  · exact p.elim
def mExtend : OpM
  | .ref n, [.ref m], h => (lstAt h n).bind fun l => (lstAt h m).bind fun l2 => if l.length + l2.length ≤ BIG then some (.non, h.set n (.lst (l ++ l2))) else none
  | _, _, _ => none
theorem m_extend : MtdD X k "list.extend" mExtend := by
  intro pins s σ H x xs v us Q I rx rxs ⟨μ, h, d, ds, rh, rd, rds, p⟩
  unfold mExtend at p
  split at p
  · rename_i n m
    obtain ⟨l, el, p⟩ := PostO.of p
    obtain ⟨l2, el2, p⟩ := PostO.of p
    obtain ⟨hz, p⟩ := PostO.guard p
    obtain ⟨a, ea, rfl⟩ := rd.ref_of
    obtain ⟨y, rfl, ry⟩ := rds.one
    obtain ⟨b, eb, rfl⟩ := ry.ref_of
    obtain ⟨vs, e1, q⟩ := rh.lst el ea
    obtain ⟨vs2, e2, q2⟩ := rh.lst el2 eb
    obtain ⟨w1, w2⟩ := lst_write rh el ea (q.append q2)
    exact mt_extend pins s σ H _ _ v us Q I rx rxs ⟨a, b, vs, vs2, rfl, rfl, e1, e2, by rw [← q.length, ← q2.length, ← big_eq]; exact hz, p _ _ w2 w1 _ RD.non⟩
  · exact p.elim
def mPop : OpM
  | .ref n, [], h => (lstAt h n).bind fun l => (l[l.length - 1]?).map fun d => (d, h.set n (.lst l.dropLast))
  | .ref n, [.int i], h => (lstAt h n).bind fun l => (ixN l.length i).bind fun j => (l[j]?).map fun d => (d, h.set n (.lst (l.eraseIdx j)))
  | _, _, _ => none
theorem RDs.dropLast {H μ} {l : List D} {vs : List V} (r : RDs H μ l vs) : RDs H μ l.dropLast vs.dropLast := by
  rw [List.dropLast_eq_take, List.dropLast_eq_take, ← r.length]
  exact r.take _
theorem RDs.eraseIdx {H μ} : ∀ {l : List D} {vs : List V} (i : Nat), RDs H μ l vs → RDs H μ (l.eraseIdx i) (vs.eraseIdx i)
  | [], _, _, h => by simp only [RDs] at h; rw [h]; exact RDs.nil
  | x :: l, _, 0, h => by
    simp only [RDs] at h
    obtain ⟨w, r, rfl, h1, h2⟩ := h
    exact h2
  | x :: l, _, i + 1, h => by
    simp only [RDs] at h
    obtain ⟨w, r, rfl, h1, h2⟩ := h
    exact RDs.cons h1 (RDs.eraseIdx i h2)
theorem m_pop : MtdD X k "list.pop" mPop := by
  intro pins s σ H x xs v us Q I rx rxs ⟨μ, h, d, ds, rh, rd, rds, p⟩
  unfold mPop at p
  split at p
  · rename_i n
    obtain ⟨l, el, p⟩ := PostO.of p
    obtain ⟨d, ed, p⟩ := PostO.mapD p
    obtain ⟨a, ea, rfl⟩ := rd.ref_of
    obtain ⟨vs, e1, q⟩ := rh.lst el ea
    obtain ⟨y, ey, ry⟩ := q.get ed
    have hxs : xs = [] := by simpa only [RDs] using rds
    subst hxs
    obtain ⟨w1, w2⟩ := lst_write rh el ea q.dropLast
    exact mt_pop pins s σ H _ _ v us Q I rx rxs ⟨a, vs, y, rfl, rfl, e1, by rw [← q.length]; exact ey, p _ _ w2 w1 _ (RD.grow w2.toExt _ _ ry)⟩
  · rename_i n i
    obtain ⟨l, el, p⟩ := PostO.of p
    obtain ⟨j, ej, p⟩ := PostO.of p
    obtain ⟨d, ed, p⟩ := PostO.mapD p
    obtain ⟨a, ea, rfl⟩ := rd.ref_of
    obtain ⟨vs, e1, q⟩ := rh.lst el ea
    obtain ⟨y, ey, ry⟩ := q.get ed
    obtain ⟨u, rfl, ru⟩ := rds.one
    obtain ⟨w1, w2⟩ := lst_write rh el ea (q.eraseIdx j)
    obtain ⟨h1, h2, h3, h4⟩ := ixN_seq ej
    have hsz : vs.length ≤ sizeLine := (I.lstM e1).1
    have hn := line63
    have hql := q.length
    exact mt_popAt pins s σ H _ _ v us Q I rx rxs ⟨a, vs, i, j, y, rfl, by rw [ru.int_of], e1, by omega, by omega, by rw [← q.length]; exact h1, ey, p _ _ w2 w1 _ (RD.grow w2.toExt _ _ ry)⟩
  · exact p.elim
end
end PN
namespace PN
open PySem L2 PyProof.Rows
/-! ## defs: their promises -/
structure FnG (P : Program) (w : World) (K : PySem.W.Frag) (mg : Str → Option Value) (base : Heap) (k : Nat) (f : Addr) (fd : FuncData) (ps : List Str) (sp : Sp) : Prop where
  len : ∀ vs H Q E, sp vs H Q E → vs.length = ps.length
  run : ∀ (A : Around) (outer : List PySem.Env) (s : Shared) (H : Hp) (args : Args) (us : List Value) (vs : List V) (Q : VK) (E : XK), Room k A → A.guards = some [] → Env0 P w K mg base A outer s H → BindsTo s fd args (ps.zip us) → Vals vs us → sp vs H Q E →
    codeAny (model P w) A (.call (.ref f) args) (CR (L2.CX P w) outer P w H s Q E) s
theorem FnG.mono {P : Program} {w : World} {K : PySem.W.Frag} {mg : Str → Option Value} {base : Heap} {j k : Nat} {f : Addr} {fd : FuncData} {ps : List Str} {sp : Sp} (F : FnG P w K mg base j f fd ps sp) (h : j ≤ k) : FnG P w K mg base k f fd ps sp :=
  ⟨F.len, fun A outer s H args us vs Q E hr => F.run A outer s H args us vs Q E (hr.mono h)⟩
/-- what a def over D promises -/
def spM (k : Kx) (n : Nat) (m : Mf) : Sp := fun vs H Q E => vs.length = n ∧ ∃ μ h ds, RH k μ h H ∧ RDs H μ ds vs ∧ PostG k (fun c dx _ H' => E c dx H') μ H [] (okV Q) (m ds h)
/-- a body's run as a def -/
def fnEnd : Ro → Rs D
  | .nx _ h => .ok .non h
  | .rt d h => .ok d h
  | .xc x _ h => .err x h
  | _ => .bad
def mOf (N : Nat) (b : Ss) : Mf := fun ds h => fnEnd (b (ds.map some ++ List.replicate (N - ds.length) none) h)
section
variable {X : Cx} {k : Kx} {W : WX} {kk : Nat} {f : Addr} {fd : FuncData} {ps : List Str} {x : Str} {p pos : Pos} {e : Expr} {es : List Expr} {fs : Sa} {m : Mf}
theorem run_G {pins : List (Addr × Obj)} {σ : L2.St} {H : Hp} {s : Shared} {Q : VK} {us : List Value} {vs : List V} {sp : Sp} (F : FnG X.prog X.w X.K X.mg X.base kk f fd ps sp) (hr : Room kk X.A) (hgd : X.A.guards = some []) (hb : Binds X.K fd ps []) (tk : Takes X W)
    (I : L2.Inv X pins σ H s) (r : Vals vs us) (h : sp vs H Q (WE W σ)) : wpAny (model X.prog X.w) X.A (call (.ref f) us) (EP X pins σ Q) X.xe s := by
  have hl : us.length = ps.length := by rw [← r.length]; exact F.len _ _ _ _ h
  have b := hb s us I.kIn (by rw [List.append_nil]; exact hl)
  rw [List.append_nil] at b
  refine wpAny_call (codeAny_mono (F.run X.A X.stack s H ⟨us, []⟩ us vs Q (WE W σ) hr hgd I.env0 b r h) fun r s' hq => ?_)
  cases r with
  | error e => exact passAt tk σ pins H s e s' I hq
  | ok fl =>
    cases fl with
    | ret u => exact I.after hq
    | next => exact False.elim hq
    | brk => exact False.elim hq
    | cont => exact False.elim hq
/-- what a def over D makes of a call's arguments -/
def dFn (n : Nat) (m : Mf) (fs : Sa) : Se := fun env h => gc h ((fs env h).bind fun l h1 => if l.length = n then m l h1 else .bad)
theorem PostG.slots {μ : List Addr} {H : Hp} {σ σ' : L2.St} {okc : D → Hd → Hp → List Addr → Prop} {r : Rs D} (q : PostG k W μ H σ okc r) : PostG k (fun c dx _ H' => W c dx σ H') μ H σ' okc r := by
  cases r with
  | ok a h => exact q
  | err x h => exact q
  | bad => exact q
theorem x_fn (F : FnG X.prog X.w X.K X.mg X.base kk f fd ps (spM k ps.length m)) (hr : Room kk X.A) (hgd : X.A.guards = some []) (tk : Takes X W) (hg : Gl X x) (hm : X.mg x = some (.ref f)) (hk : PySem.W.keepIn X.K (.ref f) = true) (hb : Binds X.K fd ps [])
    (ha : PA X (e :: es) (tA k W fs)) (hdb : (x == ("__debug__" : Str)) = false) (he : starEach (e :: es) X.env = (false, eval e X.env) :: starEach es X.env) (hpl : (backTo pos (starEach es X.env)).any (·.1) = false) :
    PE X (.Call (.Name x p) (e :: es) [] pos) (tX k W (dFn ps.length m fs)) := by
  refine ⟨fun pins s σ H Q I ⟨μ, env, h, rh, re, q⟩ => ?_⟩
  refine wpAny_Call_Name_kw (ld_glob I hg hm ?_ hdb)
  have q' := PostG.gc rh q
  have law : tA k W fs σ H fun vs H1 => spM k ps.length m vs H1 Q (WE W σ) := thenA rh re q' fun l h1 H1 μ1 vs g1 r1 e1 rl q1 => by
    obtain ⟨hl, q1⟩ := PostG.guard q1
    exact ⟨by rw [← rl.length]; exact hl, μ1, h1, l, r1, rl, q1.slots⟩
  refine PySem.W.callWith_K (h₀ := X.base) I.ok.mod.kin hk (thn (ha.run pos pins s σ H _ I law) fun us s1 ⟨vs, H1, I1, r, z⟩ => ⟨I1.kIn, ?_⟩) he hpl
  exact run_G F hr hgd hb tk I1 r z
theorem x_fn0 (F : FnG X.prog X.w X.K X.mg X.base kk f fd ps (spM k ps.length m)) (hr : Room kk X.A) (hgd : X.A.guards = some []) (tk : Takes X W) (hg : Gl X x) (hm : X.mg x = some (.ref f)) (hk : PySem.W.keepIn X.K (.ref f) = true) (hb : Binds X.K fd ps [])
    (hdb : (x == ("__debug__" : Str)) = false) : PE X (.Call (.Name x p) [] [] pos) (tX k W (dFn ps.length m dNil)) := by
  refine ⟨fun pins s σ H Q I ⟨μ, env, h, rh, re, q⟩ => ?_⟩
  refine wpAny_Call_Name_kw (ld_glob I hg hm ?_ hdb)
  have q' := PostG.gc rh q
  obtain ⟨hl, q1⟩ := PostG.guard (show PostG k W μ H σ (okV Q) (if ([] : List D).length = ps.length then m [] h else .bad) from q')
  exact PySem.W.callWith_K0 I.kIn hk (run_G (us := []) F hr hgd hb tk I .nil ⟨hl, μ, h, [], rh, RDs.nil, q1.slots⟩)
end
/-! ### a def by its body -/
section
variable {P : Program} {w : World} {K : PySem.W.Frag} {mg : Str → Option Value} {base : Heap}
theorem re_start {H : Hp} {μ : List Addr} {ds : List D} {vs : List V} (N : List Str) (r : RDs H μ ds vs) : RE H μ (ds.map some ++ List.replicate (N.length - ds.length) none) (L2.start N vs) := by
  refine ⟨by simp [L2.start, r.length], fun i d e => ?_⟩
  by_cases hi : i < ds.length
  · rw [List.getElem?_append_left (by simpa using hi), List.getElem?_map] at e
    cases c : ds[i]? with
    | none => rw [c] at e; cases e
    | some d' =>
      rw [c] at e; cases e
      obtain ⟨v, ev, q⟩ := r.get c
      refine ⟨v, ?_, q⟩
      unfold L2.start
      rw [List.getElem?_append_left (by rw [List.length_map, ← r.length]; exact hi), List.getElem?_map, ev]
      rfl
  · rw [List.getElem?_append_right (by simpa using hi), List.getElem?_replicate] at e
    split at e <;> cases e
theorem PostS.fnEnd {k : Kx} {μ : List Addr} {H : Hp} {Q : VK} {r : Ro} {E : XK} (p : PostG k (fun c dx _ H' => E c dx H') μ H [] (okV Q) (PN.fnEnd r)) : PostS k (fun c dx _ H' => E c dx H') { nx := fun _ H' => Q .non H', rt := Q } μ H r := by
  cases r with
  | nx e h => exact fun H' μ' σ' g r _ => p H' μ' g r _ RD.non
  | rt d h => exact fun H' μ' v g r q => p H' μ' g r v q
  | xc x e h => exact fun H' μ' σ' c dx g r _ q => p H' μ' c dx g r q
  | bk e h => exact p.elim
  | ct e h => exact p.elim
  | bad => exact p
theorem fn_ofG {k : Kx} {kk : Nat} {f : Addr} {x qual : Str} {st : Stmt} {fd : FuncData} {N ps : List Str} {b : Ss} (F : Fun K x qual st f fd) (S : FnScope N ps (defScope st))
    (hbody : ∀ (cdv : Value) (A : Around) (outer : List PySem.Env) (s : Shared) (H : Hp) (E : XK), Room kk (A.deeper (envOfC qual (defScope st) s.heap.objs.size f cdv)) → A.guards = some [] →
      PSs (cxOf (L2.CX P w) P w K mg base N qual (defScope st) f cdv A outer s H E) (defBody st) (tS k (fun c dx _ H' => E c dx H') b)) :
    FnG P w K mg base (kk + 1) f fd ps (spM k ps.length (mOf N.length b)) := by
  obtain ⟨oc, od, kV, doc, pm, an, cdv, ct, osl, rfl, lk, hcd⟩ := F.ex
  refine ⟨fun vs H Q E h => h.1, fun A outer s H args us vs Q E hr hgd e0 hb r hsp => ?_⟩
  have hl := hsp.1
  have KX : K.In s.heap := e0.mod.kin.keeps fun c o e => (e0.bs c o e).1
  have lim : s.heap.NoLimit := e0.mod.nolimit.keeps fun c o e => (e0.bs c o e).1
  have hkind : ∀ y ∈ ps.zip us, (defScope st).names.lookup y.1 = some .local ∨ ((defScope st).names.lookup y.1 = some .cell ∧ ((cellsFrom (s.heap.objs.size + 1) (defScope st).names []).lookup y.1).isSome = true) := fun ⟨n, v⟩ hy => by
    rcases S.par n (List.of_mem_zip hy).1 with q | q
    · exact .inl q
    · exact .inr ⟨q, PySem.W.cellsFrom_some _ _ _ (.inl q)⟩
  refine codeAny_call_function hr.depth (KX _ _ lk) rfl S.co S.gen rfl (PySem.W.codeRec_of KX hcd) (hb _ _ _ _ ?_)
  refine wpAny_newFunctionEnv_cells S.kind hkind fun env he s1 x0 => ?_
  subst he
  refine ⟨lim.keeps x0.toInCall.keep, codeAny_func ?_⟩
  have I : L2.Inv (cxOf (L2.CX P w) P w K mg base N qual (defScope st) f cdv A outer s H E) [] (L2.start N vs) H s1 := inv_start S hr.hd e0 hl r x0
  obtain ⟨_, μ, h, ds, rh, rd, q⟩ := hsp
  refine wpAny_mono ((hbody cdv A outer s H E (hr.deeper _) hgd).run [] s1 (L2.start N vs) H { nx := fun _ H' => Q .non H', rt := Q } I ⟨μ, _, h, rh, re_start N rd, PostS.fnEnd q⟩) (fun fl s' hs => ?_) fun e s' hs => hs
  have fin : ∀ {σ' : L2.St} {H' : Hp} {v : V} {u : Value}, L2.Inv (cxOf (L2.CX P w) P w K mg base N qual (defScope st) f cdv A outer s H E) [] σ' H' s' → RelV v u → Q v H' → CE outer P w H s Q u s' :=
    fun {σ' H' v u} J rv q => ⟨v, H', J.os, J.bare, J.base, J.hok, rv, q⟩
  cases fl with
  | ret u =>
    obtain ⟨v, σ', H', J, rv, q⟩ := hs
    exact fin J rv q
  | next =>
    obtain ⟨σ', H', J, q⟩ := hs
    exact fin (v := V.non) (u := Value.none) J rfl q
  | brk =>
    obtain ⟨_, _, _, q⟩ := hs
    exact False.elim q
  | cont =>
    obtain ⟨_, _, _, q⟩ := hs
    exact False.elim q
/-- at a def's entry: what is raised goes where the def's promise says -/
theorem takes_def {N : List Str} {qual : Str} {scope : Scope} {f : Addr} {cdv : Value} {A : Around} {outer : List PySem.Env} {s : Shared} {H : Hp} {E : XK} : Takes (cxOf (L2.CX P w) P w K mg base N qual scope f cdv A outer s H E) (fun c dx _ H' => E c dx H') :=
  takes_of rfl rfl rfl rfl
theorem passes_def {N : List Str} {qual : Str} {scope : Scope} {f : Addr} {cdv : Value} {A : Around} {outer : List PySem.Env} {s : Shared} {H : Hp} {E : XK} :
    PassesOwn (model (cxOf (L2.CX P w) P w K mg base N qual scope f cdv A outer s H E).prog (cxOf (L2.CX P w) P w K mg base N qual scope f cdv A outer s H E).w) (cxOf (L2.CX P w) P w K mg base N qual scope f cdv A outer s H E).A (cxOf (L2.CX P w) P w K mg base N qual scope f cdv A outer s H E).env (cxOf (L2.CX P w) P w K mg base N qual scope f cdv A outer s H E).xe :=
  passes_of rfl
end
end PN
namespace PN
open PySem L2 PyProof.Rows
/-! ## shapes -/
def notStar : Expr → Bool
  | .Starred _ _ => false
  | _ => true
theorem star_cons {e : Expr} {es : List Expr} {env : PySem.Env} (h : notStar e = true) : starEach (e :: es) env = (false, eval e env) :: starEach es env := by
  cases e <;> first | (simp [notStar] at h; done) | rfl
theorem star_any {env : PySem.Env} {pos : Pos} : ∀ {es : List Expr}, es.all notStar = true → (backTo pos (starEach es env)).any (·.1) = false
  | [], _ => rfl
  | e :: es, h => by
    simp only [List.all_cons, Bool.and_eq_true] at h
    rw [star_cons h.1]
    show (false || (backTo pos (starEach es env)).any (·.1)) = false
    rw [star_any h.2]; rfl
theorem star_all {env : PySem.Env} {pos : Pos} : ∀ {es : List Expr}, es.all notStar = true → (backTo pos (starEach es env)).all (fun x => !x.1) = true
  | [], _ => rfl
  | e :: es, h => by
    simp only [List.all_cons, Bool.and_eq_true] at h
    rw [star_cons h.1]
    show (true && (backTo pos (starEach es env)).all (fun x => !x.1)) = true
    rw [star_all h.2]; rfl
/-- no comprehension -/
def noComp : Expr → Bool
  | .ListComp _ _ _ _ => false
  | .SetComp _ _ _ _ => false
  | .DictComp _ _ _ _ _ => false
  | _ => true
theorem sw_no {e : Expr} {t : Option Expr} {l : Nat} {env : PySem.Env} (h : noComp e = true) : swapsWith e t l env = pure false := by
  cases e <;> first | (simp [noComp] at h; done) | rfl
theorem sw_other {e t : Expr} {l : Nat} {env : PySem.Env} (h : (match t with | .Name _ _ => false | _ => true) = true) : swapsWith e (some t) l env = pure false := by
  cases e <;> first | rfl | (cases t <;> first | (simp at h; done) | rfl)
/-- a store into a name from a comprehension: is it made ahead of the names' letting go? -/
def swB (sc : Scope) (own : Scope) (t : Str) (tl vl : Nat) : Bool := sc.names.lookup t == some .local && tl == vl && !(own.names.any fun (n, k) => n == t && (k == .local || k == .cell))
theorem sw_lc {elt : Expr} {gs : List Comprehension} {own : Scope} {pos py : Pos} {y : Str} {l : Nat} {env : PySem.Env} (hk : env.scope.kind = .function) : swapsWith (.ListComp elt gs own pos) (some (.Name y py)) l env = pure (swB env.scope own y py.line pos.line) := by
  have hb : env.blockKind = .function := by unfold PySem.Env.blockKind; rw [hk]; rfl
  unfold swapsWith swB
  simp only [hb]
  rfl
theorem sw_dc {kx vx : Expr} {gs : List Comprehension} {own : Scope} {pos py : Pos} {y : Str} {l : Nat} {env : PySem.Env} (hk : env.scope.kind = .function) : swapsWith (.DictComp kx vx gs own pos) (some (.Name y py)) l env = pure (swB env.scope own y py.line pos.line) := by
  have hb : env.blockKind = .function := by unfold PySem.Env.blockKind; rw [hk]; rfl
  unfold swapsWith swB
  simp only [hb]
  rfl
def noSet : Expr → Bool
  | .Set _ _ _ => false
  | _ => true
theorem folded_no {e : Expr} {env : PySem.Env} (h : noSet e = true) : ∀ x, foldedSetIterable e env x = pure x := by
  intro x; cases e <;> first | (simp [noSet] at h; done) | rfl
def noSlice : Expr → Bool
  | .Slice _ _ _ _ => false
  | _ => true
theorem plain_ix {b : Expr} (h : noSlice b = true) : PlainIx b := by
  intro o i; cases b <;> first | (simp [noSlice] at h; done) | rfl
theorem asg_sub {a b : Expr} {pos : Pos} {env : PySem.Env} (h : noSlice b = true) (v : Value) : assign (.Subscript a b pos) env v = (do
      let ov ← holding [v] (eval a env)
      let iv ← holding [v, ov] (eval b env)
      standAt pos
      holding [v, ov, iv] (setItem ov iv v)
      release [v, ov, iv] []) := by
  cases b <;> first | (simp [noSlice] at h; done) | rfl
theorem behind_no {op : CmpOp} {e : Expr} (h : noSet e = true) : behindInMarks op e = false := by
  cases e <;> first | (simp [noSet] at h; done) | rfl
def noSuper : Expr → Bool
  | .Call _ [] [] _ => false
  | _ => true
theorem base_no {o : Expr} {nm : Str} {env : PySem.Env} {w : Sem Value} (h : noSuper o = true) : attributeBase o nm env w = w := by
  unfold attributeBase
  cases o <;> first | rfl | skip
  rename_i f as ks pos
  cases f <;> first | rfl | skip
  cases as <;> first | rfl | skip
  cases ks <;> first | (simp [noSuper] at h; done) | rfl
def tested : Expr → Bool
  | .Name _ _ => true
  | .Call _ _ _ _ => true
  | .Subscript _ _ _ => true
  | .Attribute _ _ _ => true
  | _ => false
theorem tested_is {a : Expr} {env : PySem.Env} (h : tested a = true) : ∀ whole, isTrue a env whole = (do let v ← whole; standAt a.pos; holding [v] (truthy v)) := by
  intro w; cases a <;> first | (simp [tested] at h; done) | rfl
/-! ### names -/
def ixOf (N : List Str) (x : Str) : Option Nat := N.findIdx? (· == x)
theorem ixOf_at {N : List Str} {x : Str} {i : Nat} (h : ixOf N x = some i) : N[i]? = some x := by
  obtain ⟨hi, e, _⟩ := List.findIdx?_eq_some_iff_getElem.mp h
  rw [List.getElem?_eq_getElem hi]
  exact congrArg some (eq_of_beq e)
def okNm (x : Str) : Bool := !(x == ("__debug__" : Str)) && !(x == ("__classdict__" : Str)) && !(x == ("__name__" : Str))
theorem okNm_d {x : Str} (h : okNm x = true) : (x == ("__debug__" : Str)) = false := by simp only [okNm, Bool.and_eq_true, Bool.not_eq_true'] at h; exact h.1.1
theorem okNm_c {x : Str} (h : okNm x = true) : (x == ("__classdict__" : Str)) = false := by simp only [okNm, Bool.and_eq_true, Bool.not_eq_true'] at h; exact h.1.2
theorem okNm_n {x : Str} (h : okNm x = true) : x ≠ "__name__" := by
  simp only [okNm, Bool.and_eq_true, Bool.not_eq_true'] at h
  intro e; subst e; simp at h
def visB (sc : Scope) (x : Str) : Bool := match sc.names.lookup x with
  | some .local => true
  | some .cell => true
  | some .free => true
  | _ => false
theorem visB_ok {sc : Scope} {x : Str} (h : visB sc x = true) : Vis sc x := by
  unfold visB at h
  split at h
  · rename_i e; exact .inl e
  · rename_i e; exact .inr (.inl e)
  · rename_i e; exact .inr (.inr e)
  · cases h
def locB (sc : Scope) (x : Str) : Bool := match sc.names.lookup x with
  | some .local => true
  | some .cell => true
  | _ => false
theorem locB_ok {sc : Scope} {x : Str} (h : locB sc x = true) : Loc sc x := by
  unfold locB at h
  split at h
  · rename_i e; exact .inl e
  · rename_i e; exact .inr e
  · cases h
/-! ## what is known where a text stands -/
structure FT where
  np : Nat
  m : Mf
/-- a class: the names that no class of it has, its __init__, its methods -/
structure CI where
  flds : List Str
  init : Option FT
  ms : List (Str × FT)
structure Cfg where
  N : List Str
  sc : Scope
  T : Str → Option FT
  G : Str → Option D
  B : Str → Bool
  C : List (Str × CI)
structure ClsOk (P : Program) (w : World) (K : PySem.W.Frag) (mg : Str → Option Value) (base : Heap) (k : Kx) (kk : Nat) (x : Str) (ci : CI) : Prop where
  ex : ∃ Ca, k.cl x = some Ca ∧ mg x = some (.ref Ca) ∧ Cls K Ca ∧ (∀ f ∈ ci.flds, NoAttr K Ca f) ∧
    (∀ ft, ci.init = some ft → ∃ f fd ps, Mk K Ca f ∧ Binds K fd ps [] ∧ ps.length = ft.np ∧ FnG P w K mg base kk f fd ps (spM k ps.length ft.m)) ∧
    ∀ m ft, ci.ms.lookup m = some ft → ∃ f fd ps, Meth K Ca m f ∧ Binds K fd ps [] ∧ ps.length = ft.np ∧ FnG P w K mg base kk f fd ps (spM k ps.length ft.m)
structure Ctx (k : Kx) (X : Cx) (W : WX) (c : Cfg) : Prop where
  hN : X.N = c.N
  nd : X.N.Nodup
  sc : X.env.scope = c.sc
  hk : k.K = X.K
  calm : X.calm = true
  gd : X.A.guards = some []
  tk : Takes X W
  nob : ∀ x, c.B x = true → X.mg x = none
  gl : ∀ x d, c.G x = some d → ∃ v u, X.mg x = some u ∧ RelV v u ∧ ∀ H μ, RD H μ d v
  rm : ∃ kk, Room (kk + 1) X.A ∧ (∀ x ft, c.T x = some ft → ∃ f fd ps, X.mg x = some (.ref f) ∧ PySem.W.keepIn X.K (.ref f) = true ∧ Binds X.K fd ps [] ∧ ps.length = ft.np ∧ FnG X.prog X.w X.K X.mg X.base kk f fd ps (spM k ps.length ft.m)) ∧
    ∀ x ci, c.C.lookup x = some ci → ClsOk X.prog X.w X.K X.mg X.base k kk x ci
theorem Ctx.un {k X W c} (C : Ctx k X W c) : X.A.units + 65 < cLine := by
  obtain ⟨kk, r, _, _⟩ := C.rm
  have := r.un; omega
theorem Ctx.un1 {k X W c} (C : Ctx k X W c) : X.A.units + 1 < cLine := by have := C.un; omega
theorem Ctx.un64 {k X W c} (C : Ctx k X W c) : X.A.units + 64 < cLine := by have := C.un; omega
theorem Ctx.blk {k X W c} (C : Ctx k X W c) {s H scope Ca cl fp} : Ctx k (X.blk s H scope (compEnvC scope cl Ca X.env) fp) WF { c with sc := relS scope c.sc } :=
  ⟨C.hN, C.nd, by rw [← C.sc]; rfl, C.hk, C.calm, C.gd, fun u s' ⟨_, _, _, _, _, _, _, _, _, _, _, _, _, _, _, _, w⟩ => w.elim, C.nob, C.gl, C.rm⟩
/-- in a def's own body -/
structure CtxS (k : Kx) (X : Cx) (W : WX) (c : Cfg) : Prop extends Ctx k X W c where
  po : PassesOwn (model X.prog X.w) X.A X.env X.xe
  fn : ∀ x, X.fn x = true
  kd : c.sc.kind = .function
def glbB (c : Cfg) (x : Str) : Bool := c.sc.names.lookup x == some .globalImplicit
theorem glbB_ok {k X W c} (C : Ctx k X W c) {x : Str} (h : glbB c x = true) : Gl X x := by
  show X.env.scope.names.lookup x = _
  rw [C.sc]
  exact eq_of_beq h
/-- a built-in's name that means it -/
def bltB (c : Cfg) (x : Str) : Bool := glbB c x && c.B x && okNm x
/-! ## readings of the parts -/
structure Dn where
  x : Cfg → Expr → Option Se
  t : Cfg → Expr → Option St'
  w : Cfg → Expr → Option St'
  i : Cfg → Expr → Expr → Option Si
structure DnOk (d : Dn) : Prop where
  x : ∀ {c e f}, d.x c e = some f → ∀ {k X W}, Ctx k X W c → PE X e (tX k W f)
  t : ∀ {c e f}, d.t c e = some f → ∀ {k X W}, Ctx k X W c → PT X e (tT k W f)
  w : ∀ {c e f}, d.w c e = some f → ∀ {k X W}, Ctx k X W c → PW X e (tT k W f)
  i : ∀ {c tg e f}, d.i c tg e = some f → ∀ {k X W}, Ctx k X W c → PI X tg e (tI k W f)
def Dn.none : Dn := ⟨fun _ _ => .none, fun _ _ => .none, fun _ _ => .none, fun _ _ _ => .none⟩
theorem Dn.none_ok : DnOk Dn.none := ⟨(fun h => by cases h), (fun h => by cases h), (fun h => by cases h), (fun h => by cases h)⟩
def dnA (d : Dn) (c : Cfg) : List Expr → Option Sa
  | [] => some dNil
  | e :: es => if notStar e = true then (d.x c e).bind fun f => (dnA d c es).map (dCons f) else none
theorem dnA_star {d : Dn} {c : Cfg} : ∀ {es : List Expr} {fs : Sa}, dnA d c es = some fs → es.all notStar = true
  | [], _, _ => rfl
  | e :: es, fs, h => by
    unfold dnA at h
    split at h
    · rename_i hs
      obtain ⟨f, _, h⟩ := Option.bind_eq_some_iff.mp h
      obtain ⟨g, eg, _⟩ := Option.map_eq_some_iff.mp h
      simp [hs, dnA_star eg]
    · cases h
theorem dnA_ok {d : Dn} (ok : DnOk d) {c : Cfg} : ∀ {es : List Expr} {fs : Sa}, dnA d c es = some fs → ∀ {k X W}, Ctx k X W c → PA X es (tA k W fs)
  | [], fs, h, k, X, W, C => by simp only [dnA, Option.some.injEq] at h; subst h; exact a_nil
  | e :: es, fs, h, k, X, W, C => by
    unfold dnA at h
    split at h
    · rename_i hs
      obtain ⟨f, ef, h⟩ := Option.bind_eq_some_iff.mp h
      obtain ⟨g, eg, rfl⟩ := Option.map_eq_some_iff.mp h
      exact a_cons (ok.x ef C) (dnA_ok ok eg C) (star_cons hs)
    · cases h
/-! ### built-ins called by name -/
def cSumA : OpN := fun l h => match l with
  | [d] => cSum [d] h
  | [d, e] => cSumT [d, e] h
  | _ => none
theorem c_sumA {X : Cx} {k : Kx} (hc : X.calm = true) (hk : k.K = X.K) : CallD X k (.builtin "sum") cSumA := by
  intro pins s σ H xs us Q I r ⟨μ, h, ds, rh, rd, p⟩
  unfold cSumA at p
  split at p
  · exact c_sum hc hk pins s σ H xs us Q I r ⟨μ, h, _, rh, rd, p⟩
  · exact c_sum2 hc hk pins s σ H xs us Q I r ⟨μ, h, _, rh, rd, p⟩
  · exact p.elim
def bltN (x : Str) : Option OpN :=
  if x = "len" then some cLen else if x = "int" then some cInt else if x = "abs" then some cAbs else if x = "all" then some cAll else if x = "any" then some cAny
  else if x = "sum" then some cSumA else if x = "list" then some cList else if x = "tuple" then some cTuple else if x = "sorted" then some cSort else if x = "repr" then some cRepr else none
theorem blt_ok {c : Cfg} {x : Str} {g : OpN} (hx : bltN x = some g) (hb : bltB c x = true) {k X W} (C : Ctx k X W c) {e : Expr} {es : List Expr} {fs : Sa} {p pos : Pos} (hs : (e :: es).all notStar = true) (ha : PA X (e :: es) (tA k W fs)) :
    PE X (.Call (.Name x p) (e :: es) [] pos) (tX k W (dCall g fs)) := by
  simp only [bltB, Bool.and_eq_true] at hb
  obtain ⟨⟨h1, h2⟩, h3⟩ := hb
  simp only [List.all_cons, Bool.and_eq_true] at hs
  have G := glbB_ok C h1
  have M := C.nob x h2
  unfold bltN at hx
  split at hx
  · rename_i ex; cases hx; subst ex
    exact x_callB (c_len C.hk) G M boot_len ha (okNm_n h3) (okNm_d h3) (star_cons hs.1) (star_any hs.2)
  split at hx
  · rename_i ex; cases hx; subst ex
    exact x_callTy c_int G M boot_int ha (okNm_n h3) (okNm_d h3) (star_cons hs.1) (star_any hs.2)
  split at hx
  · rename_i ex; cases hx; subst ex
    exact x_callB c_abs G M boot_abs ha (okNm_n h3) (okNm_d h3) (star_cons hs.1) (star_any hs.2)
  split at hx
  · rename_i ex; cases hx; subst ex
    exact x_callB (c_all C.calm C.hk) G M boot_all ha (okNm_n h3) (okNm_d h3) (star_cons hs.1) (star_any hs.2)
  split at hx
  · rename_i ex; cases hx; subst ex
    exact x_callB (c_any C.calm C.hk) G M boot_any ha (okNm_n h3) (okNm_d h3) (star_cons hs.1) (star_any hs.2)
  split at hx
  · rename_i ex; cases hx; subst ex
    exact x_callB (c_sumA C.calm C.hk) G M boot_sum ha (okNm_n h3) (okNm_d h3) (star_cons hs.1) (star_any hs.2)
  split at hx
  · rename_i ex; cases hx; subst ex
    exact x_callTy (c_list C.hk) G M boot_list ha (okNm_n h3) (okNm_d h3) (star_cons hs.1) (star_any hs.2)
  split at hx
  · rename_i ex; cases hx; subst ex
    exact x_callTy (c_tuple C.hk) G M boot_tuple ha (okNm_n h3) (okNm_d h3) (star_cons hs.1) (star_any hs.2)
  split at hx
  · rename_i ex; cases hx; subst ex
    exact x_callB (c_sort C.un64 C.hk) G M boot_sorted ha (okNm_n h3) (okNm_d h3) (star_cons hs.1) (star_any hs.2)
  split at hx
  · rename_i ex; cases hx; subst ex
    exact x_callB (c_repr C.un64 C.gd C.hk) G M boot_repr ha (okNm_n h3) (okNm_d h3) (star_cons hs.1) (star_any hs.2)
  · cases hx
end PN
namespace PN
open PySem L2 PyProof.Rows
/-! ## targets -/
def tgName (lo : Str → Bool) (N : List Str) (x : Str) : Option Nat := if lo x = true then ixOf N x else none
def tgL (f : Expr → Option Sg) : List Expr → Option Sgs
  | [] => some dGnil
  | e :: es => if notStar e = true then (f e).bind fun g => (tgL f es).map (dGcons g) else none
/-- a block's targets: slots among vs -/
def tgW (lo : Str → Bool) (N : List Str) (vs : List Nat) : Nat → Expr → Option Sg
  | 0, _ => none
  | n + 1, e => match e with
    | .Name x _ => (tgName lo N x).bind fun i => if vs.contains i = true then some (dGn i) else none
    | .Tuple es _ _ => (tgL (tgW lo N vs n) es).map (dGtup es.length)
    | _ => none
theorem each_len {env : PySem.Env} : ∀ es : List Expr, (assignEach es env).length = es.length
  | [] => rfl
  | e :: es => by cases e <;> (show (assignEach es env).length + 1 = _; rw [each_len es]; rfl)
theorem each_cons {e : Expr} {es : List Expr} {env : PySem.Env} (h : notStar e = true) : assignEach (e :: es) env = (false, assign e env) :: assignEach es env := by
  cases e <;> first | (simp [notStar] at h; done) | rfl
theorem each_find {env : PySem.Env} : ∀ {es : List Expr}, es.all notStar = true → (assignEach es env).findIdx? (·.1) = none
  | [], _ => rfl
  | e :: es, h => by
    simp only [List.all_cons, Bool.and_eq_true] at h
    rw [each_cons h.1, List.findIdx?_cons]
    simp [each_find h.2]
theorem tgL_star {f : Expr → Option Sg} : ∀ {es : List Expr} {g : Sgs}, tgL f es = some g → es.all notStar = true
  | [], _, _ => rfl
  | e :: es, g, h => by
    unfold tgL at h
    split at h
    · rename_i hs
      obtain ⟨f1, _, h⟩ := Option.bind_eq_some_iff.mp h
      obtain ⟨g1, eg, _⟩ := Option.map_eq_some_iff.mp h
      simp [hs, tgL_star eg]
    · cases h
/-- a name that may be stored into -/
def LoOk (X : Cx) (lo : Str → Bool) : Prop := ∀ x, lo x = true → Loc X.env.scope x ∧ (X.fn x = true ∨ X.env.scope.names.lookup x = some .local)
section
variable {lo : Str → Bool} {N : List Str} {vs : List Nat}
theorem tgL_okw {n : Nat} (ih : ∀ {e g}, tgW lo N vs n e = some g → Pure g ∧ ∀ {k X}, X.N = N → X.N.Nodup → X.calm = true → LoOk X lo → PG X e (tGw k vs g)) :
    ∀ {es : List Expr} {g : Sgs}, tgL (tgW lo N vs n) es = some g → PureS g ∧ ∀ {k X}, X.N = N → X.N.Nodup → X.calm = true → LoOk X lo → PGs X es (tGsw k vs g)
  | [], g, h => by simp only [tgL, Option.some.injEq] at h; subst h; exact ⟨pure_nil, fun _ _ _ _ => gsw_nil⟩
  | e :: es, g, h => by
    unfold tgL at h
    split at h
    · rename_i hs
      obtain ⟨f1, ef, h⟩ := Option.bind_eq_some_iff.mp h
      obtain ⟨g1, eg, rfl⟩ := Option.map_eq_some_iff.mp h
      obtain ⟨p1, q1⟩ := ih ef
      obtain ⟨p2, q2⟩ := tgL_okw ih eg
      exact ⟨pure_cons p1 p2, fun a b c d => gsw_cons p1 (q1 a b c d) (q2 a b c d) (by rw [each_cons hs]; rfl)⟩
    · cases h
theorem tgW_ok : ∀ (n : Nat) {e : Expr} {g : Sg}, tgW lo N vs n e = some g → Pure g ∧ ∀ {k X}, X.N = N → X.N.Nodup → X.calm = true → LoOk X lo → PG X e (tGw k vs g)
  | 0, e, g, h => by cases h
  | n + 1, e, g, h => by
    unfold tgW at h
    split at h
    · rename_i x p
      obtain ⟨i, ei, h⟩ := Option.bind_eq_some_iff.mp h
      split at h
      · rename_i hv
        cases h
        unfold tgName at ei
        split at ei
        · rename_i hl
          exact ⟨pure_n, fun a b c d => gw_name (by simpa using hv) b (by rw [a]; exact ixOf_at ei) (d x hl).1 (d x hl).2⟩
        · cases ei
      · cases h
    · rename_i es k p
      obtain ⟨g1, eg, rfl⟩ := Option.map_eq_some_iff.mp h
      obtain ⟨p1, q1⟩ := tgL_okw (fun h => tgW_ok n h) eg
      exact ⟨pure_tup p1, fun a b c d => gw_tup c (q1 a b c d) (each_len es) (each_find (tgL_star eg))⟩
    · cases h
end
/-! ### blocks -/
def ownOf (N : List Str) (sc : Scope) : List (Str × Nat) := sc.names.filterMap fun y => match y.2 with
  | .local => (ixOf N y.1).map fun i => (y.1, i)
  | .cell => (ixOf N y.1).map fun i => (y.1, i)
  | _ => none
/-- the slots that a target stores at -/
def tgSlots (N : List Str) : Nat → Expr → List Nat
  | 0, _ => []
  | n + 1, e => match e with
    | .Name x _ => (ixOf N x).toList
    | .Tuple es _ _ => es.flatMap (tgSlots N n)
    | _ => []
def ifsD (d : Dn) (c : Cfg) : List Expr → Option St'
  | [] => some dYes
  | [e] => d.t c e
  | _ => none
theorem ifsD_ok {d : Dn} (ok : DnOk d) {c : Cfg} {es : List Expr} {t : St'} (h : ifsD d c es = some t) {k X W} (C : Ctx k X W c) : PTs X es (tT k W t) := by
  unfold ifsD at h
  split at h
  · cases h; exact ts_nil
  · exact ts_one (ok.t h C)
  · cases h
abbrev blkCfg (c : Cfg) (scope : Scope) : Cfg := { c with sc := relS scope c.sc }
/-- the block's own names -/
def blkLo (scope : Scope) (x : Str) : Bool := scope.names.lookup x == some .local || scope.names.lookup x == some .cell
theorem blk_lo {c : Cfg} {scope : Scope} {k X W} (C : Ctx k X W c) {s H Ca cl fp} : LoOk (X.blk s H scope (compEnvC scope cl Ca X.env) fp) (blkLo scope) := by
  intro x h
  have es : (X.blk s H scope (compEnvC scope cl Ca X.env) fp).env.scope = relS scope c.sc := C.blk.sc
  rw [es]
  simp only [blkLo, Bool.or_eq_true] at h
  rcases h with h | h
  · have e := lookup_relS_keep (sc := c.sc) (by decide) (eq_of_beq h)
    exact ⟨.inl e, .inr e⟩
  · have e := lookup_relS_keep (sc := c.sc) (by decide) (eq_of_beq h)
    exact ⟨.inr e, .inl h⟩
/-- one clause of a block -/
structure GenD where
  si : Si
  g : Sg
  t : St'
def lcD (d : Dn) (c : Cfg) (elt : Expr) (gens : List Comprehension) (scope : Scope) : Option Se :=
  if blkC c.N c.sc scope (ownOf c.N scope) = true then
    match gens with
    | [⟨tg, it, ifs, a⟩] => if a = 0 ∧ noSet it = true then
        (d.i c tg it).bind fun si => (tgW (blkLo scope) c.N ((ownOf c.N scope).map (·.2)) 3 tg).bind fun g => (ifsD d (blkCfg c scope) ifs).bind fun t => (d.x (blkCfg c scope) elt).map fun f => dLc si g t f ((ownOf c.N scope).map (·.2)) else none
    | [⟨tg, it, ifs, a⟩, ⟨tg1, it1, ifs1, a1⟩] => if a = 0 ∧ noSet it = true ∧ a1 = 0 ∧ noSet it1 = true ∧ ((tgSlots c.N 3 tg1).all fun i => ((ownOf c.N scope).map (·.2)).contains i) = true then
        (d.i c tg it).bind fun si => (tgW (blkLo scope) c.N ((ownOf c.N scope).map (·.2)) 3 tg).bind fun g => (ifsD d (blkCfg c scope) ifs).bind fun t =>
        (d.i (blkCfg c scope) tg1 it1).bind fun s1 => (tgW (blkLo scope) c.N (tgSlots c.N 3 tg1) 3 tg1).bind fun g1 => (ifsD d (blkCfg c scope) ifs1).bind fun t1 =>
          (d.x (blkCfg c scope) elt).map fun f => dLc2 si g t s1 g1 t1 f ((ownOf c.N scope).map (·.2)) (tgSlots c.N 3 tg1) else none
    | _ => none
  else none
def dcD (d : Dn) (c : Cfg) (kx vx : Expr) (gens : List Comprehension) (scope : Scope) : Option Se :=
  if blkC c.N c.sc scope (ownOf c.N scope) = true then
    match gens with
    | [⟨tg, it, ifs, a⟩] => if a = 0 ∧ noSet it = true then
        (d.i c tg it).bind fun si => (tgW (blkLo scope) c.N ((ownOf c.N scope).map (·.2)) 3 tg).bind fun g => (ifsD d (blkCfg c scope) ifs).bind fun t => (d.x (blkCfg c scope) kx).bind fun fk => (d.x (blkCfg c scope) vx).map fun fv => dDc si g t fk fv ((ownOf c.N scope).map (·.2)) else none
    | [⟨tg, it, ifs, a⟩, ⟨tg1, it1, ifs1, a1⟩] => if a = 0 ∧ noSet it = true ∧ a1 = 0 ∧ noSet it1 = true ∧ ((tgSlots c.N 3 tg1).all fun i => ((ownOf c.N scope).map (·.2)).contains i) = true then
        (d.i c tg it).bind fun si => (tgW (blkLo scope) c.N ((ownOf c.N scope).map (·.2)) 3 tg).bind fun g => (ifsD d (blkCfg c scope) ifs).bind fun t =>
        (d.i (blkCfg c scope) tg1 it1).bind fun s1 => (tgW (blkLo scope) c.N (tgSlots c.N 3 tg1) 3 tg1).bind fun g1 => (ifsD d (blkCfg c scope) ifs1).bind fun t1 =>
          (d.x (blkCfg c scope) kx).bind fun fk => (d.x (blkCfg c scope) vx).map fun fv => dDc2 si g t s1 g1 t1 fk fv ((ownOf c.N scope).map (·.2)) (tgSlots c.N 3 tg1) else none
    | _ => none
  else none
section
variable {d : Dn} (ok : DnOk d) {c : Cfg} {k : Kx} {X : Cx} {W : WX} (C : Ctx k X W c)
include C in
theorem blk_ok {scope : Scope} (h : blkC c.N c.sc scope (ownOf c.N scope) = true) : BlkOk X.N X.env.scope scope (ownOf c.N scope) := blkOk_by (by rw [C.hN, C.sc]; exact h)
include ok C in
theorem lcD_ok {elt : Expr} {gens : List Comprehension} {scope : Scope} {pos : Pos} {f : Se} (h : lcD d c elt gens scope = some f) : PE X (.ListComp elt gens scope pos) (tX k W f) := by
  unfold lcD at h
  split at h
  · rename_i hb
    split at h
    · rename_i tg it ifs a
      split at h
      · rename_i hc
        obtain ⟨rfl, hs⟩ := hc
        obtain ⟨si, e1, h⟩ := Option.bind_eq_some_iff.mp h
        obtain ⟨g, e2, h⟩ := Option.bind_eq_some_iff.mp h
        obtain ⟨t, e3, h⟩ := Option.bind_eq_some_iff.mp h
        obtain ⟨f, e4, rfl⟩ := Option.map_eq_some_iff.mp h
        obtain ⟨pu, q⟩ := tgW_ok 3 e2
        exact x_lc C.calm C.nd pu (ok.i e1 C) (blk_ok C hb) (fun s H Ca cl fp => q C.hN C.nd C.calm (blk_lo C)) (fun s H Ca cl fp => ifsD_ok ok e3 C.blk) (fun s H Ca cl fp => ok.x e4 C.blk) (folded_no hs)
      · cases h
    · rename_i tg it ifs a tg1 it1 ifs1 a1
      split at h
      · rename_i hc
        obtain ⟨rfl, hs, rfl, hs1, hv⟩ := hc
        obtain ⟨si, e1, h⟩ := Option.bind_eq_some_iff.mp h
        obtain ⟨g, e2, h⟩ := Option.bind_eq_some_iff.mp h
        obtain ⟨t, e3, h⟩ := Option.bind_eq_some_iff.mp h
        obtain ⟨s1, e5, h⟩ := Option.bind_eq_some_iff.mp h
        obtain ⟨g1, e6, h⟩ := Option.bind_eq_some_iff.mp h
        obtain ⟨t1, e7, h⟩ := Option.bind_eq_some_iff.mp h
        obtain ⟨f, e4, rfl⟩ := Option.map_eq_some_iff.mp h
        obtain ⟨pu, q⟩ := tgW_ok 3 e2
        obtain ⟨pu1, q1⟩ := tgW_ok 3 e6
        exact x_lc2 C.calm C.nd pu pu1 (ok.i e1 C) (blk_ok C hb) (fun i hi => by simpa using List.all_eq_true.mp hv i hi) (fun s H Ca cl fp => q C.hN C.nd C.calm (blk_lo C)) (fun s H Ca cl fp => ifsD_ok ok e3 C.blk) (fun s H Ca cl fp => ok.i e5 C.blk)
          (fun s H Ca cl fp => q1 C.hN C.nd C.calm (blk_lo C)) (fun s H Ca cl fp => ifsD_ok ok e7 C.blk) (fun s H Ca cl fp => ok.x e4 C.blk) (folded_no hs) (fun env => folded_no hs1)
      · cases h
    · cases h
  · cases h
include ok C in
theorem lcD_set {elt : Expr} {gens : List Comprehension} {scope : Scope} {pos py spos : Pos} {y : Str} {i : Nat} {f : Se} (h : lcD d c elt gens scope = some f) (hy : X.N[i]? = some y) (hyl : X.env.scope.names.lookup y = some .local)
    (hsw : swapsWith (.ListComp elt gens scope pos) (some (.Name y py)) spos.line X.env = pure true) : PS X (.Assign [.Name y py] (.ListComp elt gens scope pos) spos) (tS k W (dAsg f (dGn i))) := by
  unfold lcD at h
  split at h
  · rename_i hb
    split at h
    · rename_i tg it ifs a
      split at h
      · rename_i hc
        obtain ⟨rfl, hs⟩ := hc
        obtain ⟨si, e1, h⟩ := Option.bind_eq_some_iff.mp h
        obtain ⟨g, e2, h⟩ := Option.bind_eq_some_iff.mp h
        obtain ⟨t, e3, h⟩ := Option.bind_eq_some_iff.mp h
        obtain ⟨f, e4, rfl⟩ := Option.map_eq_some_iff.mp h
        obtain ⟨pu, q⟩ := tgW_ok 3 e2
        exact s_setLc C.calm C.nd hy hyl hsw pu (ok.i e1 C) (blk_ok C hb) (fun s H Ca cl fp => q C.hN C.nd C.calm (blk_lo C)) (fun s H Ca cl fp => ifsD_ok ok e3 C.blk) (fun s H Ca cl fp => ok.x e4 C.blk) (folded_no hs)
      · cases h
    · rename_i tg it ifs a tg1 it1 ifs1 a1
      split at h
      · rename_i hc
        obtain ⟨rfl, hs, rfl, hs1, hv⟩ := hc
        obtain ⟨si, e1, h⟩ := Option.bind_eq_some_iff.mp h
        obtain ⟨g, e2, h⟩ := Option.bind_eq_some_iff.mp h
        obtain ⟨t, e3, h⟩ := Option.bind_eq_some_iff.mp h
        obtain ⟨s1, e5, h⟩ := Option.bind_eq_some_iff.mp h
        obtain ⟨g1, e6, h⟩ := Option.bind_eq_some_iff.mp h
        obtain ⟨t1, e7, h⟩ := Option.bind_eq_some_iff.mp h
        obtain ⟨f, e4, rfl⟩ := Option.map_eq_some_iff.mp h
        obtain ⟨pu, q⟩ := tgW_ok 3 e2
        obtain ⟨pu1, q1⟩ := tgW_ok 3 e6
        exact s_setLc2 C.calm C.nd hy hyl hsw pu pu1 (ok.i e1 C) (blk_ok C hb) (fun i hi => by simpa using List.all_eq_true.mp hv i hi) (fun s H Ca cl fp => q C.hN C.nd C.calm (blk_lo C)) (fun s H Ca cl fp => ifsD_ok ok e3 C.blk) (fun s H Ca cl fp => ok.i e5 C.blk)
          (fun s H Ca cl fp => q1 C.hN C.nd C.calm (blk_lo C)) (fun s H Ca cl fp => ifsD_ok ok e7 C.blk) (fun s H Ca cl fp => ok.x e4 C.blk) (folded_no hs) (fun env => folded_no hs1)
      · cases h
    · cases h
  · cases h
include ok C in
theorem dcD_ok {kx vx : Expr} {gens : List Comprehension} {scope : Scope} {pos : Pos} {f : Se} (h : dcD d c kx vx gens scope = some f) : PE X (.DictComp kx vx gens scope pos) (tX k W f) := by
  unfold dcD at h
  split at h
  · rename_i hb
    split at h
    · rename_i tg it ifs a
      split at h
      · rename_i hc
        obtain ⟨rfl, hs⟩ := hc
        obtain ⟨si, e1, h⟩ := Option.bind_eq_some_iff.mp h
        obtain ⟨g, e2, h⟩ := Option.bind_eq_some_iff.mp h
        obtain ⟨t, e3, h⟩ := Option.bind_eq_some_iff.mp h
        obtain ⟨fk, e4, h⟩ := Option.bind_eq_some_iff.mp h
        obtain ⟨fv, e8, rfl⟩ := Option.map_eq_some_iff.mp h
        obtain ⟨pu, q⟩ := tgW_ok 3 e2
        exact x_dc C.un1 C.calm C.nd pu (ok.i e1 C) (blk_ok C hb) (fun s H Ca cl fp => q C.hN C.nd C.calm (blk_lo C)) (fun s H Ca cl fp => ifsD_ok ok e3 C.blk) (fun s H Ca cl fp => ok.x e4 C.blk) (fun s H Ca cl fp => ok.x e8 C.blk) (folded_no hs)
      · cases h
    · rename_i tg it ifs a tg1 it1 ifs1 a1
      split at h
      · rename_i hc
        obtain ⟨rfl, hs, rfl, hs1, hv⟩ := hc
        obtain ⟨si, e1, h⟩ := Option.bind_eq_some_iff.mp h
        obtain ⟨g, e2, h⟩ := Option.bind_eq_some_iff.mp h
        obtain ⟨t, e3, h⟩ := Option.bind_eq_some_iff.mp h
        obtain ⟨s1, e5, h⟩ := Option.bind_eq_some_iff.mp h
        obtain ⟨g1, e6, h⟩ := Option.bind_eq_some_iff.mp h
        obtain ⟨t1, e7, h⟩ := Option.bind_eq_some_iff.mp h
        obtain ⟨fk, e4, h⟩ := Option.bind_eq_some_iff.mp h
        obtain ⟨fv, e8, rfl⟩ := Option.map_eq_some_iff.mp h
        obtain ⟨pu, q⟩ := tgW_ok 3 e2
        obtain ⟨pu1, q1⟩ := tgW_ok 3 e6
        exact x_dc2 C.un1 C.calm C.nd pu pu1 (ok.i e1 C) (blk_ok C hb) (fun s H Ca cl fp => q C.hN C.nd C.calm (blk_lo C)) (fun s H Ca cl fp => ifsD_ok ok e3 C.blk) (fun s H Ca cl fp => ok.x e4 C.blk) (fun s H Ca cl fp => ok.x e8 C.blk) (folded_no hs)
          (fun i hi => by simpa using List.all_eq_true.mp hv i hi) (fun s H Ca cl fp => ok.i e5 C.blk) (fun s H Ca cl fp => q1 C.hN C.nd C.calm (blk_lo C)) (fun s H Ca cl fp => ifsD_ok ok e7 C.blk) (fun env => folded_no hs1)
      · cases h
    · cases h
  · cases h
include ok C in
theorem dcD_set {kx vx : Expr} {gens : List Comprehension} {scope : Scope} {pos py spos : Pos} {y : Str} {i : Nat} {f : Se} (h : dcD d c kx vx gens scope = some f) (hy : X.N[i]? = some y) (hyl : X.env.scope.names.lookup y = some .local)
    (hsw : swapsWith (.DictComp kx vx gens scope pos) (some (.Name y py)) spos.line X.env = pure true) : PS X (.Assign [.Name y py] (.DictComp kx vx gens scope pos) spos) (tS k W (dAsg f (dGn i))) := by
  unfold dcD at h
  split at h
  · rename_i hb
    split at h
    · rename_i tg it ifs a
      split at h
      · rename_i hc
        obtain ⟨rfl, hs⟩ := hc
        obtain ⟨si, e1, h⟩ := Option.bind_eq_some_iff.mp h
        obtain ⟨g, e2, h⟩ := Option.bind_eq_some_iff.mp h
        obtain ⟨t, e3, h⟩ := Option.bind_eq_some_iff.mp h
        obtain ⟨fk, e4, h⟩ := Option.bind_eq_some_iff.mp h
        obtain ⟨fv, e8, rfl⟩ := Option.map_eq_some_iff.mp h
        obtain ⟨pu, q⟩ := tgW_ok 3 e2
        exact s_setDc C.un1 C.calm C.nd hy hyl pu (ok.i e1 C) (blk_ok C hb) (fun s H Ca cl fp => q C.hN C.nd C.calm (blk_lo C)) (fun s H Ca cl fp => ifsD_ok ok e3 C.blk) (fun s H Ca cl fp => ok.x e4 C.blk) (fun s H Ca cl fp => ok.x e8 C.blk) (folded_no hs) hsw
      · cases h
    · rename_i tg it ifs a tg1 it1 ifs1 a1
      split at h
      · rename_i hc
        obtain ⟨rfl, hs, rfl, hs1, hv⟩ := hc
        obtain ⟨si, e1, h⟩ := Option.bind_eq_some_iff.mp h
        obtain ⟨g, e2, h⟩ := Option.bind_eq_some_iff.mp h
        obtain ⟨t, e3, h⟩ := Option.bind_eq_some_iff.mp h
        obtain ⟨s1, e5, h⟩ := Option.bind_eq_some_iff.mp h
        obtain ⟨g1, e6, h⟩ := Option.bind_eq_some_iff.mp h
        obtain ⟨t1, e7, h⟩ := Option.bind_eq_some_iff.mp h
        obtain ⟨fk, e4, h⟩ := Option.bind_eq_some_iff.mp h
        obtain ⟨fv, e8, rfl⟩ := Option.map_eq_some_iff.mp h
        obtain ⟨pu, q⟩ := tgW_ok 3 e2
        obtain ⟨pu1, q1⟩ := tgW_ok 3 e6
        exact s_setDc2 C.un1 C.calm C.nd hy hyl pu pu1 (ok.i e1 C) (blk_ok C hb) (fun s H Ca cl fp => q C.hN C.nd C.calm (blk_lo C)) (fun s H Ca cl fp => ifsD_ok ok e3 C.blk) (fun s H Ca cl fp => ok.x e4 C.blk) (fun s H Ca cl fp => ok.x e8 C.blk) (folded_no hs)
          (fun i hi => by simpa using List.all_eq_true.mp hv i hi) (fun s H Ca cl fp => ok.i e5 C.blk) (fun s H Ca cl fp => q1 C.hN C.nd C.calm (blk_lo C)) (fun s H Ca cl fp => ifsD_ok ok e7 C.blk) (fun env => folded_no hs1) hsw
      · cases h
    · cases h
  · cases h
end
end PN
namespace PN
open PySem L2 PyProof.Rows
/-! ## expressions -/
section
variable {X : Cx} {k : Kx} {W : WX} {pos p : Pos}
theorem x_ty {n : String} {x : Str} (hg : Gl X x) (hm : X.mg x = none) (hv : bootBuiltins x = some (.type n)) (hn : x ≠ "__name__") (hd : (x == ("__debug__" : Str)) = false) : PE X (.Name x p) (tTy n) :=
  ⟨fun pins s σ H Q I h => ld_blt I hg hm hv ⟨.ty n, H, I, rfl, h⟩ hn hd⟩
end
/-- a built-in class's name -/
def tyN (x : Str) : Option String := if x = "int" then some "int" else if x = "bool" then some "bool" else if x = "str" then some "str" else if x = "tuple" then some "tuple" else if x = "list" then some "list" else if x = "dict" then some "dict" else none
theorem boot_bool' : bootBuiltins "bool" = some (.type "bool") := by decide +kernel
theorem tyN_ok {c : Cfg} {x : Str} {n : String} (h : tyN x = some n) (hb : bltB c x = true) {k X W} (C : Ctx k X W c) {p : Pos} : PE X (.Name x p) (tTy n) ∧ clsOk n = true := by
  simp only [bltB, Bool.and_eq_true] at hb
  obtain ⟨⟨h1, h2⟩, h3⟩ := hb
  have G := glbB_ok C h1
  have M := C.nob x h2
  unfold tyN at h
  split at h
  · rename_i e; cases h; subst e; exact ⟨x_ty G M boot_int (okNm_n h3) (okNm_d h3), rfl⟩
  split at h
  · rename_i e; cases h; subst e; exact ⟨x_ty G M boot_bool' (okNm_n h3) (okNm_d h3), rfl⟩
  split at h
  · rename_i e; cases h; subst e; exact ⟨x_ty G M boot_str (okNm_n h3) (okNm_d h3), rfl⟩
  split at h
  · rename_i e; cases h; subst e; exact ⟨x_ty G M boot_tuple (okNm_n h3) (okNm_d h3), rfl⟩
  split at h
  · rename_i e; cases h; subst e; exact ⟨x_ty G M boot_list (okNm_n h3) (okNm_d h3), rfl⟩
  split at h
  · rename_i e; cases h; subst e; exact ⟨x_ty G M boot_dict (okNm_n h3) (okNm_d h3), rfl⟩
  · cases h
/-- f(..) of a name -/
def callD (d : Dn) (c : Cfg) (x : Str) (args : List Expr) : Option Se :=
  if x = "isinstance" then
    if bltB c x = true then match args with
      | [e, .Name t _] => if notStar e = true ∧ bltB c t = true then (tyN t).bind fun n => (d.x c e).map (dIsi n) else none
      | [e, .Tuple [.Name t1 _, .Name t2 _] _ _] => if notStar e = true ∧ bltB c t1 = true ∧ bltB c t2 = true then (tyN t1).bind fun n1 => (tyN t2).bind fun n2 => (d.x c e).map (dIsiT [n1, n2]) else none
      | _ => none
    else none
  else match c.T x with
  | some ft => if glbB c x = true ∧ okNm x = true then match args with
    | [] => some (dFn ft.np ft.m dNil)
    | e :: es => (dnA d c (e :: es)).map (dFn ft.np ft.m) else none
  | none => match args with
    | [.Call (.Name r _) [e] [] _] => if x = "list" ∧ r = "range" then (if bltB c x = true ∧ bltB c r = true ∧ notStar e = true then (d.x c e).map dLRg else none)
        else if x = "tuple" ∧ r = "range" then (if bltB c x = true ∧ bltB c r = true ∧ notStar e = true then (d.x c e).map dTRg else none)
        else if bltB c x = true then (bltN x).bind fun g => (dnA d c args).map (dCall g) else none
    | e :: es => if bltB c x = true then (bltN x).bind fun g => (dnA d c (e :: es)).map (dCall g) else none
    | [] => none
section
variable {d : Dn} (ok : DnOk d) {c : Cfg} {k : Kx} {X : Cx} {W : WX} (C : Ctx k X W c)
include C in
theorem blt_facts {x : Str} (hb : bltB c x = true) : Gl X x ∧ X.mg x = none ∧ okNm x = true := by
  simp only [bltB, Bool.and_eq_true] at hb
  exact ⟨glbB_ok C hb.1.1, C.nob x hb.1.2, hb.2⟩
include ok C in
theorem blt_call {x : Str} {e : Expr} {es : List Expr} {f : Se} {p pos : Pos} (h : (if bltB c x = true then (bltN x).bind fun g => (dnA d c (e :: es)).map (dCall g) else none) = some f) : PE X (.Call (.Name x p) (e :: es) [] pos) (tX k W f) := by
  split at h
  · rename_i hb
    obtain ⟨g, eg, h⟩ := Option.bind_eq_some_iff.mp h
    obtain ⟨fs, ef, rfl⟩ := Option.map_eq_some_iff.mp h
    exact blt_ok eg hb C (dnA_star ef) (dnA_ok ok ef C)
  · cases h
include ok C in
theorem callD_ok {x : Str} {args : List Expr} {f : Se} {p pos : Pos} (h : callD d c x args = some f) : PE X (.Call (.Name x p) args [] pos) (tX k W f) := by
  unfold callD at h
  split at h
  · rename_i ex
    subst ex
    split at h
    · rename_i hb
      obtain ⟨G, M, hn⟩ := blt_facts C hb
      split at h
      · rename_i e t tp
        split at h
        · rename_i hc
          obtain ⟨n, en, h⟩ := Option.bind_eq_some_iff.mp h
          obtain ⟨fe, ee, rfl⟩ := Option.map_eq_some_iff.mp h
          obtain ⟨q, cl⟩ := tyN_ok en hc.2 C (p := tp)
          exact x_isi cl (ok.x ee C) q G M (star_cons hc.1) (star_cons rfl) rfl
        · cases h
      · rename_i e t1 p1 t2 p2 j tp
        split at h
        · rename_i hc
          obtain ⟨n1, en1, h⟩ := Option.bind_eq_some_iff.mp h
          obtain ⟨n2, en2, h⟩ := Option.bind_eq_some_iff.mp h
          obtain ⟨fe, ee, rfl⟩ := Option.map_eq_some_iff.mp h
          obtain ⟨q1, cl1⟩ := tyN_ok en1 hc.2.1 C (p := p1)
          obtain ⟨q2, cl2⟩ := tyN_ok en2 hc.2.2 C (p := p2)
          exact x_isiT (by simp [cl1, cl2]) (ok.x ee C) q1 q2 G M (star_cons rfl) (star_cons rfl) (star_cons hc.1) (star_cons rfl) rfl
        · cases h
      · cases h
    · cases h
  · split at h
    · rename_i ft eft
      split at h
      · rename_i hc
        obtain ⟨kk, rm', tab, _⟩ := C.rm
        have rm := rm'.mono (Nat.le_succ kk)
        obtain ⟨fa, fd, ps, hm, kp, bd, hl, F⟩ := tab x ft eft
        rw [← hl] at h
        split at h
        · cases h
          exact x_fn0 F rm C.gd C.tk (glbB_ok C hc.1) hm kp bd (okNm_d hc.2)
        · obtain ⟨fs, ef, rfl⟩ := Option.map_eq_some_iff.mp h
          have st := dnA_star ef
          simp only [List.all_cons, Bool.and_eq_true] at st
          exact x_fn F rm C.gd C.tk (glbB_ok C hc.1) hm kp bd (dnA_ok ok ef C) (okNm_d hc.2) (star_cons st.1) (star_any st.2)
      · cases h
    · split at h
      · rename_i r rp e ep
        split at h
        · rename_i hx
          obtain ⟨rfl, rfl⟩ := hx
          split at h
          · rename_i hc
            obtain ⟨fe, ee, rfl⟩ := Option.map_eq_some_iff.mp h
            obtain ⟨G, M, hn⟩ := blt_facts C hc.1
            obtain ⟨G2, M2, hn2⟩ := blt_facts C hc.2.1
            exact x_listRg C.calm G M G2 M2 (ok.x ee C) (star_cons hc.2.2) (star_cons rfl)
          · cases h
        · split at h
          · rename_i hx
            obtain ⟨rfl, rfl⟩ := hx
            split at h
            · rename_i hc
              obtain ⟨fe, ee, rfl⟩ := Option.map_eq_some_iff.mp h
              obtain ⟨G, M, hn⟩ := blt_facts C hc.1
              obtain ⟨G2, M2, hn2⟩ := blt_facts C hc.2.1
              exact x_tupRg C.calm G M G2 M2 (ok.x ee C) (star_cons hc.2.2) (star_cons rfl)
            · cases h
          · exact blt_call ok C h
      · exact blt_call ok C h
      · cases h
end
/-! ### methods -/
def mt0 (nm : Str) : Option (MT × OpM) := if nm = "pop" then some (.list, mPop) else none
def mt1 (nm : Str) : Option (MT × OpM) := if nm = "append" then some (.list, mAppend) else if nm = "extend" then some (.list, mExtend) else if nm = "pop" then some (.list, mPop) else none
def methD (d : Dn) (c : Cfg) (o : Expr) (nm : Str) (args : List Expr) (line : Bool) : Option Se :=
  if noSuper o = true ∧ line = true then match args with
    | [] => (mt0 nm).bind fun q => (d.x c o).map (dMeth0 q.1 q.2)
    | [e] => (mt1 nm).bind fun q => (d.x c o).bind fun fo => (dnA d c [e]).map (dMeth q.1 q.2 fo)
    | _ => none
  else none
section
variable {d : Dn} (ok : DnOk d) {c : Cfg} {k : Kx} {X : Cx} {W : WX} (C : Ctx k X W c)
theorem few_ok {env : PySem.Env} {cpos : Pos} {es : List Expr} (h : es.all notStar = true) (hl : es.length < 29) : ((backTo cpos (starEach es env)).all (fun x => !x.1) && (backToKw cpos (keywordEach [] env)).all (fun x => x.1.isSome) && decide (es.length + ([] : List Keyword).length + (if ([] : List Keyword).isEmpty then 0 else 1) < 30)) = true := by
  rw [star_all h]
  simp only [Bool.true_and, Bool.and_eq_true, decide_eq_true_eq]
  refine ⟨rfl, ?_⟩
  simp; omega
include ok C in
theorem methD_ok {o : Expr} {nm : Str} {args : List Expr} {apos cpos : Pos} {f : Se} (h : methD d c o nm args (apos.endLine == cpos.line) = some f) : PE X (.Call (.Attribute o nm apos) args [] cpos) (tX k W f) := by
  unfold methD at h
  split at h
  · rename_i hc
    split at h
    · obtain ⟨q, eq, h⟩ := Option.bind_eq_some_iff.mp h
      obtain ⟨fo, eo, rfl⟩ := Option.map_eq_some_iff.mp h
      unfold mt0 at eq
      split at eq
      · rename_i en; cases eq; subst en
        exact x_meth0 C.hk PySem.F.plainAttrs_list PySem.F.slot_list_pop PySem.F.type_list_pop m_pop (ok.x eo C) (base_no hc.1) hc.2
      · cases eq
    · rename_i e
      obtain ⟨q, eq, h⟩ := Option.bind_eq_some_iff.mp h
      obtain ⟨fo, eo, h⟩ := Option.bind_eq_some_iff.mp h
      obtain ⟨fs, ef, rfl⟩ := Option.map_eq_some_iff.mp h
      have st := dnA_star ef
      have st' := st
      simp only [List.all_cons, Bool.and_eq_true] at st
      unfold mt1 at eq
      split at eq
      · rename_i en; cases eq; subst en
        exact x_meth C.hk PySem.F.plainAttrs_list PySem.F.slot_list_append PySem.F.type_list_append m_append (ok.x eo C) (dnA_ok ok ef C) (base_no hc.1) (few_ok st' (by simp)) hc.2 (star_cons st.1) (star_any st.2)
      split at eq
      · rename_i en; cases eq; subst en
        exact x_meth C.hk PySem.F.plainAttrs_list PySem.F.slot_list_extend PySem.F.type_list_extend m_extend (ok.x eo C) (dnA_ok ok ef C) (base_no hc.1) (few_ok st' (by simp)) hc.2 (star_cons st.1) (star_any st.2)
      split at eq
      · rename_i en; cases eq; subst en
        exact x_meth C.hk PySem.F.plainAttrs_list PySem.F.slot_list_pop PySem.F.type_list_pop m_pop (ok.x eo C) (dnA_ok ok ef C) (base_no hc.1) (few_ok st' (by simp)) hc.2 (star_cons st.1) (star_any st.2)
      · cases eq
    · cases h
  · cases h
end
/-! ### the step -/
def optX (d : Dn) (c : Cfg) : Option Expr → Option (Option Se)
  | none => some none
  | some e => (d.x c e).map some
def stepX (d : Dn) (c : Cfg) : Expr → Option Se
  | .Constant (.int i) _ _ => some (dC (.int i))
  | .Constant (.bool b) _ _ => some (dC (.bl b))
  | .Constant .none _ _ => some (dC .non)
  | .Constant (.str s) _ _ => some (dC (.str s))
  | .Name x _ => if okNm x = true then (if visB c.sc x = true then (ixOf c.N x).map dVar else if glbB c x = true then (c.G x).map dC else none) else none
  | .Tuple es _ _ => (dnA d c es).map dTup
  | .List es _ => (dnA d c es).map dLst
  | .Dict [] [] _ => some dDic0
  | .BinOp a op b _ => (opOf op).bind fun g => (d.x c a).bind fun f1 => (d.x c b).map fun f2 => dBin g f1 f2
  | .UnaryOp .USub a _ => (d.x c a).map dNeg
  | .UnaryOp .Not a _ => (d.x c a).map dNot
  | .BoolOp .And [a] _ => d.x c a
  | .BoolOp .Or [a] _ => d.x c a
  | .BoolOp .And (a :: b :: r) p => (d.x c a).bind fun f => (d.x c (.BoolOp .And (b :: r) p)).map (dAnd f)
  | .BoolOp .Or (a :: b :: r) p => (d.x c a).bind fun f => (d.x c (.BoolOp .Or (b :: r) p)).map (dOr f)
  | .Compare a [op] [b] _ => if noSet b = true then (cmpOf op).bind fun g => (d.x c a).bind fun f1 => (d.x c b).map fun f2 => dBin g f1 f2 else none
  | .Compare a [op, op'] [b, e] _ => if noSet e = true then (cmpOf op).bind fun g => (cmpOf op').bind fun g' => (d.x c a).bind fun f1 => (d.x c b).bind fun f2 => (d.x c e).map fun f3 => dChain g g' f1 f2 f3 else none
  | .IfExp t a b _ => (d.t c t).bind fun ft => (d.x c a).bind fun f1 => (d.x c b).map fun f2 => dIf ft f1 f2
  | .Call (.Name x _) args [] _ => callD d c x args
  | .Call (.Attribute o nm ap) args [] cp => methD d c o nm args (ap.endLine == cp.line)
  | .Subscript a (.Slice lo hi none _) _ => (d.x c a).bind fun f => (optX d c lo).bind fun l => (optX d c hi).map fun u => dSlice f l u
  | .Subscript a (.Slice none none (some (.UnaryOp .USub (.Constant (.int 1) _ _) _)) _) _ => (d.x c a).map dRev
  | .Subscript a b _ => if noSlice b = true then (d.x c a).bind fun f1 => (d.x c b).map fun f2 => dBin dItem f1 f2 else none
  | .ListComp elt gens scope _ => lcD d c elt gens scope
  | .DictComp kx vx gens scope _ => dcD d c kx vx gens scope
  | _ => none
def stepT (d : Dn) (c : Cfg) : Expr → Option St'
  | .UnaryOp .Not a _ => (d.t c a).map dNotT
  | .BoolOp op es p => d.w c (.BoolOp op es p)
  | .Compare a [op] [b] _ => if noSet b = true then (cmpOf op).bind fun g => (d.x c a).bind fun f1 => (d.x c b).map fun f2 => dFlag (dBin g f1 f2) else none
  | .Compare a [op, op'] [b, e] _ => if noSet e = true then (cmpOf op).bind fun g => (cmpOf op').bind fun g' => (d.x c a).bind fun f1 => (d.x c b).bind fun f2 => (d.x c e).map fun f3 => dFlag (dChain g g' f1 f2 f3) else none
  | .IfExp t a b _ => (d.t c t).bind fun ft => (d.t c a).bind fun f1 => (d.t c b).map fun f2 => dIfT ft f1 f2
  | e => if tested e = true then (d.x c e).map dTru else none
def stepW (d : Dn) (c : Cfg) : Expr → Option St'
  | .BoolOp .And [a] _ => d.t c a
  | .BoolOp .Or [a] _ => d.t c a
  | .BoolOp .And (a :: b :: r) p => (d.t c a).bind fun f => (d.w c (.BoolOp .And (b :: r) p)).map (dAndT f)
  | .BoolOp .Or (a :: b :: r) p => (d.t c a).bind fun f => (d.w c (.BoolOp .Or (b :: r) p)).map (dOrT f)
  | _ => none
def isTup : Expr → Bool
  | .Tuple _ _ _ => true
  | _ => false
def stepI (d : Dn) (c : Cfg) (tg : Expr) : Expr → Option Si
  | .Call (.Name x p) args [] pos =>
    if x = "range" ∧ bltB c x = true then match args with
      | [a] => (dnA d c [a]).map (dRngI rng1)
      | [a, b] => (dnA d c [a, b]).map (dRngI rng2)
      | [a, b, e] => (dnA d c [a, b, e]).map (dRngI rng3)
      | _ => none
    else if x = "enumerate" ∧ bltB c x = true then match args with
      | [a] => if isTup tg = true then (dnA d c [a]).map (dArgI enumN) else none
      | _ => none
    else if x = "zip" ∧ bltB c x = true then match args with
      | [a, b] => if isTup tg = true then (dnA d c [a, b]).map (dArgI zipN) else none
      | _ => none
    else (d.x c (.Call (.Name x p) args [] pos)).map dSeqI
  | e => (d.x c e).map dSeqI
def stepD (d : Dn) : Dn := ⟨stepX d, stepT d, stepW d, stepI d⟩
section
variable {d : Dn} (ok : DnOk d) {c : Cfg} {k : Kx} {X : Cx} {W : WX} (C : Ctx k X W c)
include ok C in
theorem optX_ok {o : Option Expr} {f : Option Se} (h : optX d c o = some f) : PO X o (tO' k W f) := by
  cases o with
  | none => cases h; exact o_none
  | some e =>
    obtain ⟨g, eg, rfl⟩ := Option.map_eq_some_iff.mp h
    exact o_some (ok.x eg C)
include ok C in
theorem stepX_ok {e : Expr} {f : Se} (h : stepX d c e = some f) : PE X e (tX k W f) := by
  unfold stepX at h
  split at h
  · cases h; exact x_int
  · cases h; exact x_bl
  · cases h; exact x_non
  · cases h; exact x_str
  · rename_i x p
    split at h
    · rename_i hn
      split at h
      · rename_i hv
        obtain ⟨i, ei, rfl⟩ := Option.map_eq_some_iff.mp h
        exact x_var (by rw [C.hN]; exact ixOf_at ei) (by rw [C.sc]; exact visB_ok hv) (okNm_d hn) (okNm_c hn)
      · split at h
        · rename_i hg
          obtain ⟨dd, ed, rfl⟩ := Option.map_eq_some_iff.mp h
          obtain ⟨v, u, hm, r, rdd⟩ := C.gl x dd ed
          exact x_glob (glbB_ok C hg) hm r (okNm_d hn) rdd
        · cases h
    · cases h
  · obtain ⟨fs, ef, rfl⟩ := Option.map_eq_some_iff.mp h
    exact x_tup (dnA_ok ok ef C)
  · obtain ⟨fs, ef, rfl⟩ := Option.map_eq_some_iff.mp h
    exact x_lst (dnA_ok ok ef C)
  · cases h; exact x_dic0
  · obtain ⟨g, eg, h⟩ := Option.bind_eq_some_iff.mp h
    obtain ⟨f1, e1, h⟩ := Option.bind_eq_some_iff.mp h
    obtain ⟨f2, e2, rfl⟩ := Option.map_eq_some_iff.mp h
    exact x_bin (opOf_ok eg) (ok.x e1 C) (ok.x e2 C)
  · obtain ⟨f1, e1, rfl⟩ := Option.map_eq_some_iff.mp h
    exact x_neg (ok.x e1 C)
  · obtain ⟨f1, e1, rfl⟩ := Option.map_eq_some_iff.mp h
    exact x_not C.hk (ok.x e1 C)
  · exact x_one (ok.x h C)
  · exact x_one (ok.x h C)
  · obtain ⟨f1, e1, h⟩ := Option.bind_eq_some_iff.mp h
    obtain ⟨f2, e2, rfl⟩ := Option.map_eq_some_iff.mp h
    exact x_and C.hk (ok.x e1 C) (ok.x e2 C)
  · obtain ⟨f1, e1, h⟩ := Option.bind_eq_some_iff.mp h
    obtain ⟨f2, e2, rfl⟩ := Option.map_eq_some_iff.mp h
    exact x_or C.hk (ok.x e1 C) (ok.x e2 C)
  · split at h
    · rename_i hs
      obtain ⟨g, eg, h⟩ := Option.bind_eq_some_iff.mp h
      obtain ⟨f1, e1, h⟩ := Option.bind_eq_some_iff.mp h
      obtain ⟨f2, e2, rfl⟩ := Option.map_eq_some_iff.mp h
      exact x_cmp (cmpOf_ok C.un C.hk eg) (ok.x e1 C) (ok.x e2 C) (behind_no hs)
    · cases h
  · split at h
    · rename_i hs
      obtain ⟨g, eg, h⟩ := Option.bind_eq_some_iff.mp h
      obtain ⟨g', eg', h⟩ := Option.bind_eq_some_iff.mp h
      obtain ⟨f1, e1, h⟩ := Option.bind_eq_some_iff.mp h
      obtain ⟨f2, e2, h⟩ := Option.bind_eq_some_iff.mp h
      obtain ⟨f3, e3, rfl⟩ := Option.map_eq_some_iff.mp h
      exact x_chain (cmpOf_ok C.un C.hk eg) (cmpOf_ok C.un C.hk eg') (ok.x e1 C) (ok.x e2 C) (ok.x e3 C) (behind_no hs)
    · cases h
  · obtain ⟨ft, et, h⟩ := Option.bind_eq_some_iff.mp h
    obtain ⟨f1, e1, h⟩ := Option.bind_eq_some_iff.mp h
    obtain ⟨f2, e2, rfl⟩ := Option.map_eq_some_iff.mp h
    exact x_if (ok.t et C) (ok.x e1 C) (ok.x e2 C)
  · exact callD_ok ok C h
  · exact methD_ok ok C h
  · obtain ⟨f1, e1, h⟩ := Option.bind_eq_some_iff.mp h
    obtain ⟨l, el, h⟩ := Option.bind_eq_some_iff.mp h
    obtain ⟨u, eu, rfl⟩ := Option.map_eq_some_iff.mp h
    exact x_slice C.hk (ok.x e1 C) (optX_ok ok C el) (optX_ok ok C eu)
  · obtain ⟨f1, e1, rfl⟩ := Option.map_eq_some_iff.mp h
    exact x_rev C.hk (ok.x e1 C)
  · split at h
    · rename_i hs
      obtain ⟨f1, e1, h⟩ := Option.bind_eq_some_iff.mp h
      obtain ⟨f2, e2, rfl⟩ := Option.map_eq_some_iff.mp h
      exact x_sub C.un C.hk (ok.x e1 C) (ok.x e2 C) (plain_ix hs)
    · cases h
  · exact lcD_ok ok C h
  · exact dcD_ok ok C h
  · cases h
include ok C in
theorem stepT_ok {e : Expr} {f : St'} (h : stepT d c e = some f) : PT X e (tT k W f) := by
  unfold stepT at h
  split at h
  · obtain ⟨f1, e1, rfl⟩ := Option.map_eq_some_iff.mp h
    exact t_not (ok.t e1 C)
  · exact (ok.w h C).pt
  · split at h
    · rename_i hs
      obtain ⟨g, eg, h⟩ := Option.bind_eq_some_iff.mp h
      obtain ⟨f1, e1, h⟩ := Option.bind_eq_some_iff.mp h
      obtain ⟨f2, e2, rfl⟩ := Option.map_eq_some_iff.mp h
      exact t_cmp (cmpOf_ok C.un C.hk eg) (ok.x e1 C) (ok.x e2 C) (behind_no hs)
    · cases h
  · split at h
    · rename_i hs
      obtain ⟨g, eg, h⟩ := Option.bind_eq_some_iff.mp h
      obtain ⟨g', eg', h⟩ := Option.bind_eq_some_iff.mp h
      obtain ⟨f1, e1, h⟩ := Option.bind_eq_some_iff.mp h
      obtain ⟨f2, e2, h⟩ := Option.bind_eq_some_iff.mp h
      obtain ⟨f3, e3, rfl⟩ := Option.map_eq_some_iff.mp h
      exact t_chain (cmpOf_ok C.un C.hk eg) (cmpOf_ok C.un C.hk eg') (ok.x e1 C) (ok.x e2 C) (ok.x e3 C) (behind_no hs)
    · cases h
  · obtain ⟨ft, et, h⟩ := Option.bind_eq_some_iff.mp h
    obtain ⟨f1, e1, h⟩ := Option.bind_eq_some_iff.mp h
    obtain ⟨f2, e2, rfl⟩ := Option.map_eq_some_iff.mp h
    exact t_if (ok.t et C) (ok.t e1 C) (ok.t e2 C)
  · split at h
    · rename_i ht
      obtain ⟨f1, e1, rfl⟩ := Option.map_eq_some_iff.mp h
      exact t_tru C.hk (ok.x e1 C) (tested_is ht)
    · cases h
include ok C in
theorem stepW_ok {e : Expr} {f : St'} (h : stepW d c e = some f) : PW X e (tT k W f) := by
  unfold stepW at h
  split at h
  · exact w_and1 (ok.t h C)
  · exact w_or1 (ok.t h C)
  · obtain ⟨f1, e1, h⟩ := Option.bind_eq_some_iff.mp h
    obtain ⟨f2, e2, rfl⟩ := Option.map_eq_some_iff.mp h
    exact w_and (ok.t e1 C) (ok.w e2 C)
  · obtain ⟨f1, e1, h⟩ := Option.bind_eq_some_iff.mp h
    obtain ⟨f2, e2, rfl⟩ := Option.map_eq_some_iff.mp h
    exact w_or (ok.t e1 C) (ok.w e2 C)
  · cases h
include ok C in
theorem stepI_ok {tg e : Expr} {f : Si} (h : stepI d c tg e = some f) : PI X tg e (tI k W f) := by
  unfold stepI at h
  split at h
  · rename_i x p args pos
    split at h
    · rename_i hx
      obtain ⟨rfl, hb⟩ := hx
      obtain ⟨G, M, hn⟩ := blt_facts C hb
      split at h
      · obtain ⟨fs, ef, rfl⟩ := Option.map_eq_some_iff.mp h
        have st := dnA_star ef
        simp only [List.all_cons, Bool.and_eq_true] at st
        exact i_range1 G M (dnA_ok ok ef C) (star_cons st.1)
      · obtain ⟨fs, ef, rfl⟩ := Option.map_eq_some_iff.mp h
        have st := dnA_star ef
        simp only [List.all_cons, Bool.and_eq_true] at st
        exact i_range2 G M (dnA_ok ok ef C) (by rw [star_cons st.1, star_cons st.2.1]; rfl) (star_cons st.2.1)
      · obtain ⟨fs, ef, rfl⟩ := Option.map_eq_some_iff.mp h
        have st := dnA_star ef
        simp only [List.all_cons, Bool.and_eq_true] at st
        exact i_range3 G M (dnA_ok ok ef C) (star_cons st.1) (star_any (by simp [st.2.1, st.2.2.1]))
      · cases h
    · split at h
      · rename_i hx
        obtain ⟨rfl, hb⟩ := hx
        obtain ⟨G, M, hn⟩ := blt_facts C hb
        split at h
        · split at h
          · rename_i ht
            obtain ⟨fs, ef, rfl⟩ := Option.map_eq_some_iff.mp h
            have st := dnA_star ef
            simp only [List.all_cons, Bool.and_eq_true] at st
            cases tg <;> first | (simp [isTup] at ht; done) | skip
            exact i_enum C.hk G M (dnA_ok ok ef C) (star_cons st.1)
          · cases h
        · cases h
      · split at h
        · rename_i hx
          obtain ⟨rfl, hb⟩ := hx
          obtain ⟨G, M, hn⟩ := blt_facts C hb
          split at h
          · split at h
            · rename_i ht
              obtain ⟨fs, ef, rfl⟩ := Option.map_eq_some_iff.mp h
              have st := dnA_star ef
              simp only [List.all_cons, Bool.and_eq_true] at st
              cases tg <;> first | (simp [isTup] at ht; done) | skip
              exact i_zip C.hk G M (dnA_ok ok ef C) (star_cons st.1) (star_any (by simp [st.2.1]))
            · cases h
          · cases h
        · obtain ⟨f1, e1, rfl⟩ := Option.map_eq_some_iff.mp h
          exact i_seq C.hk (ok.x e1 C)
  · obtain ⟨f1, e1, rfl⟩ := Option.map_eq_some_iff.mp h
    exact i_seq C.hk (ok.x e1 C)
end
theorem stepD_ok {d : Dn} (ok : DnOk d) : DnOk (stepD d) := ⟨fun h _ _ _ C => stepX_ok ok C h, fun h _ _ _ C => stepT_ok ok C h, fun h _ _ _ C => stepW_ok ok C h, fun h _ _ _ C => stepI_ok ok C h⟩
def dn : Nat → Dn
  | 0 => Dn.none
  | n + 1 => stepD (dn n)
theorem dn_ok : ∀ n, DnOk (dn n)
  | 0 => Dn.none_ok
  | n + 1 => stepD_ok (dn_ok n)
end PN
namespace PN
open PySem L2 PyProof.Rows
/-! ## own classes: fields, methods, making -/
def dFldL (cs : List Str) (f : Str) (g : Se) : Se := fun env h => (g env h).bind fun x h1 => match x with
  | .ref n => match insAt h1 n with
    | some (c, fs) => if cs.contains c = true then (match fs.lookup f with
      | some d => .ok d h1
      | none => .bad) else .bad
    | none => .bad
  | _ => .bad
section
variable {X : Cx} {k : Kx} {W : WX}
theorem x_fldL {a : Expr} {f : Str} {pos : Pos} {fa : Se} {cs : List Str} (ha : PE X a (tX k W fa)) (hc : ∀ c C, cs.contains c = true → k.cl c = some C → Cls X.K C ∧ NoAttr X.K C f) (hb : attributeBase a f X.env (eval a X.env) = eval a X.env) :
    PE X (.Attribute a f pos) (tX k W (dFldL cs f fa)) :=
  PE.weak (pe_fld ha hb) fun σ H Q ⟨μ, env, h, rh, re, p⟩ => then1 rh re p fun x h1 H1 μ1 v g1 r1 e1 rx p1 => by
    cases x <;> first | exact p1.elim | skip
    rename_i n
    simp only at p1
    split at p1
    · rename_i c fs ec
      split at p1
      · rename_i cm
        split at p1
        · rename_i d ed
          obtain ⟨a', ea, rfl⟩ := rx.ref_of
          obtain ⟨C, dx, vs, e0, e2, q⟩ := r1.ob _ _ _ (insAt_eq ec) ea
          obtain ⟨w, ew, rw'⟩ := q.lookup ed
          obtain ⟨c1, c2⟩ := hc c C cm e0
          exact ⟨a', C, dx, vs, w, rfl, e2, c1, c2, ew, now1 r1 rw' p1⟩
        · exact p1.elim
      · exact p1.elim
    · exact p1.elim
/-- a field stored -/
def putD (f : Str) (d : D) : List (Str × D) → List (Str × D)
  | [] => [(f, d)]
  | (g, x) :: r => if g = f then (g, d) :: r else (g, x) :: putD f d r
/-! ### a new instance -/
def dMk (c : Str) (n : Nat) (m : Mf) (fs : Sa) : Se := fun env h => (fs env h).bind fun l h1 =>
  if l.length + 1 = n then (m (.ref h1.length :: l) (h1 ++ [.ins c []])).bind fun d h2 => (match d with
    | .non => .ok (.ref h1.length) h2
    | _ => .bad) else .bad
theorem run_mkG {pins : List (Addr × Obj)} {σ : L2.St} {H : Hp} {s : Shared} {Q : VK} {us : List Value} {vs : List V} {sp : Sp} {kk : Nat} {f C : Addr} {fd : FuncData} {ps : List Str} (M : Mk X.K C f) (F : FnG X.prog X.w X.K X.mg X.base kk f fd ps sp) (hr : Room (kk + 1) X.A) (hgd : X.A.guards = some [])
    (hb : Binds X.K fd ps []) (tk : Takes X W) (I : L2.Inv X pins σ H s) (r : Vals vs us)
    (h : ∀ x dx, H x = none → H dx = none → dx ≠ x → sp (.ref x :: vs) (upd (upd H dx (.own x)) x (.ins C dx [])) (fun v H2 => v = .non ∧ Q (.ref x) H2) (WE W σ)) :
    wpAny (model X.prog X.w) X.A (call (.ref C) us) (EP X pins σ Q) X.xe s := by
  have n1 : H (s.heap.objs.size + 1) = none := I.hok.fresh (Nat.le_succ _)
  have n0 : H s.heap.objs.size = none := I.hok.fresh (Nat.le_refl _)
  have hq := h (s.heap.objs.size + 1) s.heap.objs.size n1 n0 (Nat.ne_of_lt (Nat.lt_succ_self _))
  have J := Inv.made (C := C) I
  have r2 : Vals (V.ref (s.heap.objs.size + 1) :: vs) (Value.ref (s.heap.objs.size + 1) :: us) := .cons rfl r
  have hl : (Value.ref (s.heap.objs.size + 1) :: us).length = ps.length := by rw [← r2.length]; exact F.len _ _ _ _ hq
  have bd := hb _ (Value.ref (s.heap.objs.size + 1) :: us) J.kIn (by rw [List.append_nil]; exact hl)
  rw [List.append_nil] at bd
  have gd : (X.A.under (.builtin "type.__call__" ⟨.ref C :: us, []⟩)).guards = some [] := by
    show _ = _
    simp only [Around.under, Code.isCreation, Code.isGuard]
    first | exact hgd | (simp; exact hgd) | (simp [hgd])
  refine wpAny_call (make_map (f := f) I.kIn M.makes M.init (beq_iff_eq.mp M.fn) (codeAny_mono (F.run _ X.stack _ _ ⟨Value.ref (s.heap.objs.size + 1) :: us, []⟩ (Value.ref (s.heap.objs.size + 1) :: us) _ _ (WE W σ) (hr.make C us []) gd
    (J.env0.make C us []) bd r2 hq) fun rr s' z => ?_))
  cases rr with
  | error e => exact passAt tk σ pins _ _ e s' J z
  | ok fl =>
    cases fl with
    | ret u =>
      obtain ⟨v, H', K1, rv, ev, q3⟩ := J.after z
      subst ev
      exact ⟨rv, ⟨V.ref (s.heap.objs.size + 1), H', K1, rfl, q3⟩⟩
    | next => exact False.elim z
    | brk => exact False.elim z
    | cont => exact False.elim z
theorem REn.put {H μ} {f : Str} {d : D} {v : V} (r : RD H μ d v) : ∀ {fs : List (Str × D)} {vs : List (Str × V)}, REn H μ fs vs → REn H μ (putD f d fs) (putF f v vs)
  | [], vs, h => by
    have : vs = [] := h
    subst this
    exact ⟨v, [], rfl, r, rfl⟩
  | (g, x) :: l, vs, h => by
    obtain ⟨w, q, rfl, h1, h2⟩ := h
    show REn H μ (if g = f then (g, d) :: l else (g, x) :: putD f d l) (if g = f then (g, v) :: q else (g, w) :: putF f v q)
    by_cases c : g = f
    · rw [if_pos c, if_pos c]; exact ⟨v, q, rfl, r, h2⟩
    · rw [if_neg c, if_neg c]; exact ⟨w, _, rfl, h1, REn.put r h2⟩
theorem REn.length {H μ} : ∀ {fs : List (Str × D)} {vs : List (Str × V)}, REn H μ fs vs → fs.length = vs.length
  | [], vs, h => by have : vs = [] := h; subst this; rfl
  | (g, x) :: l, vs, h => by
    obtain ⟨w, q, rfl, h1, h2⟩ := h
    simp [REn.length h2]
theorem mk_start {μ : List Addr} {h : Hd} {H : Hp} {c : Str} {C x dx : Addr} (rh : RH k μ h H) (hC : k.cl c = some C) (hx : H x = none) (hd : H dx = none) (ne : dx ≠ x) :
    RH k (μ ++ [x]) (h ++ [.ins c []]) (upd (upd H dx (.own x)) x (.ins C dx [])) ∧ Grow H μ (upd (upd H dx (.own x)) x (.ins C dx [])) (μ ++ [x]) := by
  have r1 := rh.fresh (o := .own x) hd
  have g1 : Grow H μ (upd H dx (.own x)) μ := Grow.fresh hd
  have hx1 : upd H dx (.own x) x = none := by rw [upd_ne (Ne.symm ne)]; exact hx
  obtain ⟨r2, g2⟩ := r1.alloc (o := .ins c []) (ho := .ins C dx []) hx1 rfl ⟨C, dx, [], hC, upd_same, rfl⟩
  exact ⟨r2, g1.trans g2⟩
variable {kk : Nat} {f C : Addr} {fd : FuncData} {ps : List Str} {m : Mf} {c x : Str} {p pos : Pos} {e : Expr} {es : List Expr} {fs : Sa}
theorem mk_law {μ : List Addr} {env : Env} {h : Hd} {H : Hp} {σ : L2.St} {Q : VK} (hC : k.cl c = some C) {l : List D} {vs : List V} (rh : RH k μ h H) (rl : RDs H μ l vs)
    (q : PostG k W μ H σ (okV Q) (if l.length + 1 = ps.length then (m (.ref h.length :: l) (h ++ [.ins c []])).bind fun d h2 => (match d with
    | .non => .ok (.ref h.length) h2
    | _ => .bad) else .bad)) : ∀ x dx, H x = none → H dx = none → dx ≠ x → spM k ps.length m (.ref x :: vs) (upd (upd H dx (.own x)) x (.ins C dx [])) (fun v H2 => v = .non ∧ Q (.ref x) H2) (WE W σ) := by
  intro x dx hx hd ne
  obtain ⟨hl, q⟩ := PostG.guard q
  obtain ⟨r2, g2⟩ := mk_start rh hC hx hd ne
  have at_ : (μ ++ [x])[h.length]? = some x := by rw [← rh.len, List.getElem?_append_right (Nat.le_refl _)]; simp
  refine ⟨by rw [List.length_cons, ← rl.length]; exact hl, μ ++ [x], _, .ref h.length :: l, r2, RDs.cons (RD.ref at_) (RDs.grow g2.toExt _ _ rl), ?_⟩
  have q' := (PostG.bind (PostG.later q g2)).mono (okc' := okV fun v H2 => v = .non ∧ Q (.ref x) H2) fun d h2 H2 μ2 g3 r3 w v rv => by
    cases d <;> first | exact (show False from w).elim | skip
    exact ⟨rv.non_of, w H2 μ2 Grow.refl r3 _ (RD.ref (g3.pre _ _ at_))⟩
  exact PostG.slots q'
theorem x_mk (hC : k.cl c = some C) (M : Mk X.K C f) (F : FnG X.prog X.w X.K X.mg X.base kk f fd ps (spM k ps.length m)) (hr : Room (kk + 1) X.A) (hgd : X.A.guards = some []) (tk : Takes X W) (hg : Gl X x) (hm : X.mg x = some (.ref C)) (hb : Binds X.K fd ps [])
    (ha : PA X (e :: es) (tA k W fs)) (hdb : (x == ("__debug__" : Str)) = false) (he : starEach (e :: es) X.env = (false, eval e X.env) :: starEach es X.env) (hpl : (backTo pos (starEach es X.env)).any (·.1) = false) :
    PE X (.Call (.Name x p) (e :: es) [] pos) (tX k W (dMk c ps.length m fs)) := by
  refine ⟨fun pins s σ H Q I ⟨μ, env, h, rh, re, q⟩ => ?_⟩
  refine wpAny_Call_Name_kw (ld_glob I hg hm ?_ hdb)
  have law : tA k W fs σ H fun vs H1 => ∀ x dx, H1 x = none → H1 dx = none → dx ≠ x → spM k ps.length m (.ref x :: vs) (upd (upd H1 dx (.own x)) x (.ins C dx [])) (fun v H2 => v = .non ∧ Q (.ref x) H2) (WE W σ) :=
    thenA rh re q fun l h1 H1 μ1 vs g1 r1 e1 rl q1 => mk_law (env := env) hC r1 rl q1
  refine PySem.W.callWith_K (h₀ := X.base) I.ok.mod.kin M.kp (thn (ha.run pos pins s σ H _ I law) fun us s1 ⟨vs, H1, I1, r, z⟩ => ⟨I1.kIn, ?_⟩) he hpl
  exact run_mkG M F hr hgd hb tk I1 r z
theorem x_mk0 (hC : k.cl c = some C) (M : Mk X.K C f) (F : FnG X.prog X.w X.K X.mg X.base kk f fd ps (spM k ps.length m)) (hr : Room (kk + 1) X.A) (hgd : X.A.guards = some []) (tk : Takes X W) (hg : Gl X x) (hm : X.mg x = some (.ref C)) (hb : Binds X.K fd ps [])
    (hdb : (x == ("__debug__" : Str)) = false) : PE X (.Call (.Name x p) [] [] pos) (tX k W (dMk c ps.length m dNil)) := by
  refine ⟨fun pins s σ H Q I ⟨μ, env, h, rh, re, q⟩ => ?_⟩
  refine wpAny_Call_Name_kw (ld_glob I hg hm ?_ hdb)
  exact PySem.W.callWith_K0 I.kIn M.kp (run_mkG (us := []) M F hr hgd hb tk I .nil (mk_law (env := env) (l := []) hC rh RDs.nil q))
/-! ### o.m(..), m a method of the class c -/
def dOwn (c : Str) (n : Nat) (m : Mf) (nm : Str) (fo : Se) (fs : Sa) : Se := fun env h => gc h ((fo env h).bind fun o h1 => match o with
  | .ref i => (match insAt h1 i with
    | some (c', fl) => if c' = c ∧ (fl.lookup nm).isNone = true then (fs env h1).bind fun l h2 => (if l.length + 1 = n then m (o :: l) h2 else .bad) else .bad
    | none => .bad)
  | _ => .bad)
theorem REn.nolook {H μ} {f : Str} : ∀ {fs : List (Str × D)} {vs : List (Str × V)}, REn H μ fs vs → (fs.lookup f).isNone = true → vs.lookup f = none
  | [], vs, h, _ => by have : vs = [] := h; subst this; rfl
  | (g, x) :: l, vs, h, e => by
    obtain ⟨w, q, rfl, h1, h2⟩ := h
    rw [List.lookup_cons] at e ⊢
    cases hb : f == g with
    | true => rw [hb] at e; cases e
    | false => rw [hb] at e; exact REn.nolook h2 e
theorem own_law {nm : Str} {fo : Se} {σ : L2.St} {H : Hp} {Q : VK} (hC : k.cl c = some C) (w : tX k W (dOwn c ps.length m nm fo fs) σ H Q) :
    tX k W fo σ H fun v H1 => ∃ a dx fl, v = .ref a ∧ H1 a = some (.ins C dx fl) ∧ fl.lookup nm = none ∧ tA k W fs σ H1 fun vs H2 => spM k ps.length m (.ref a :: vs) H2 Q (WE W σ) := by
  obtain ⟨μ, env, h, rh, re, q⟩ := w
  refine then1 rh re (PostG.gc rh q) fun d h1 H1 μ1 v g1 r1 e1 rv q1 => ?_
  cases d <;> first | exact (show False from q1).elim | skip
  rename_i i
  simp only at q1
  split at q1
  · rename_i c' fl ec
    obtain ⟨⟨hc, hn⟩, q2⟩ := PostG.guard q1
    obtain ⟨a, ea, rfl⟩ := rv.ref_of
    obtain ⟨C', dx, vl, e0, e2, rn⟩ := r1.ob _ _ _ (insAt_eq ec) ea
    have e0' : k.cl c' = some C' := e0
    rw [hc, hC] at e0'; cases e0'
    refine ⟨a, dx, vl, rfl, e2, rn.nolook hn, thenA r1 e1 q2 fun l h2 H2 μ2 vs g2 r2 e2' rl q3 => ?_⟩
    obtain ⟨hl, q4⟩ := PostG.guard q3
    exact ⟨by rw [List.length_cons, ← rl.length]; exact hl, μ2, h2, _, r2, RDs.cons (RD.ref (g2.pre _ _ ea)) rl, q4.slots⟩
  · exact (show False from q1).elim
theorem x_own {o : Expr} {nm : Str} {apos : Pos} {fo : Se} (ho : PE X o (tX k W fo)) (hC : k.cl c = some C) (cls : Cls X.K C) (hm : Meth X.K C nm f) (F : FnG X.prog X.w X.K X.mg X.base kk f fd ps (spM k ps.length m)) (hr : Room kk X.A) (hgd : X.A.guards = some []) (tk : Takes X W) (hb : Binds X.K fd ps [])
    (ha : PA X (e :: es) (tA k W fs)) (hbase : attributeBase o nm X.env (eval o X.env) = eval o X.env) (hst : (e :: es).all notStar = true) (hfew : methodCallForm ((e :: es).length + ([] : List Keyword).length) (backTo pos (starEach (e :: es) X.env)) (backToKw pos (keywordEach [] X.env)) = true)
    (hline : (apos.endLine == pos.line) = true) : PE X (.Call (.Attribute o nm apos) (e :: es) [] pos) (tX k W (dOwn c ps.length m nm fo fs)) := by
  refine ⟨fun pins s σ H Q I w => ?_⟩
  have hpos : methodCallPos true o X.env apos pos = pure pos := by unfold methodCallPos; simp [hline]
  rw [arm_eval_Call, hbase]
  refine wpAny_bind (thn (ho.run pins s σ H _ I (own_law hC w)) fun u s1 ⟨v, H1, I1, rv, a, dx, fl, ev, ea, el, z⟩ => ?_)
  subst ev
  obtain rfl : u = Value.ref a := rv
  refine wpAny_bind (wpAny_standAt ?_)
  unfold methodCall
  rw [hfew]
  refine wpAny_bind (wpAny_holding (getmeth_ok I1 ea cls hm el ?_))
  refine wpAny_bind (wpAny_of_eq hpos ?_)
  simp only [List.all_cons, Bool.and_eq_true] at hst
  refine PySem.W.callWith_K (first := [.ref a]) (h₀ := X.base) I1.ok.mod.kin hm.kp (thn (ha.run pos pins s1 σ H1 _ I1 z) fun us s2 ⟨vs, H2, I2, r, z2⟩ => ⟨I2.kIn, ?_⟩) (star_cons hst.1) (star_any (by simp [hst.2]))
  exact run_G (us := .ref a :: us) (vs := .ref a :: vs) F hr hgd hb tk I2 (.cons rfl r) z2
theorem x_own0 {o : Expr} {nm : Str} {apos : Pos} {fo : Se} (ho : PE X o (tX k W fo)) (hC : k.cl c = some C) (cls : Cls X.K C) (hm : Meth X.K C nm f) (F : FnG X.prog X.w X.K X.mg X.base kk f fd ps (spM k ps.length m)) (hr : Room kk X.A) (hgd : X.A.guards = some []) (tk : Takes X W) (hb : Binds X.K fd ps [])
    (hbase : attributeBase o nm X.env (eval o X.env) = eval o X.env) (hline : (apos.endLine == pos.line) = true) : PE X (.Call (.Attribute o nm apos) [] [] pos) (tX k W (dOwn c ps.length m nm fo dNil)) := by
  refine ⟨fun pins s σ H Q I w => ?_⟩
  have hpos : methodCallPos true o X.env apos pos = pure pos := by unfold methodCallPos; simp [hline]
  rw [arm_eval_Call, hbase]
  refine wpAny_bind (thn (ho.run pins s σ H _ I (own_law hC w)) fun u s1 ⟨v, H1, I1, rv, a, dx, fl, ev, ea, el, z⟩ => ?_)
  subst ev
  obtain rfl : u = Value.ref a := rv
  refine wpAny_bind (wpAny_standAt ?_)
  unfold methodCall
  refine wpAny_bind (wpAny_holding (getmeth_ok I1 ea cls hm el ?_))
  refine wpAny_bind (wpAny_of_eq hpos ?_)
  obtain ⟨μ, env, h, rh, re, q⟩ := z
  exact PySem.W.callWith_K0 (first := [.ref a]) I1.kIn hm.kp (run_G (us := [.ref a]) (vs := [.ref a]) F hr hgd hb tk I1 (.cons rfl .nil) (q H1 μ Grow.refl rh [] RDs.nil))
/-! ### self.f = .. -/
def dGfld (cs : List Str) (f : Str) (fo : Se) : Sg := fun d e h => (fo e h).to e fun o h1 => match o with
  | .ref n => (match insAt h1 n with
    | some (c, fl) => if cs.contains c = true ∧ fl.length < 900 then .nx e (h1.set n (.ins c (putD f d fl))) else .bad
    | none => .bad)
  | _ => .bad
theorem g_fld {o : Expr} {f : Str} {fo : Se} {cs : List Str} (ho : PE X o (tX k W fo)) (hc : ∀ c C, cs.contains c = true → k.cl c = some C → Cls X.K C ∧ NoAttr X.K C f) : PG X (.Attribute o f pos) (tG k W (dGfld cs f fo)) := by
  refine ⟨fun pins s σ H v u Q I r ⟨μ, env, h, d, rh, re, rv, p⟩ => ?_⟩
  rw [arm_assign_Attribute]
  have law : tX k W fo σ H fun x H1 => ∃ a C dx fl, x = .ref a ∧ H1 a = some (.ins C dx fl) ∧ Cls X.K C ∧ NoAttr X.K C f ∧ fl.length < 1000 ∧ Q σ (upd H1 a (.ins C dx (putF f v fl))) :=
    s1 rh re p fun o h1 H1 μ1 w g1 r1 e1 rw1 p1 => by
      cases o <;> first | exact (show False from p1).elim | skip
      rename_i n
      simp only at p1
      split at p1
      · rename_i c fl ec
        obtain ⟨⟨hcs, hl⟩, p2⟩ := PostS.guard p1
        obtain ⟨a, ea, rfl⟩ := rw1.ref_of
        obtain ⟨C, dx, vl, e0, e2, rn⟩ := r1.ob _ _ _ (insAt_eq ec) ea
        obtain ⟨c1, c2⟩ := hc c C hcs e0
        have hz : fl.length = vl.length := rn.length
        refine ⟨a, C, dx, vl, rfl, e2, c1, c2, by omega, ?_⟩
        have wr := r1.write (ho := .ins C dx (putF f v vl)) (o' := .ins c (putD f d fl)) (insAt_eq ec) ea rfl rfl fun g => ⟨C, dx, _, e0, upd_same, REn.put (RD.grow g.toExt _ _ (RD.grow g1.toExt _ _ rv)) (rn.grow g.toExt)⟩
        exact p2 _ _ _ wr.2 wr.1 (e1.grow wr.2.toExt)
      · exact (show False from p1).elim
  refine wpAny_bind (wpAny_holding (thn (ho.run pins s σ H _ I law) fun ov s2 ⟨x, H1, I1, rx, a, C, dx, fl, ex, ea, c1, c2, hl, q⟩ => ?_))
  subst ex
  obtain rfl : ov = Value.ref a := rx
  refine wpAny_bind (wpAny_standAt (wpAny_bind (wpAny_holding (setattr_ok I1 ea c1 c2 hl r fun s3 I3 => ?_))))
  exact wpAny_release ⟨σ, _, I3, q⟩
/-! ### x op= e, an int name -/
def dAug (g : Op2) (i : Nat) (f : Se) : Ss := fun e h => match e[i]? with
  | some (some (.int a)) => (f e h).to e fun d h1 => (match d with
    | .int b => (match g (.int a) (.int b) h1 with
      | some (.int r, _) => .nx (e.set i (some (.int r))) h1
      | _ => .bad)
    | _ => .bad)
  | _ => .bad
theorem s_augAdd {i : Nat} {x : Str} {pos' : Pos} {fe : Se} (hN : X.N.Nodup) (hi : X.N[i]? = some x) (hx : Loc X.env.scope x) (he : PE X e (tX k W fe)) (hf : X.fn x = true ∨ X.env.scope.names.lookup x = some .local) :
    PS X (.AugAssign (.Name x pos') .Add e pos) (tS k W (dAug dAdd i fe)) :=
  PS.weak (ps_aug (ti := rAdd) hN hi hx he in_add hf) fun σ H B ⟨μ, env, h, rh, re, p⟩ => by
    unfold dAug at p
    split at p
    · rename_i a ea
      obtain ⟨v, ev, rv⟩ := re.at_ i _ ea
      refine ⟨v, ev, s1 rh re p fun d h1 H1 μ1 w g1 r1 e1 rw1 p1 => ?_⟩
      cases d <;> first | exact (show False from p1).elim | skip
      rename_i b
      refine ⟨a, b, rv.int_of, rw1.int_of, ?_⟩
      exact p1 _ _ _ Grow.refl r1 (e1.set i (RD.int _))
    · exact p.elim
theorem s_augSub {i : Nat} {x : Str} {pos' : Pos} {fe : Se} (hN : X.N.Nodup) (hi : X.N[i]? = some x) (hx : Loc X.env.scope x) (he : PE X e (tX k W fe)) (hf : X.fn x = true ∨ X.env.scope.names.lookup x = some .local) :
    PS X (.AugAssign (.Name x pos') .Sub e pos) (tS k W (dAug dSub i fe)) :=
  PS.weak (ps_aug (ti := rSub) hN hi hx he in_sub hf) fun σ H B ⟨μ, env, h, rh, re, p⟩ => by
    unfold dAug at p
    split at p
    · rename_i a ea
      obtain ⟨v, ev, rv⟩ := re.at_ i _ ea
      refine ⟨v, ev, s1 rh re p fun d h1 H1 μ1 w g1 r1 e1 rw1 p1 => ?_⟩
      cases d <;> first | exact (show False from p1).elim | skip
      rename_i b
      refine ⟨a, b, rv.int_of, rw1.int_of, ?_⟩
      exact p1 _ _ _ Grow.refl r1 (e1.set i (RD.int _))
    · exact p.elim
end
end PN
namespace PN
open PySem L2 PyProof.Rows
/-! ## dicts: get, setdefault, update, dict(..) -/
section
variable {X : Cx} {k : Kx}
theorem vals_two {v w : V} {us : List Value} (r : Vals [v, w] us) : ∃ a b, us = [a, b] ∧ RelV v a ∧ RelV w b := by
  cases r with
  | cons h1 t =>
    cases t with
    | cons h2 t => cases t; exact ⟨_, _, rfl, h1, h2⟩
def mGet : OpM
  | .ref n, [y], h => (dicAt h n).bind fun kvs => if keyFits kvs y = true then some ((dlook kvs y).getD .non, h) else none
  | .ref n, [y, z], h => (dicAt h n).bind fun kvs => if keyFits kvs y = true then some ((dlook kvs y).getD z, h) else none
  | _, _, _ => none
theorem m_get (hu : X.A.units + 1 < cLine) : MtdD X k "dict.get" mGet := by
  intro pins s σ H x xs v us Q I rx rxs ⟨μ, h, d, ds, rh, rd, rds, p⟩
  unfold mGet at p
  split at p
  · rename_i n y _
    obtain ⟨kvs, ek, p⟩ := PostO.of p
    obtain ⟨fit, p⟩ := PostO.guard p
    obtain ⟨a, ea, rfl⟩ := rd.ref_of
    cases rx
    simp only [RDs] at rds
    obtain ⟨w, r, rfl, rw1, rfl⟩ := rds
    cases rxs with
    | cons ry t =>
      cases t
      obtain ⟨H1, I1, rh1, g1, c⟩ := dict_at I rh ek ea fit
      rcases dict_get (k := k) (RD.grow g1.toExt _ _ rw1) c with ⟨hl, dg⟩ | ⟨dd, ww, hl, dg, rdd⟩
      · refine d_get1 hu I1 dg ry fun w' s' J rr => ?_
        rw [hl] at p
        exact ⟨.non, H1, J, rr, p H1 μ g1 rh1 _ RD.non⟩
      · refine d_get1 hu I1 dg ry fun w' s' J rr => ?_
        rw [hl] at p
        exact ⟨ww, H1, J, rr, p H1 μ g1 rh1 _ rdd⟩
  · rename_i n y z _
    obtain ⟨kvs, ek, p⟩ := PostO.of p
    obtain ⟨fit, p⟩ := PostO.guard p
    obtain ⟨a, ea, rfl⟩ := rd.ref_of
    cases rx
    simp only [RDs] at rds
    obtain ⟨w, r, rfl, rw1, w2, r2, rfl, rw2, rfl⟩ := rds
    obtain ⟨u1, u2, rfl, ry, rz⟩ := vals_two rxs
    obtain ⟨H1, I1, rh1, g1, c⟩ := dict_at I rh ek ea fit
    rcases dict_get (k := k) (RD.grow g1.toExt _ _ rw1) c with ⟨hl, dg⟩ | ⟨dd, ww, hl, dg, rdd⟩
    · refine d_get2 hu I1 dg ry rz fun w' s' J rr => ?_
      rw [hl] at p
      exact ⟨w2, H1, J, rr, p H1 μ g1 rh1 _ (RD.grow g1.toExt _ _ rw2)⟩
    · refine d_get2 hu I1 dg ry rz fun w' s' J rr => ?_
      rw [hl] at p
      exact ⟨ww, H1, J, rr, p H1 μ g1 rh1 _ rdd⟩
  · exact p.elim
/-- d.setdefault(y, z) -/
def mSetd : OpM
  | .ref n, [y, z], h => (dicAt h n).bind fun kvs => if keyFits kvs y = true ∧ kvs.length < BIG then (match dlook kvs y with
    | some d => some (d, h)
    | none => some (z, h.set n (.dic (dput kvs y z)))) else none
  | _, _, _ => none
theorem d_setd {pins : List (Addr × Obj)} {σ : L2.St} {H : Hp} {s : Shared} {a : Addr} {y v : V} {u r : Value} {o : Option V} {Q : Value → Shared → Prop} (hu : X.A.units + 1 < cLine) (I : L2.Inv X pins σ H s) (g : DGet H a y o) (hm : (∃ kvs, H a = some (.dK kvs)) ∨ ∃ kvs, H a = some (.dT kvs)) (ry : RelV y u) (rv : RelV v r)
    (h1 : ∀ w w' s', o = some w → L2.Inv X pins σ H s' → RelV w w' → Q w' s') (h2 : ∀ H' s', o = none → DPut H a y v H' → L2.Inv X pins σ H' s' → Q r s')
    (hz : ∀ kvs, (H a = some (.dK kvs) → kvs.length < sizeLine)) (hz2 : ∀ kvs, H a = some (.dT kvs) → kvs.length < sizeLine) : wpAny (model X.prog X.w) X.A (call (.builtin "dict.setdefault") [.ref a, u, r]) Q X.xe s := by
  rcases g with ⟨kvs, q, e, ey, l⟩ | ⟨kvs, q, b, e, ey, eb, l⟩
  · subst ey
    have ea : H a = some (.dK kvs) := by
      rcases e with e | ⟨_, e⟩
      · exact e
      · rcases hm with ⟨_, z⟩ | ⟨_, z⟩ <;> rw [z] at e <;> cases e
    obtain ⟨z, hd, vs, rel, dd⟩ := dk_of I.hok ea
    have lz : vs.length ≤ sizeLine := by rw [← rel.length]; exact z
    have dd2 := dd
    obtain ⟨ob, es, ep, eo, exd, hdat, _⟩ := dd2
    refine call_meetsIn PySem.F.slot_dict_setdefault dd.typeIs PySem.F.entry_dict_setdefault (PySem.F.args_dict_setdefault_3 _ _ _) (kt_meets_setdefault (mixKind X.prog X.w) a (kV_is ry) hd r) ⟨vs, dd, lz, fun w hw => ?_, fun hn h' dd' hs => ?_⟩
    · have rr := rel.val q
      rw [hw] at rr
      cases hv : valV kvs q with
      | none => rw [hv] at rr; exact (show False from rr).elim
      | some x =>
        rw [hv] at rr
        exact h1 x w _ (by rw [l, hv]) (I.tok _) rr
    · have rr := rel.val q
      rw [hn] at rr
      cases hv : valV kvs q with
      | some x => rw [hv] at rr; exact (show False from rr).elim
      | none =>
        have lt := hz _ ea
        have hl2 : (putK kvs q v).length ≤ sizeLine := by have := length_putK kvs q v; omega
        exact h2 _ _ (by rw [l, hv]) (.inl ⟨kvs, q, ea, rfl, lt, rfl⟩) (d_write (t' := s.toks + 1) I (by rw [ea]; exact True.intro) hs (let ⟨q, _, _, hq, _⟩ := dd'; ⟨q, hq⟩) (dk_new hl2 hd (rel.put q rv) dd'))
  · subst ey
    cases (show u = Value.ref b from ry)
    have ea : H a = some (.dT kvs) := by
      rcases e with e | ⟨_, e⟩
      · exact e
      · rcases hm with ⟨_, z⟩ | ⟨_, z⟩ <;> rw [z] at e <;> cases e
    obtain ⟨z, hd, vs, rel, dd⟩ := dt_of I.hok ea
    have lz : vs.length ≤ sizeLine := by rw [← Paired.length rel]; exact z
    refine call_setdefault_heap (hsz := lz) (tupleKind_room_in1 hu) (key_of I.hok eb) hd dd (fun p hp => ?_) fun hn h' dd' hs => ?_
    · have rr := rel.val q
      rw [hp] at rr
      cases hv : valV kvs q with
      | none => rw [hv] at rr; exact (show False from rr).elim
      | some x =>
        rw [hv] at rr
        exact h1 x _ _ (by rw [l, hv]) (I.tok _) rr
    · have rr := rel.val q
      rw [hn] at rr
      cases hv : valV kvs q with
      | some x => rw [hv] at rr; exact (show False from rr).elim
      | none =>
        have lt := hz2 _ ea
        have hl : (putK kvs q v).length ≤ sizeLine := by have := length_putK kvs q v; omega
        obtain ⟨ob, es, ep, hq, e2, e3, e4, _, e5⟩ := dd'
        refine h2 _ _ (by rw [l, hv]) (.inr ⟨kvs, q, b, ea, rfl, eb, lt, rfl⟩) (d_write I (by rw [ea]; exact True.intro) hs ⟨ob, hq⟩ ⟨hl, hd, _, (rel.put q eb rv).keeps fun c ys ec => ?_, ob, es, ep, hq, e2, e3, e4, e5⟩)
        rw [upd_ne (ne_of ec ea (fun z => nomatch z))]
        exact ec
theorem m_setd (hu : X.A.units + 1 < cLine) : MtdD X k "dict.setdefault" mSetd := by
  intro pins s σ H x xs v us Q I rx rxs ⟨μ, h, d, ds, rh, rd, rds, p⟩
  unfold mSetd at p
  split at p
  · rename_i n y z _
    obtain ⟨kvs, ek, p⟩ := PostO.of p
    obtain ⟨⟨fit, hz⟩, p⟩ := PostO.guard p
    obtain ⟨a, ea, rfl⟩ := rd.ref_of
    cases rx
    simp only [RDs] at rds
    obtain ⟨w, r, rfl, rw1, w2, r2, rfl, rw2, rfl⟩ := rds
    obtain ⟨u1, u2, rfl, ry, rz⟩ := vals_two rxs
    obtain ⟨H1, I1, rh1, g1, c⟩ := dict_at I rh ek ea fit
    have rw1' := RD.grow g1.toExt _ _ rw1
    have rw2' := RD.grow g1.toExt _ _ rw2
    have hm : (∃ kvs, H1 a = some (.dK kvs)) ∨ ∃ kvs, H1 a = some (.dT kvs) := by
      rcases c with ⟨vs, q, e, _⟩ | ⟨vs, q, e, _⟩
      · exact .inl ⟨vs, e⟩
      · exact .inr ⟨vs, e⟩
    have lz : (∀ kvs', H1 a = some (.dK kvs') → kvs'.length < sizeLine) ∧ ∀ kvs', H1 a = some (.dT kvs') → kvs'.length < sizeLine := by
      rw [big_eq] at hz
      rcases c with ⟨vs, q, e, r, _⟩ | ⟨vs, q, e, r, _⟩
      · refine ⟨fun kvs' e' => ?_, fun kvs' e' => ?_⟩
        · rw [e] at e'; cases e'; rw [← r.length]; exact hz
        · rw [e] at e'; cases e'
      · refine ⟨fun kvs' e' => ?_, fun kvs' e' => ?_⟩
        · rw [e] at e'; cases e'
        · rw [e] at e'; cases e'; rw [← r.length]; exact hz
    rcases dict_get (k := k) rw1' c with ⟨hl, dg⟩ | ⟨dd, ww, hl, dg, rdd⟩
    · rw [hl] at p
      obtain ⟨H2, dp, rh2, g2⟩ := dict_put rh1 ek ea rw1' rw2' hz c
      refine d_setd hu I1 dg hm ry rz (fun w w' s' e => by cases e) (fun H' s' _ dp' J => ?_) lz.1 lz.2
      have : H' = H2 := by
        rcases c with ⟨vs, q, e, r, hq⟩ | ⟨vs, q, e, r, hq⟩
        · rcases dp with ⟨k1, q1, e1, y1, _, rfl⟩ | ⟨k1, q1, b1, e1, y1, eb1, _, rfl⟩
          · rcases dp' with ⟨k2, q2, e2, y2, _, rfl⟩ | ⟨k2, q2, b2, e2, y2, eb2, _, rfl⟩
            · rw [e1] at e2; cases e2
              have : q1 = q2 := kV_inj (y1.symm.trans y2)
              rw [this]
            · rw [e1] at e2; cases e2
          · rw [e] at e1; cases e1
        · rcases dp with ⟨k1, q1, e1, y1, _, rfl⟩ | ⟨k1, q1, b1, e1, y1, eb1, _, rfl⟩
          · rw [e] at e1; cases e1
          · rcases dp' with ⟨k2, q2, e2, y2, _, rfl⟩ | ⟨k2, q2, b2, e2, y2, eb2, _, rfl⟩
            · rw [e1] at e2; cases e2
            · rw [e1] at e2; cases e2
              have eb : b1 = b2 := by have := y1.symm.trans y2; cases this; rfl
              subst eb
              rw [eb1] at eb2
              have this : q1 = q2 := kVs_inj (HO.tup.inj (Option.some.inj eb2))
              rw [this]
      subst this
      exact ⟨w2, H', J, rz, p H' μ (g1.trans g2) rh2 _ (RD.grow g2.toExt _ _ rw2')⟩
    · rw [hl] at p
      refine d_setd hu I1 dg hm ry rz (fun w w' s' e J rr => ?_) (fun H' s' e => by cases e) lz.1 lz.2
      cases e
      exact ⟨ww, H1, J, rr, p H1 μ g1 rh1 _ rdd⟩
  · exact p.elim
end
end PN
namespace PN
open PySem L2 PyProof.Rows
/-! ## dict(pairs), d.update(e) -/
def pairsOf : List D → Option (List (D × D))
  | [] => some []
  | .tup [a, b] :: l => (pairsOf l).map ((a, b) :: ·)
  | _ => none
def dmerge (acc ps : List (D × D)) : List (D × D) := ps.foldl (fun acc p => dput acc p.1 p.2) acc
def mergeG {κ : Type} [DecidableEq κ] (acc ps : List (κ × V)) : List (κ × V) := ps.foldl (fun acc p => putK acc p.1 p.2) acc
theorem mergeG_K (acc ps : List (Key × V)) : mergeK acc ps = mergeG acc ps := rfl
theorem RKv.merge {κ : Type} [DecidableEq κ] {ko : D → Option κ} {H μ} (inj : ∀ a b q, ko a = some q → ko b = some q → a = b) : ∀ {ps : List (D × D)} {vs : List (κ × V)} {acc : List (D × D)} {ws : List (κ × V)}, RKv ko H μ ps vs → RKv ko H μ acc ws → RKv ko H μ (dmerge acc ps) (mergeG ws vs)
  | [], vs, acc, ws, r, q => by
    have : vs = [] := r
    subst this
    exact q
  | (x, y) :: l, vs, acc, ws, r, q => by
    obtain ⟨k, v, r', rfl, hk, hy, hr⟩ := r
    show RKv ko H μ (dmerge (dput acc x y) l) (mergeG (putK ws k v) r')
    exact RKv.merge (ps := l) (vs := r') inj hr (q.put inj hk hy)
theorem putK_len {κ : Type} [DecidableEq κ] (acc : List (κ × V)) (k : κ) (v : V) : (putK acc k v).length ≤ acc.length + 1 := length_putK acc k v
theorem mergeG_len {κ : Type} [DecidableEq κ] : ∀ (ps acc : List (κ × V)), (mergeG acc ps).length ≤ acc.length + ps.length
  | [], acc => Nat.le_refl _
  | p :: ps, acc => by
    have := mergeG_len ps (putK acc p.1 p.2)
    have h2 := putK_len acc p.1 p.2
    simp only [List.length_cons]
    show (mergeG (putK acc p.1 p.2) ps).length ≤ _
    omega
/-- the pairs' places -/
theorem pairs_K {H : Hp} {μ : List Addr} {K : PySem.W.Frag} : ∀ {l : List D} {vs : List V} {ps : List (D × D)}, RDs H μ l vs → pairsOf l = some ps → keysK ps = true → ∃ (as : List Addr) (kvs : List (Key × V)), vs = as.map V.ref ∧ Paired (fun p (kv : Key × V) => SqT K H p [kV kv.1, kv.2]) as kvs ∧ RKv keyOf H μ ps kvs
  | [], vs, ps, r, e, _ => by
    simp only [RDs] at r
    simp only [pairsOf, Option.some.injEq] at e
    subst r e
    exact ⟨[], [], rfl, .nil, rfl⟩
  | d :: l, vs, ps, r, e, f => by
    unfold pairsOf at e
    split at e
    · rename_i h; cases h
    · rename_i a b l' h
      injection h with h1 h2
      subst h1 h2
      obtain ⟨ps', e', rfl⟩ := Option.map_eq_some_iff.mp e
      simp only [keysK, List.all_cons, Bool.and_eq_true] at f
      simp only [RDs] at r
      obtain ⟨v, r', rfl, h1, h2⟩ := r
      obtain ⟨p, ws, rfl, ep, rw'⟩ := h1.tup_of
      simp only [RDs] at rw'
      obtain ⟨v1, _, rfl, q1, v2, _, rfl, q2, rfl⟩ := rw'
      obtain ⟨k, hk⟩ := Option.isSome_iff_exists.mp f.1
      obtain ⟨as, kvs, rfl, hp, hr⟩ := pairs_K h2 e' f.2
      have := keyOf_v hk q1
      subst this
      exact ⟨p :: as, (k, v2) :: kvs, rfl, .cons (SqT.of ep) hp, k, v2, kvs, rfl, hk, q2, hr⟩
    · cases e
theorem pairs_T {H : Hp} {μ : List Addr} : ∀ {l : List D} {vs : List V} {ps : List (D × D)}, RDs H μ l vs → pairsOf l = some ps → keysT ps = true → ∃ (as : List Addr) (bs : List Addr) (kvs : List (List Key × V)), vs = as.map V.ref ∧ as.length = kvs.length ∧ bs.length = kvs.length ∧
      (∀ (i : Nat) p b kv, as[i]? = some p → bs[i]? = some b → kvs[i]? = some kv → H p = some (.tup [.ref b, kv.2]) ∧ H b = some (.tup (kv.1.map kV))) ∧ RKv tkeyOf H μ ps kvs
  | [], vs, ps, r, e, _ => by
    simp only [RDs] at r
    simp only [pairsOf, Option.some.injEq] at e
    subst r e
    exact ⟨[], [], [], rfl, rfl, rfl, fun i p b kv e => by simp at e, rfl⟩
  | d :: l, vs, ps, r, e, f => by
    unfold pairsOf at e
    split at e
    · rename_i h; cases h
    · rename_i a b l' h
      injection h with h1 h2
      subst h1 h2
      obtain ⟨ps', e', rfl⟩ := Option.map_eq_some_iff.mp e
      simp only [keysT, List.all_cons, Bool.and_eq_true] at f
      simp only [RDs] at r
      obtain ⟨v, r', rfl, h1, h2⟩ := r
      obtain ⟨p, ws, rfl, ep, rw'⟩ := h1.tup_of
      simp only [RDs] at rw'
      obtain ⟨v1, _, rfl, q1, v2, _, rfl, q2, rfl⟩ := rw'
      obtain ⟨k, hk⟩ := Option.isSome_iff_exists.mp f.1
      obtain ⟨as, bs, kvs, rfl, l1, l2, hp, hr⟩ := pairs_T h2 e' f.2
      obtain ⟨b', rfl, eb⟩ := tkeyOf_v hk q1
      refine ⟨p :: as, b' :: bs, (k, v2) :: kvs, rfl, by simp [l1], by simp [l2], fun i p' b'' kv h1 h2 h3 => ?_, k, v2, kvs, rfl, hk, q2, hr⟩
      cases i with
      | zero => simp at h1 h2 h3; subst h1 h2 h3; exact ⟨ep, eb⟩
      | succ i => exact hp i p' b'' kv (by simpa using h1) (by simpa using h2) (by simpa using h3)
    · cases e
def cDict : OpN := one fun d h => match d with
  | .ref n => (seqAt h n).bind fun l => (pairsOf l).bind fun ps => if (keysK ps = true ∨ keysT ps = true) ∧ l.length ≤ BIG then some (.ref h.length, h ++ [.dic (dmerge [] ps)]) else none
  | _ => none
section
variable {X : Cx} {k : Kx}
theorem KT.mergeAll {H : Hp} : ∀ {kvs : List (List Key × V)} {ps : List (List Key × Addr × Value)} {acc : List (List Key × V)} {xs : List (List Key × Addr × Value)}, KT H kvs ps → KT H acc xs → KT H (mergeG acc kvs) (storedAllH xs ps)
  | _, _, acc, xs, .nil, q => q
  | _, _, acc, xs, .cons (a := p) (b := y) h t, q => by
    obtain ⟨e1, e2, e3⟩ := h
    have := q.put p.1 (b := y.2.1) e2 e3
    rw [e1] at this
    have r := KT.mergeAll t this
    unfold mergeG storedAllH at r ⊢
    rw [List.foldl_cons, List.foldl_cons, e1]
    exact r
theorem alloc_K {μ : List Addr} {h : Hd} {H : Hp} {Q : VK} {kvs : List (D × D)} {vs : List (Key × V)} (rh : RH k μ h H) (r : RKv keyOf H μ kvs vs) (p : PostO k μ H Q (some (.ref h.length, h ++ [.dic kvs]))) {a : Addr} (ha : H a = none) : Q (.ref a) (upd H a (.dK vs)) := by
  have g := (Grow.fresh (o := .dK vs) (μ := μ) ha).more ha
  obtain ⟨r1, g1⟩ := rh.alloc (o := .dic kvs) (ho := .dK vs) ha rfl (.inl ⟨vs, upd_same, RKv.grow g.toExt _ _ r⟩)
  exact p _ _ g1 r1 _ (RD.ref (by rw [← rh.len, List.getElem?_append_right (Nat.le_refl _)]; simp))
theorem alloc_T {μ : List Addr} {h : Hd} {H : Hp} {Q : VK} {kvs : List (D × D)} {vs : List (List Key × V)} (rh : RH k μ h H) (r : RKv tkeyOf H μ kvs vs) (p : PostO k μ H Q (some (.ref h.length, h ++ [.dic kvs]))) {a : Addr} (ha : H a = none) : Q (.ref a) (upd H a (.dT vs)) := by
  have g := (Grow.fresh (o := .dT vs) (μ := μ) ha).more ha
  obtain ⟨r1, g1⟩ := rh.alloc (o := .dic kvs) (ho := .dT vs) ha rfl (.inr ⟨vs, upd_same, RKv.grow g.toExt _ _ r⟩)
  exact p _ _ g1 r1 _ (RD.ref (by rw [← rh.len, List.getElem?_append_right (Nat.le_refl _)]; simp))
theorem told_T {pins : List (Addr × Obj)} {σ : L2.St} {H : Hp} {s : Shared} (I : L2.Inv X pins σ H s) : ∀ {as bs : List Addr} {kvs : List (List Key × V)}, as.length = kvs.length → bs.length = kvs.length →
    (∀ (i : Nat) p b kv, as[i]? = some p → bs[i]? = some b → kvs[i]? = some kv → H p = some (.tup [.ref b, kv.2]) ∧ H b = some (.tup (kv.1.map kV))) →
    ∃ prs : List (List Key × Addr × Value), KT H kvs prs ∧ prs.length = kvs.length ∧ (∀ q ∈ prs, (tupleKind (mixKind X.prog X.w)).is s.heap q.1 q.2.1) ∧ ∀ (i : Nat) p q, as[i]? = some p → prs[i]? = some q → s.heap.IsTuple p #[.ref q.2.1, q.2.2]
  | [], bs, kvs, l1, l2, h => by
    have : kvs = [] := List.length_eq_zero_iff.mp (by simpa using l1.symm)
    subst this
    exact ⟨[], .nil, rfl, fun q hq => by simp at hq, fun i p q e => by simp at e⟩
  | p :: as, [], kvs, l1, l2, h => by simp at l1 l2; omega
  | p :: as, b :: bs, [], l1, l2, h => by simp at l1
  | p :: as, b :: bs, kv :: kvs, l1, l2, h => by
    obtain ⟨prs, t1, t2, t3, t4⟩ := told_T I (as := as) (bs := bs) (kvs := kvs) (by simpa using l1) (by simpa using l2) fun i p' b' kv' e1 e2 e3 => h (i + 1) p' b' kv' (by simpa using e1) (by simpa using e2) (by simpa using e3)
    obtain ⟨ep, eb⟩ := h 0 p b kv rfl rfl rfl
    obtain ⟨its, rv, pl, _⟩ := I.tuple (SqT.of ep)
    obtain ⟨u1, u2, rfl, ru1, ru2⟩ := vals_two rv
    cases ru1
    refine ⟨(kv.1, b, u2) :: prs, .cons ⟨rfl, eb, ru2⟩ t1, by simp [t2], fun q hq => ?_, fun i p' q e1 e2 => ?_⟩
    · rcases List.mem_cons.mp hq with e | e
      · subst e; exact key_of I.hok eb
      · exact t3 q e
    · cases i with
      | zero => simp at e1 e2; subst e1 e2; exact pl
      | succ i => exact t4 i p' q (by simpa using e1) (by simpa using e2)
theorem c_dict (hu : X.A.units + 65 < cLine) (hc : X.calm = true) (hk : k.K = X.K) : CallD X k (.type "dict") cDict := CallD.one fun pins s σ H μ h d v us Q I r rh rd p => by
  cases d <;> first | exact p.elim | skip
  rename_i n
  obtain ⟨l, el, p⟩ := PostO.of p
  obtain ⟨ps, ep, p⟩ := PostO.of p
  obtain ⟨⟨kt, hz⟩, p⟩ := PostO.guard p
  obtain ⟨a, ea, rfl⟩ := rd.ref_of
  obtain ⟨vs, e1, rl⟩ := rh.seq el ea
  by_cases hK : keysK ps = true
  · obtain ⟨as, kvs, rfl, hp, hr⟩ := pairs_K (K := X.K) rl ep hK
    exact call_dictP hc pins s σ H _ us Q I r ⟨a, as, kvs, rfl, hk ▸ e1, hp, fun p' hn => alloc_K rh (RKv.merge (fun _ _ _ => keyOf_inj) hr (acc := []) (ws := []) rfl) p hn⟩
  · have hT : keysT ps = true := kt.resolve_left hK
    obtain ⟨as, bs, kvs, rfl, l1, l2, hp, hr⟩ := pairs_T rl ep hT
    obtain ⟨u, rfl, ru⟩ := vals1 r
    cases ru
    obtain ⟨its, rv, pl, hz2⟩ := I.list (hk ▸ e1)
    have ei := refs_at rv
    subst ei
    obtain ⟨o, cap, ho, hcl, hdi, hdat⟩ := pl
    obtain ⟨prs, t1, t2, t3, t4⟩ := told_T I l1 l2 hp
    have ln : as.length = prs.length := by rw [l1, t2]
    have hsz : prs.length ≤ sizeLine := by rw [← ln]; simpa using hz2
    have P := PairArg.list (prog := X.prog) (w := X.w) a (as.map Value.ref).toArray (fun j => as.getD j 0) (prs.map fun q => (Value.ref q.2.1, q.2.2))
    have st : ∀ {h' : Heap}, (∀ b o, s.heap.get? b = some o → h'.get? b = some o) → ∀ x ∈ prs, (tupleKind (mixKind X.prog X.w)).is h' x.1 x.2.1 := fun hk' x hx => tupleKind_stays.stays (fun b o _ _ e _ => hk' b o e) (t3 x hx)
    refine call_dict_pairsH (knd := tupleKind (mixKind X.prog X.w)) P (I.ok.hd hc) (tupleKind_room_in1 (A := X.A.in1) (by show X.A.units + 1 + 1 < _; omega)) ⟨⟨o, cap, ho, hcl, hdi, hdat⟩, ⟨by simp [ln], fun j kk vv e => ?_⟩⟩ (ps := prs) ⟨by simp, fun i key vv e => ?_⟩ (fun h' hk' x hx => ?_) (by simpa using hsz) fun h' tk hd' hk' => ?_
    · rw [List.getElem?_map] at e
      obtain ⟨q, eq, e2⟩ := Option.map_eq_some_iff.mp e
      cases e2
      have hj : j < as.length := by rw [ln]; exact (List.getElem?_eq_some_iff.mp eq).1
      have ej : as[j]? = some as[j] := List.getElem?_eq_getElem hj
      refine ⟨by simp [hj], .inl ?_⟩
      show s.heap.IsTuple (as.getD j 0) _
      rw [List.getD_eq_getElem?_getD, ej]
      exact t4 j _ q ej eq
    · have e' : (prs.map fun q => (Value.ref q.2.1, q.2.2))[i]? = some (key, vv) := e
      rw [List.getElem?_map] at e'
      obtain ⟨q, eq, e2⟩ := Option.map_eq_some_iff.mp e'
      cases e2
      exact ⟨q.1, q.2.1, eq, rfl⟩
    · exact tupleKind_stays.stays (fun b o _ _ e _ => hk' b o (Nat.ne_of_lt (Heap.lt_size e)) (fun z => nomatch z) e) (t3 x hx)
    · have hm : (s.heap.objs.size == sysModules) = false := beq_eq_false_iff_ne.mpr (Nat.ne_of_gt I.big)
      have hl : (mergeG [] kvs).length ≤ sizeLine := by
        have := mergeG_len kvs []
        simp only [List.length_nil] at this
        omega
      have hn := I.hok.fresh (Nat.le_refl s.heap.objs.size)
      obtain ⟨ob, es, ep', hq, x2, x3, x4, _, x5⟩ := hd'
      have J : L2.Inv X pins σ (upd H s.heap.objs.size (.dT (mergeG [] kvs))) { s with heap := h', toks := tk } := I.laid (t' := tk) (fun b o e => hk' b o (fun z => nomatch z) e) (Nat.le_refl _)
        ⟨hl, hm, _, (KT.mergeAll t1 .nil).keeps fun c ys ec => by rw [upd_ne (ne_of_none ec hn)]; exact ec, ob, es, ep', hq, x2, x3, x4, x5⟩
      exact ⟨.ref s.heap.objs.size, _, J, rfl, alloc_T rh (RKv.merge (fun _ _ _ => tkeyOf_inj) hr (acc := []) (ws := []) rfl) p hn⟩
/-! ### update -/
def hashT : D → Option Int
  | .tup l => (intsOf l).map fun is => reduceHash (Builtin.Tuple.tupleHashOf (is.map hashInt))
  | _ => none
def apartT (ps : List (D × D)) : Bool := (ps.all fun p => (hashT p.1).isSome) && decide (ps.map fun p => hashT p.1).Nodup
def mUpd : OpM
  | .ref n, [.ref m], h => (dicAt h n).bind fun a => (dicAt h m).bind fun b => match b with
    | [] => none
    | (x, _) :: _ => if n ≠ m ∧ keyFits a x = true ∧ keyFits b x = true ∧ ((keyOf x).isSome = true ∨ a ≠ [] ∨ apartT b = true) ∧ a.length + b.length ≤ BIG then some (.non, h.set n (.dic (dmerge a b))) else none
  | _, _, _ => none
theorem ints_keys {w : World} : ∀ {l : List D} {is : List Int} {q : List Key}, intsOf l = some is → keysOf l = some q → q.map (keyH w) = is.map hashInt
  | [], is, q, e1, e2 => by
    simp only [intsOf, Option.some.injEq] at e1
    simp only [keysOf, Option.some.injEq] at e2
    subst e1 e2; rfl
  | d :: l, is, q, e1, e2 => by
    cases d <;> first | (simp [intsOf] at e1; done) | skip
    rename_i i
    simp only [intsOf] at e1
    obtain ⟨is', e1', rfl⟩ := Option.map_eq_some_iff.mp e1
    unfold keysOf at e2
    split at e2
    · rename_i k r ek er
      cases e2
      have : k = .inl i := by simp only [keyOf, Option.some.injEq] at ek; exact ek.symm
      subst this
      rw [List.map_cons, List.map_cons, ints_keys e1' er]
      rfl
    · cases e2
theorem hash_of {P : Program} {w : World} {x : D} {q : List Key} {i : Int} (e1 : hashT x = some i) (e2 : tkeyOf x = some q) : (tupleKind (mixKind P w)).hash q = i := by
  cases x <;> first | (simp [hashT] at e1; done) | skip
  simp only [hashT] at e1
  obtain ⟨is, ei, rfl⟩ := Option.map_eq_some_iff.mp e1
  show reduceHash (Builtin.Tuple.tupleHashOf (q.map (keyH w))) = _
  rw [ints_keys ei e2]
theorem apart_of {P : Program} {w : World} {H : Hp} {μ : List Addr} : ∀ {ps : List (D × D)} {vs : List (List Key × V)}, RKv tkeyOf H μ ps vs → (ps.all fun p => (hashT p.1).isSome) = true → vs.map (fun p => some ((tupleKind (mixKind P w)).hash p.1)) = ps.map fun p => hashT p.1
  | [], vs, r, _ => by have : vs = [] := r; subst this; rfl
  | (x, y) :: l, vs, r, f => by
    obtain ⟨q, v, r', rfl, hk, hy, hr⟩ := r
    simp only [List.all_cons, Bool.and_eq_true] at f
    obtain ⟨i, hi⟩ := Option.isSome_iff_exists.mp f.1
    rw [List.map_cons, List.map_cons, apart_of hr f.2, hi, hash_of hi hk]
theorem KT.hashes {H : Hp} {P : Program} {w : World} {kvs : List (List Key × V)} {xs : List (List Key × Addr × Value)} (r : KT H kvs xs) : xs.map (fun x => (tupleKind (mixKind P w)).hash x.1) = kvs.map fun p => (tupleKind (mixKind P w)).hash p.1 := by
  induction r with
  | nil => rfl
  | cons h t ih => rw [List.map_cons, List.map_cons, ih, h.1]
theorem nodup_of_map {α β : Type} {f : α → β} : ∀ {l : List α}, (l.map f).Nodup → l.Nodup
  | [], _ => List.nodup_nil
  | a :: l, h => by
    rw [List.map_cons, List.nodup_cons] at h
    exact List.nodup_cons.mpr ⟨fun m => h.1 (List.mem_map_of_mem m), nodup_of_map h.2⟩
theorem m_upd (hu : X.A.units + 1 < cLine) : MtdD X k "dict.update" mUpd := by
  intro pins s σ H x xs v us Q I rx rxs ⟨μ, h, d, ds, rh, rd, rds, p⟩
  unfold mUpd at p
  split at p
  · rename_i n m
    obtain ⟨ka, eka, p⟩ := PostO.of p
    obtain ⟨kb, ekb, p⟩ := PostO.of p
    cases kb with
    | nil => exact p.elim
    | cons kv0 rest =>
    obtain ⟨x0, y0⟩ := kv0
    obtain ⟨⟨ne, f1, f2, hs, hz⟩, p⟩ := PostO.guard p
    obtain ⟨a, ea, rfl⟩ := rd.ref_of
    cases rx
    simp only [RDs] at rds
    obtain ⟨w, r, rfl, rw1, rfl⟩ := rds
    obtain ⟨b, eb, rfl⟩ := rw1.ref_of
    obtain ⟨u, rfl, ru⟩ := vals1 rxs
    cases ru
    have nab : a ≠ b := fun z => by
      subst z
      exact ne (rh.nd n m a _ _ ea eb (dicAt_eq eka) (dicAt_eq ekb) rfl rfl)
    obtain ⟨H1, I1, rh1, g1, c1⟩ := dict_at I rh eka ea f1
    have fin : ∀ {s' : Shared} {ho : HO}, L2.Inv X pins σ (upd H1 a ho) s' → RO k (upd H1 a ho) μ a (.dic (dmerge ka ((x0, y0) :: rest))) → EP X pins σ Q .none s' := fun {s' ho} J ro => by
      have wr := rh1.write (ho := ho) (o' := .dic (dmerge ka ((x0, y0) :: rest))) (dicAt_eq eka) ea rfl rfl fun _ => ro
      exact ⟨.non, _, J, rfl, p _ μ (g1.trans wr.2) wr.1 _ RD.non⟩
    rw [big_eq] at hz
    have rob := rh1.ob _ _ _ (dicAt_eq ekb) eb
    rcases c1 with ⟨va, qa, eva, ra, hqa⟩ | ⟨va, qa, eva, ra, hqa⟩
    · obtain ⟨vb, evb, rb⟩ : ∃ vb, H1 b = some (.dK vb) ∧ RKv keyOf H1 μ ((x0, y0) :: rest) vb := by
        rcases rob with ⟨vb, e, r⟩ | ⟨vb, e, r⟩
        · exact ⟨vb, e, r⟩
        · obtain ⟨q', _, _, _, hk, _⟩ := r
          exact (key_disj hqa hk).elim
      obtain ⟨z1, hd1, ws1, rel1, dd1⟩ := dk_of I1.hok eva
      obtain ⟨z2, hd2, ws2, rel2, dd2⟩ := dk_of I1.hok evb
      have len : ws1.length + ws2.length ≤ sizeLine := by rw [← rel1.length, ← rel2.length, ← ra.length, ← rb.length]; exact hz
      refine call_meetsIn PySem.F.slot_dict_update dd1.typeIs PySem.F.entry_dict_update (PySem.F.args_dict_update_2 _ _) (meets_dict_update (mixKind X.prog X.w) a b nab hd2) ⟨ws1, ws2, dd1, dd2, len, fun h' dd' dd2' hs' => ?_⟩
      have hl : (mergeK va vb).length ≤ sizeLine := by
        have := mergeG_len vb va
        rw [← ra.length, ← rb.length] at this
        rw [mergeG_K]; omega
      have J := d_write (t' := s.toks) I1 (by rw [eva]; exact True.intro) hs' (let ⟨q, _, _, hq, _⟩ := dd'; ⟨q, hq⟩) (dk_new hl hd1 (KV.merge rel2 rel1) dd')
      have r3 := RKv.merge (fun _ _ _ => keyOf_inj) rb ra
      have wr := rh1.write (ho := .dK (mergeK va vb)) (o' := .dic (dmerge ka ((x0, y0) :: rest))) (dicAt_eq eka) ea rfl rfl fun g => .inl ⟨_, upd_same, RKv.grow g.toExt _ _ r3⟩
      exact fin J (.inl ⟨_, upd_same, RKv.grow wr.2.toExt _ _ r3⟩)
    · obtain ⟨vb, evb, rb⟩ : ∃ vb, H1 b = some (.dT vb) ∧ RKv tkeyOf H1 μ ((x0, y0) :: rest) vb := by
        rcases rob with ⟨vb, e, r⟩ | ⟨vb, e, r⟩
        · obtain ⟨q', _, _, _, hk, _⟩ := r
          exact (key_disj hk hqa).elim
        · exact ⟨vb, e, r⟩
      obtain ⟨z1, hd1, ws1, rel1, dd1⟩ := dt_of I1.hok eva
      obtain ⟨z2, hd2, ws2, rel2, dd2⟩ := dt_of I1.hok evb
      have len : ws1.length + ws2.length ≤ sizeLine := by rw [← Paired.length rel1, ← Paired.length rel2, ← ra.length, ← rb.length]; exact hz
      have hap : ws1 ≠ [] ∨ ((∀ x ∈ ws2, s.TypeIs (.ref x.2.1) "tuple") ∧ (ws2.map fun x => (tupleKind (mixKind X.prog X.w)).hash x.1).Nodup) := by
        rcases hs with hs | hs | hs
        · obtain ⟨q', hq'⟩ := Option.isSome_iff_exists.mp hs
          exact (key_disj hq' hqa).elim
        · refine .inl fun z => hs ?_
          have e1 := Paired.length rel1
          rw [z] at e1
          have e2 := ra.length
          exact List.length_eq_zero_iff.mp (by rw [e2, e1]; rfl)
        · refine .inr ⟨?_, ?_⟩
          · obtain ⟨_, _, _, _, _, _, _, his, _⟩ := dd2
            exact fun x hx => tupleKind_stays.tuple (his x hx)
          · simp only [apartT, Bool.and_eq_true, decide_eq_true_eq] at hs
            rw [KT.hashes rel2]
            have e := apart_of (P := X.prog) (w := X.w) rb hs.1
            rw [← e] at hs
            have nd := hs.2
            rw [show (vb.map fun p => some ((tupleKind (mixKind X.prog X.w)).hash p.1)) = (vb.map fun p => (tupleKind (mixKind X.prog X.w)).hash p.1).map some by rw [List.map_map]; rfl] at nd
            exact nodup_of_map nd
      refine call_update_dictH (tupleKind_room_in1 hu) nab hd2 dd1 dd2 hap len fun h' dd' dd2' hs' => ?_
      have hl : (mergeG va vb).length ≤ sizeLine := by
        have := mergeG_len vb va
        rw [← ra.length, ← rb.length] at this
        omega
      obtain ⟨ob, es, ep', hq, x2, x3, x4, _, x5⟩ := dd'
      have J : L2.Inv X pins σ (upd H1 a (.dT (mergeG va vb))) { s with heap := h', toks := s.toks } := d_write (t' := s.toks) I1 (by rw [eva]; exact True.intro) hs' ⟨ob, hq⟩
        ⟨hl, hd1, _, (KT.mergeAll rel2 rel1).keeps fun c ys ec => by rw [upd_ne (ne_of ec eva (fun z => nomatch z))]; exact ec, ob, es, ep', hq, x2, x3, x4, x5⟩
      have r3 := RKv.merge (fun _ _ _ => tkeyOf_inj) rb ra
      have wr := rh1.write (ho := .dT (mergeG va vb)) (o' := .dic (dmerge ka ((x0, y0) :: rest))) (dicAt_eq eka) ea rfl rfl fun g => .inr ⟨_, upd_same, RKv.grow g.toExt _ _ r3⟩
      exact fin J (.inr ⟨_, upd_same, RKv.grow wr.2.toExt _ _ r3⟩)
  · exact p.elim
end
end PN
namespace PN
open PySem L2 PyProof.Rows
/-! ## {k: v, ..} -/
def dPairs : List (Se × Se) → Env → Hd → Rs (List (D × D))
  | [], _, h => .ok [] h
  | (fk, fv) :: r, env, h => (fk env h).bind fun x h1 => (fv env h1).bind fun y h2 => (dPairs r env h2).bind fun l h3 => .ok ((x, y) :: l) h3
def dDis (prs : List (Se × Se)) : Se := fun env h => (dPairs prs env h).bind fun ps h1 => if (keysK ps = true ∨ keysT ps = true) ∧ ps.length ≤ 15 then .ok (.ref h1.length) (h1 ++ [.dic (dmerge [] ps)]) else .bad
def RDp (H : Hp) (μ : List Addr) : List (D × D) → List (V × V) → Prop
  | [], l => l = []
  | (x, y) :: r, l => ∃ v w q, l = (v, w) :: q ∧ RD H μ x v ∧ RD H μ y w ∧ RDp H μ r q
section
variable {X : Cx} {k : Kx} {W : WX}
theorem RDp.length {H μ} : ∀ {ps : List (D × D)} {l : List (V × V)}, RDp H μ ps l → ps.length = l.length
  | [], l, h => by have : l = [] := h; subst this; rfl
  | (x, y) :: r, l, h => by
    obtain ⟨v, w, q, rfl, _, _, h⟩ := h
    simp [RDp.length h]
theorem PostG.bindB {α β : Type} {μ : List Addr} {H : Hp} {σ : L2.St} {r : Rs α} {g : α → Hd → Rs β} {okc : β → Hd → Hp → List Addr → Prop} (p : PostG k W μ H σ okc (r.bind g)) : PostG k W μ H σ (fun a h1 _ _ => PostG k W μ H σ okc (g a h1)) r := by
  cases r with
  | ok a h => exact fun _ _ _ _ => p
  | err x h => exact p
  | bad => exact p
theorem then1B {f : Se} {β : Type} {g : D → Hd → Rs β} {okc : β → Hd → Hp → List Addr → Prop} {σ : L2.St} {Hb H : Hp} {μb μ : List Addr} {env : Env} {h : Hd} {Q : VK} (gb : Grow Hb μb H μ) (rh : RH k μ h H) (re : RE H μ env σ) (p : PostG k W μb Hb σ okc ((f env h).bind g))
    (q : ∀ d h1 H1 μ1 v, Grow H μ H1 μ1 → RH k μ1 h1 H1 → RE H1 μ1 env σ → RD H1 μ1 d v → PostG k W μb Hb σ okc (g d h1) → Q v H1) : tX k W f σ H Q :=
  ⟨μ, env, h, rh, re, (PostG.later (PostG.bindB p) gb).mono fun d h1 H1 μ1 g1 r1 p1 v rv => q d h1 H1 μ1 v g1 r1 (re.grow g1.toExt) rv p1⟩
theorem tp_of {Hb : Hp} {μb : List Addr} : ∀ {prs : List (Se × Se)} {σ : L2.St} {H : Hp} {μ : List Addr} {env : Env} {h : Hd} {β : Type} {g : List (D × D) → Hd → Rs β} {okc : β → Hd → Hp → List Addr → Prop} {Q : List (V × V) → Hp → Prop}, Grow Hb μb H μ → RH k μ h H → RE H μ env σ → PostG k W μb Hb σ okc ((dPairs prs env h).bind g) →
    (∀ ps h1 H1 μ1 l, Grow H μ H1 μ1 → RH k μ1 h1 H1 → RDp H1 μ1 ps l → PostG k W μb Hb σ okc (g ps h1) → Q l H1) → tPairs (prs.map fun p => (tX k W p.1, tX k W p.2)) σ H Q
  | [], σ, H, μ, env, h, β, g, okc, Q, gb, rh, re, p, q => q [] h H μ [] Grow.refl rh rfl p
  | (fk, fv) :: r, σ, H, μ, env, h, β, g, okc, Q, gb, rh, re, p, q => by
    unfold dPairs at p
    rw [Rs.bind_assoc] at p
    refine then1B gb rh re p fun x h1 H1 μ1 v g1 r1 e1 rx p1 => ?_
    rw [Rs.bind_assoc] at p1
    refine then1B (gb.trans g1) r1 e1 p1 fun y h2 H2 μ2 w g2 r2 e2 ry p2 => ?_
    rw [Rs.bind_assoc] at p2
    refine tp_of (gb.trans (g1.trans g2)) r2 e2 p2 fun ps h3 H3 μ3 l g3 r3 rl p3 => ?_
    exact q ((x, y) :: ps) h3 H3 μ3 _ (g1.trans (g2.trans g3)) r3 ⟨v, w, l, rfl, RD.grow (g2.trans g3).toExt _ _ rx, RD.grow g3.toExt _ _ ry, rl⟩ p3
theorem rdp_K {H : Hp} {μ : List Addr} : ∀ {ps : List (D × D)} {l : List (V × V)}, RDp H μ ps l → keysK ps = true → ∃ kvs : List (Key × V), l = kvs.map (fun kv => (kV kv.1, kv.2)) ∧ RKv keyOf H μ ps kvs
  | [], l, h, _ => by have : l = [] := h; subst this; exact ⟨[], rfl, rfl⟩
  | (x, y) :: r, l, h, f => by
    obtain ⟨v, w, q, rfl, h1, h2, h3⟩ := h
    simp only [keysK, List.all_cons, Bool.and_eq_true] at f
    obtain ⟨kk, hk⟩ := Option.isSome_iff_exists.mp f.1
    obtain ⟨kvs, rfl, rr⟩ := rdp_K h3 f.2
    have := keyOf_v hk h1
    subst this
    exact ⟨(kk, w) :: kvs, rfl, kk, w, kvs, rfl, hk, h2, rr⟩
theorem rdp_T {H : Hp} {μ : List Addr} : ∀ {ps : List (D × D)} {l : List (V × V)}, RDp H μ ps l → keysT ps = true → ∃ kvs : List (List Key × V), RKv tkeyOf H μ ps kvs ∧ l.length = kvs.length ∧ ∀ (i : Nat) v kv, l[i]? = some v → kvs[i]? = some kv → ∃ b, v = (.ref b, kv.2) ∧ H b = some (.tup (kv.1.map kV))
  | [], l, h, _ => by have : l = [] := h; subst this; exact ⟨[], rfl, rfl, fun i v kv e => by simp at e⟩
  | (x, y) :: r, l, h, f => by
    obtain ⟨v, w, q, rfl, h1, h2, h3⟩ := h
    simp only [keysT, List.all_cons, Bool.and_eq_true] at f
    obtain ⟨kk, hk⟩ := Option.isSome_iff_exists.mp f.1
    obtain ⟨kvs, rr, ll, at_⟩ := rdp_T h3 f.2
    obtain ⟨b, rfl, eb⟩ := tkeyOf_v hk h1
    refine ⟨(kk, w) :: kvs, ⟨kk, w, kvs, rfl, hk, h2, rr⟩, by simp [ll], fun i v kv e1 e2 => ?_⟩
    cases i with
    | zero => simp at e1 e2; subst e1 e2; exact ⟨b, rfl, eb⟩
    | succ i => exact at_ i v kv (by simpa using e1) (by simpa using e2)
theorem carriesT {pins : List (Addr × Obj)} {σ : L2.St} {H : Hp} {s : Shared} (I : L2.Inv X pins σ H s) : ∀ {l : List (V × V)} {ws : List (Value × Value)} {kvs : List (List Key × V)}, VV l ws → l.length = kvs.length →
    (∀ (i : Nat) v kv, l[i]? = some v → kvs[i]? = some kv → ∃ b, v = (.ref b, kv.2) ∧ H b = some (.tup (kv.1.map kV))) → ∃ ps, CarriesH (tupleKind (mixKind X.prog X.w)) s.heap ws ps ∧ KT H kvs ps
  | [], ws, kvs, r, e, h => by
    cases r
    have : kvs = [] := List.length_eq_zero_iff.mp e.symm
    subst this
    exact ⟨[], trivial, .nil⟩
  | v :: l, ws, [], r, e, h => by simp at e
  | v :: l, ws, kv :: kvs, r, e, h => by
    cases r with
    | cons hd tl =>
      rename_i w ws
      obtain ⟨ps, c, t⟩ := carriesT I tl (kvs := kvs) (by simpa using e) fun i v' kv' e1 e2 => h (i + 1) v' kv' (by simpa using e1) (by simpa using e2)
      obtain ⟨b, rfl, eb⟩ := h 0 v kv rfl rfl
      obtain ⟨w1, w2⟩ := w
      have hw : w1 = Value.ref b := hd.1
      subst hw
      exact ⟨(kv.1, b, w2) :: ps, ⟨rfl, rfl, key_of I.hok eb, c⟩, .cons ⟨rfl, eb, hd.2⟩ t⟩
theorem ppsD {pos : Pos} : ∀ {keys : List (Option Expr)} {values : List Expr} {prs : List (Se × Se)}, keys.length = values.length → keys.length = prs.length → (∀ (i : Nat) e v p, keys[i]? = some (some e) → values[i]? = some v → prs[i]? = some p → PE X e (tX k W p.1) ∧ PE X v (tX k W p.2)) → keys.all (·.isSome) = true →
    PPs X pos keys values (prs.map fun p => (tX k W p.1, tX k W p.2))
  | [], [], [], _, _, _, _ => pps_nil
  | [], _ :: _, _, h, _, _, _ => by simp at h
  | [], [], _ :: _, _, h, _, _ => by simp at h
  | _ :: _, [], _, h, _, _, _ => by simp at h
  | _ :: _, _ :: _, [], _, h, _, _ => by simp at h
  | none :: _, _ :: _, _ :: _, _, _, _, h => by simp at h
  | some e :: ks, v :: vs, p :: ps, h1, h2, h, f => by
    have h0 := h 0 e v p rfl rfl rfl
    exact pps_cons h0.1 h0.2 (ppsD (by simpa using h1) (by simpa using h2) (fun i e' v' p' a b c => h (i + 1) e' v' p' (by simpa using a) (by simpa using b) (by simpa using c)) (by simpa using f))
theorem x_dis {pos : Pos} {keys : List (Option Expr)} {values : List Expr} {prs : List (Se × Se)} (hu : X.A.units + 65 < cLine) (hp : PPs X pos keys values (prs.map fun p => (tX k W p.1, tX k W p.2))) (hall : keys.all (·.isSome) = true) (hl : keys.length = values.length) (h0 : keys ≠ []) (h15 : keys.length ≤ 15) :
    PE X (.Dict keys values pos) (tX k W (dDis prs)) := by
  refine ⟨fun pins s σ H Q I ⟨μ, env, h, rh, re, q⟩ => ?_⟩
  have hn := I.hok.fresh (Nat.le_refl s.heap.objs.size)
  generalize ep : s.heap.objs.size = p at hn
  have I1 : L2.Inv X pins σ (upd H p (.dK [])) { s with heap := s.heap.push { cls := .type "dict", data := .dict #[] }, toks := s.toks } := by
    rw [← ep]
    exact I.laid (a := s.heap.objs.size) (o := .dK []) (t' := s.toks) (fun _ _ q => Heap.get?_push_of_some _ q) (Nat.le_refl _) (dk_empty s.heap I.big)
  have g0 : Grow H μ (upd H p (.dK [])) μ := Grow.fresh hn
  have law : tPairs (prs.map fun p => (tX k W p.1, tX k W p.2)) σ (upd H p (.dK [])) fun l H2 => ∃ ps h2 μ2, Grow (upd H p (.dK [])) μ H2 μ2 ∧ RH k μ2 h2 H2 ∧ RDp H2 μ2 ps l ∧ PostG k W μ H σ (okV Q) (if (keysK ps = true ∨ keysT ps = true) ∧ ps.length ≤ 15 then .ok (.ref h2.length) (h2 ++ [.dic (dmerge [] ps)]) else .bad) :=
    tp_of g0 (rh.fresh hn) (re.grow g0.toExt) q fun ps h2 H2 μ2 l g2 r2 rl p2 => ⟨ps, h2, μ2, g2, r2, rl, p2⟩
  have hn' := pairTrees_length keys values X.env pos hall hl
  rw [arm_eval_Dict, zip_pairTrees keys values X.env pos hall hl, dictDisplay_pairs _ (fun e => by rw [e] at hn'; exact h0 (List.length_eq_zero_iff.mp hn'.symm)) (by rw [hn']; omega)]
  refine wpAny_bind (wpAny_standAt (wpAny_bind ?_))
  unfold subDict
  refine wpAny_bind (wpAny_alloc (wpAny_bind (wpAny_holding ?_)))
  rw [if_pos (by rw [hn']; exact h15)]
  refine wpAny_bind (thn (hp.run pins _ σ _ _ I1 law) fun ws s2 ⟨l, H2, I2, rel, ps, h2, μ2, g2, r2, rl, p2⟩ => ?_)
  obtain ⟨⟨kt, hz⟩, p2⟩ := PostG.guard p2
  have pm : p ∉ μ := rh.out hn
  obtain ⟨e2, pm2⟩ := g2.oth p _ upd_same pm
  obtain ⟨z, hd, vs0, r0, dd⟩ := dk_of I2.hok e2
  cases r0
  rw [ep]
  refine wpAny_holding ?_
  have fin : ∀ {s' : Shared} {ho : HO}, L2.Inv X pins σ (upd H2 p ho) s' → (∀ {H' : Hp} {μ' : List Addr}, Ext H2 μ2 H' μ' → H' p = some ho → RO k H' μ' p (.dic (dmerge [] ps))) → EP X pins σ Q (.ref p) s' := fun {s' ho} J ro => by
    have ex : Ext H2 μ2 (upd H2 p ho) μ2 := Ext.aside e2 (fun _ z => nomatch z) (fun _ _ z => nomatch z)
    have r3 := r2.aside (ho := ho) pm2 e2 (fun _ z => nomatch z) (fun _ _ z => nomatch z)
    have g3 : Grow H μ (upd H2 p ho) μ2 := (g0.trans g2).aside hn e2 (fun _ z => nomatch z) (fun _ _ z => nomatch z)
    have r4 := r3.adopt (o := .dic (dmerge [] ps)) pm2 (ro (ex.trans Ext.app) upd_same)
    exact ⟨.ref p, _, J, rfl, p2 _ _ (g3.more hn) r4 _ (RD.ref (by rw [← r2.len, List.getElem?_append_right (Nat.le_refl _)]; simp))⟩
  by_cases hK : keysK ps = true
  · obtain ⟨kvs, rfl, rr⟩ := rdp_K rl hK
    obtain ⟨rs, c, rk⟩ := carries_of (P := X.prog) (w := X.w) rel
    have hzl : (mergeK [] kvs).length ≤ sizeLine := by
      have h1 := length_mergeK kvs []
      rw [List.length_nil, ← rr.length] at h1
      rw [sizeLine_eq]; omega
    refine wpAny_bind (wpAny_storeAll (knd := mixKind X.prog X.w) ws rs [] s2 _ c dd (by have := rk.length; rw [← rr.length] at this; rw [sizeLine_eq, List.length_nil]; omega) fun h' dd' hs => wpAny_pure (wpAny_pure (wpAny_pure ?_)))
    have J := d_write (t' := s2.toks + ws.length) I2 (by rw [e2]; exact True.intro) hs (let ⟨q, _, _, hq, _⟩ := dd'; ⟨q, hq⟩) (dk_new hzl hd (rk.merge .nil) dd')
    exact fin J fun ex e => .inl ⟨_, e, RKv.grow ex _ _ (RKv.merge (fun _ _ _ => keyOf_inj) rr (acc := []) (ws := []) rfl)⟩
  · have hT : keysT ps = true := kt.resolve_left hK
    obtain ⟨kvs, rr, ll, at_⟩ := rdp_T rl hT
    obtain ⟨rs, c, rk⟩ := carriesT I2 rel ll at_
    have IT := Inv.toT I2 e2
    obtain ⟨_, _, xs, rx, ddT⟩ := dt_of IT.hok upd_same
    cases rx
    have hzl : (mergeG [] kvs).length ≤ sizeLine := by
      have h1 := mergeG_len kvs []
      rw [List.length_nil, ← rr.length] at h1
      rw [sizeLine_eq]; omega
    have ln : rs.length ≤ 15 := by
      have := Paired.length rk
      rw [← this, ← rr.length]; exact hz
    refine wpAny_bind (wpAny_storeAllH (knd := tupleKind (mixKind X.prog X.w)) (show X.A.units < cLine by omega) ws rs [] s2 _ c ddT (by rw [sizeLine_eq, List.length_nil]; omega) fun h' tk dd' hs => wpAny_pure (wpAny_pure (wpAny_pure ?_)))
    obtain ⟨ob, es, ep', hq, x2, x3, x4, _, x5⟩ := dd'
    have J : L2.Inv X pins σ (upd H2 p (.dT (mergeG [] kvs))) { s2 with heap := h', toks := tk } := d_write (t' := tk) I2 (by rw [e2]; exact True.intro) hs ⟨ob, hq⟩
      ⟨hzl, hd, _, (KT.mergeAll rk .nil).keeps fun c ys ec => by rw [upd_ne (ne_of ec e2 (fun z => nomatch z))]; exact ec, ob, es, ep', hq, x2, x3, x4, x5⟩
    exact fin J fun ex e => .inr ⟨_, e, RKv.grow ex _ _ (RKv.merge (fun _ _ _ => tkeyOf_inj) rr (acc := []) (ws := []) rfl)⟩
end
end PN
set_option maxHeartbeats 1000000
namespace PN
open PySem L2 PyProof.Rows
/-! ## zip of a list and a tuple, in either order: b tells of each which it is -/
def Sv (b : Bool) (h : Heap) (a : Addr) (l : Array Value) : Prop := if b = true then h.IsList a l else h.IsTuple a l
theorem ItK.but {b : Bool} {h h' : Heap} {c it a : Addr} {i : Nat} (st : ItK b h it a i) (e : Heap.ExtBut c h h') (n : it ≠ c) : ItK b h' it a i := st.at fun o q => e _ o n q
theorem Sv.but {b : Bool} {h h' : Heap} {c a : Addr} {l : Array Value} (st : Sv b h a l) (e : Heap.ExtBut c h h') (n : a ≠ c) : Sv b h' a l := by
  unfold Sv at st ⊢
  cases b with
  | true => exact Heap.IsList.extBut st e n
  | false => exact Heap.IsTuple.extBut st e n
theorem ItK.ex {b : Bool} {h : Heap} {it a : Addr} {i : Nat} (st : ItK b h it a i) : ∃ o, h.get? it = some o ∧ ∃ vs, o.data = .fields vs := by
  unfold ItK at st
  cases b with
  | true => obtain ⟨o, e, _, d⟩ := st; exact ⟨o, e, _, d⟩
  | false => obtain ⟨o, e, _, d⟩ := st; exact ⟨o, e, _, d⟩
section
variable {prog : Program} {w : World} {A : Around} {E : Value → Shared → Prop} {s : Shared} {b c : Bool} {it a : Addr} {i : Nat} {l : Array Value}
theorem draw_item {x : Value} {Q : Value → Shared → Prop} (st : ItK b s.heap it a i) (sv : Sv b s.heap a l) (hx : l[i]? = some x) (q : ∀ h', ItK b h' it a (i + 1) → Heap.SameBut it s.heap h' → Q x { s with heap := h' }) :
    wpAny (model prog w) A (Builtin.SmallTypes.nextOf (.ref it)) Q E s := by
  unfold ItK at st q
  unfold Sv at sv
  cases b with
  | true => exact wpAny_nextOf_list_item st sv hx q
  | false => exact RZ.nextOf_tuple_item st sv hx q
theorem draw_end {Q : Value → Shared → Prop} (hh : A.handled = none) (st : ItK b s.heap it a i) (sv : Sv b s.heap a l) (hx : l[i]? = none)
    (q : ∀ h' e, Heap.ExtBut it s.heap h' → (∃ o, h'.get? e = some o ∧ o.cls = .type "StopIteration") → E (.ref e) { s with heap := h' }) : wpAny (model prog w) A (Builtin.SmallTypes.nextOf (.ref it)) Q E s := by
  unfold ItK at st
  unfold Sv at sv
  cases b with
  | true => exact wpAny_nextOf_list_end hh st sv hx q
  | false => exact RZ.nextOf_tuple_end hh st sv hx q
/-- what a zip's iterator is -/
structure Zs (b c : Bool) (h : Heap) (z TI TO i1 i2 p q : Addr) (m : Nat) : Prop where
  zip : IsZip h z TI TO .none
  ti : IsPair h TI (.ref i1) (.ref i2)
  to_ : ∃ u v, IsPair h TO u v
  one : ItK b h i1 p m
  two : ItK c h i2 q m
theorem zm_item {z TI TO i1 i2 p q : Addr} {m : Nat} {xs ys : Array Value} {x y : Value} {Q : Option Value → Shared → Prop} (D : ZipApart z TI TO i1 i2 p q) (st : Zs b c s.heap z TI TO i1 i2 p q m) (sx : Sv b s.heap p xs) (sy : Sv c s.heap q ys) (ex : xs[m]? = some x) (ey : ys[m]? = some y)
    (hQ : ∀ g, IsZip g z TI TO (rawInt s.heap.objs.size) → IsPair g TO x y → ItK b g i1 p (m + 1) → ItK c g i2 q (m + 1) → IsPair g s.heap.objs.size x y → g.objs.size = s.heap.objs.size + 1 →
      (∀ r o, r ≠ z → r ≠ TO → r ≠ i1 → r ≠ i2 → s.heap.get? r = some o → g.get? r = some o) → Q (some (.ref s.heap.objs.size)) { s with heap := g }) : wpAny (model prog w) A (pyNext (.ref z)) Q E s := by
  obtain ⟨kz, kI, ⟨u, v, kO⟩, k1, k2⟩ := st
  have ty : s.TypeIs (.ref z) "zip" := ⟨_, kz, rfl⟩
  unfold pyNext
  refine wpAny_bind (wpAny_attempt (wpAny_callSpecial?_slot (name := Str.ofString "__next__") ty F.slot_zip_next (wpAny_call_entry F.slot_zip_next ty F.entry_zip_next ?_ (F.args_zip_next_1 _))))
  show wpAny _ _ (field (.ref z) 2 >>= _) _ _ _
  refine wpAny_bind (wpAny_field kz rfl (x := .bool false) rfl (?_ : wpAny _ _ (field (.ref z) 3 >>= _) _ _ _))
  refine wpAny_bind (wpAny_field kz rfl (x := .ref TI) rfl (wpAny_bind (wpAny_seqItems kI rfl (?_ : wpAny _ _ (Builtin.SmallTypes.ownedTupleIsFree (.ref z) >>= _) _ _ _))))
  refine wpAny_bind ?_
  unfold Builtin.SmallTypes.ownedTupleIsFree
  refine wpAny_bind (wpAny_field kz rfl (x := .none) rfl (wpAny_pure ?_))
  simp only [if_true]
  refine wpAny_bind (wpAny_rule (wpAny_bind (wpAny_field kz rfl (x := .ref TO) rfl (wpAny_bind (wpAny_setField_rec kz (by simp) fun g1 z1 b1 => ?_)))))
  replace z1 : IsZip g1 z TI TO .ellipsis := z1
  refine wpAny_bind ?_
  simp only [List.zipIdx_nil, List.zipIdx_cons, List.forIn_nil, List.forIn_cons]
  refine wpAny_bind (wpAny_bind (wpAny_onRaise (?_ : wpAny _ _ (Builtin.SmallTypes.nextOf (.ref i1) >>= _) _ _ _)))
  refine wpAny_bind (draw_item (k1.but b1.extBut D.i1z) (sx.but b1.extBut D.l1z) ex fun g2 n1 b2 => wpAny_pure ?_)
  have o2 : IsPair g2 TO u v := b2.extBut _ _ D.TOi1 (b1.extBut _ _ D.TOz kO)
  refine wpAny_bind (wpAny_seqItems o2 rfl (wpAny_bind (wpAny_updateSeq_pair o2 fun g3 o3 b3 => wpAny_bind (wpAny_letGo (wpAny_pure ?_)))))
  replace o3 : IsPair g3 TO x v := o3
  refine wpAny_bind (wpAny_bind (wpAny_onRaise (?_ : wpAny _ _ (Builtin.SmallTypes.nextOf (.ref i2) >>= _) _ _ _)))
  refine wpAny_bind (draw_item (((k2.but b1.extBut D.i2z).but b2.extBut D.i12.symm).but b3.extBut D.TOi2.symm) (((sy.but b1.extBut D.l2z).but b2.extBut D.l2i1).but b3.extBut D.l2TO) ey fun g4 n2 b4 => wpAny_pure ?_)
  have o4 : IsPair g4 TO x v := b4.extBut _ _ D.TOi2 o3
  refine wpAny_bind (wpAny_seqItems o4 rfl (wpAny_bind (wpAny_updateSeq_pair o4 fun g5 o5 b5 => wpAny_bind (wpAny_letGo (wpAny_pure (wpAny_pure ?_))))))
  replace o5 : IsPair g5 TO x y := o5
  refine wpAny_bind (wpAny_seqItems o5 rfl (wpAny_bind (wpAny_newTuple ?_)))
  have sz : g5.objs.size = s.heap.objs.size := by rw [b5.1, b4.1, b3.1, b2.1, b1.1]
  have z5 : IsZip g5 z TI TO .ellipsis := b5.extBut _ _ D.TOz.symm (b4.extBut _ _ D.i2z.symm (b3.extBut _ _ D.TOz.symm (b2.extBut _ _ D.i1z.symm z1)))
  have kp : ∀ r o, r ≠ z → r ≠ TO → r ≠ i1 → r ≠ i2 → s.heap.get? r = some o → g5.get? r = some o := fun r o r1 r2 r3 r4 e => b5.extBut _ _ r2 (b4.extBut _ _ r4 (b3.extBut _ _ r2 (b2.extBut _ _ r3 (b1.extBut _ _ r1 e))))
  have m1 : ItK b g5 i1 p (m + 1) := ((n1.but b3.extBut D.TOi1.symm).but b4.extBut D.i12).but b5.extBut D.TOi1.symm
  have m2 : ItK c g5 i2 q (m + 1) := n2.but b5.extBut D.TOi2.symm
  have lz : z < g5.objs.size := Heap.lt_size z5
  show wpAny _ _ (Builtin.SmallTypes.ownedTupleHandOut (.ref z) (.ref g5.objs.size) >>= _) _ _ _
  refine wpAny_bind ?_
  unfold Builtin.SmallTypes.ownedTupleHandOut
  have z6 : IsZip (g5.push { cls := .type "tuple", data := .seq #[x, y] }) z TI TO .ellipsis := Heap.get?_push_of_some _ z5
  refine wpAny_bind (wpAny_setField_rec z6 (by simp) fun g7 z7 b7 => ?_)
  replace z7 : IsZip g7 z TI TO (rawInt g5.objs.size) := z7
  refine wpAny_setField_rec z7 (by simp) fun g8 z8 b8 => wpAny_pure ?_
  replace z8 : IsZip g8 z TI TO (rawInt g5.objs.size) := z8
  have up : ∀ r o, r ≠ z → g5.get? r = some o → g8.get? r = some o := fun r o r1 e => b8.extBut _ _ r1 (b7.extBut _ _ r1 (Heap.get?_push_of_some _ e))
  have t8 : IsPair g8 g5.objs.size x y := b8.extBut _ _ (Nat.ne_of_gt lz) (b7.extBut _ _ (Nat.ne_of_gt lz) (Heap.get?_push_size _ rfl))
  have s8 : g8.objs.size = g5.objs.size + 1 := by rw [b8.1, b7.1, Heap.size_push]
  rw [sz] at z8 t8 s8
  refine ⟨_, rfl, wpAny_pure ?_⟩
  rw [sz]
  exact hQ g8 z8 (up _ _ D.TOz o5) (m1.at fun o e => up _ o D.i1z e) (m2.at fun o e => up _ o D.i2z e) t8 s8 fun r o r1 r2 r3 r4 e => up r o r1 (kp r o r1 r2 r3 r4 e)
theorem zm_end {z TI TO i1 i2 p q : Addr} {m : Nat} {xs ys : Array Value} {Q : Option Value → Shared → Prop} (hh : A.handled = none) (D : ZipApart z TI TO i1 i2 p q) (st : Zs b c s.heap z TI TO i1 i2 p q m) (sx : Sv b s.heap p xs) (sy : Sv c s.heap q ys) (fin : xs[m]? = none ∨ ys[m]? = none)
    (hQ : ∀ g, (∀ r o, r ≠ z → r ≠ TO → r ≠ i1 → r ≠ i2 → s.heap.get? r = some o → g.get? r = some o) → Q none { s with heap := g }) : wpAny (model prog w) A (pyNext (.ref z)) Q E s := by
  obtain ⟨kz, kI, ⟨u, v, kO⟩, k1, k2⟩ := st
  have ty : s.TypeIs (.ref z) "zip" := ⟨_, kz, rfl⟩
  have last : ∀ {g : Heap} {e : Addr}, (∀ r o, r ≠ z → r ≠ TO → r ≠ i1 → r ≠ i2 → s.heap.get? r = some o → g.get? r = some o) → (∃ o, g.get? e = some o ∧ o.cls = .type "StopIteration") →
      wpAny (model prog w) A (isInstance (.ref e) (.type "StopIteration") >>= fun y => if y = true then pure none else throw (.ref e)) Q E { s with heap := g } := fun {g e} kp ⟨o, eo, co⟩ => wpAny_bind (wpAny_isInstance (T := "StopIteration") (b := true) ⟨o, eo, co⟩ isSubtype_stop (wpAny_pure (hQ g kp)))
  unfold pyNext
  refine wpAny_bind (wpAny_attempt (wpAny_callSpecial?_slot (name := Str.ofString "__next__") ty F.slot_zip_next (wpAny_call_entry F.slot_zip_next ty F.entry_zip_next ?_ (F.args_zip_next_1 _))))
  show wpAny _ _ (field (.ref z) 2 >>= _) _ _ _
  refine wpAny_bind (wpAny_field kz rfl (x := .bool false) rfl (?_ : wpAny _ _ (field (.ref z) 3 >>= _) _ _ _))
  refine wpAny_bind (wpAny_field kz rfl (x := .ref TI) rfl (wpAny_bind (wpAny_seqItems kI rfl (?_ : wpAny _ _ (Builtin.SmallTypes.ownedTupleIsFree (.ref z) >>= _) _ _ _))))
  refine wpAny_bind ?_
  unfold Builtin.SmallTypes.ownedTupleIsFree
  refine wpAny_bind (wpAny_field kz rfl (x := .none) rfl (wpAny_pure ?_))
  simp only [if_true]
  refine wpAny_bind (wpAny_rule (wpAny_bind (wpAny_field kz rfl (x := .ref TO) rfl (wpAny_bind (wpAny_setField_rec kz (by simp) fun g1 z1 b1 => ?_)))))
  replace z1 : IsZip g1 z TI TO .ellipsis := z1
  refine wpAny_bind ?_
  simp only [List.zipIdx_nil, List.zipIdx_cons, List.forIn_nil, List.forIn_cons]
  refine wpAny_bind (wpAny_bind (wpAny_onRaise (?_ : wpAny _ _ (Builtin.SmallTypes.nextOf (.ref i1) >>= _) _ _ _)))
  cases ex : xs[m]? with
  | none =>
    refine wpAny_bind (draw_end hh (k1.but b1.extBut D.i1z) (sx.but b1.extBut D.l1z) ex fun g2 e b2 he => ?_)
    obtain ⟨oe, eo, co⟩ := he
    have z2 : IsZip g2 z TI TO .ellipsis := b2 _ _ D.i1z.symm z1
    have ne : e ≠ z := fun x => by subst x; rw [z2] at eo; cases eo; simp at co
    refine wpAny_setField_rec z2 (by simp) fun g3 _ b3 => ?_
    exact last (fun r o r1 _ r3 _ x => b3.extBut _ _ r1 (b2 _ _ r3 (b1.extBut _ _ r1 x))) ⟨oe, b3.extBut _ _ ne eo, co⟩
  | some x =>
    have ey : ys[m]? = none := by rcases fin with h | h; rw [ex] at h; cases h; exact h
    refine wpAny_bind (draw_item (k1.but b1.extBut D.i1z) (sx.but b1.extBut D.l1z) ex fun g2 n1 b2 => wpAny_pure ?_)
    have o2 : IsPair g2 TO u v := b2.extBut _ _ D.TOi1 (b1.extBut _ _ D.TOz kO)
    refine wpAny_bind (wpAny_seqItems o2 rfl (wpAny_bind (wpAny_updateSeq_pair o2 fun g3 o3 b3 => wpAny_bind (wpAny_letGo (wpAny_pure ?_)))))
    refine wpAny_bind (wpAny_bind (wpAny_onRaise (?_ : wpAny _ _ (Builtin.SmallTypes.nextOf (.ref i2) >>= _) _ _ _)))
    refine wpAny_bind (draw_end hh (((k2.but b1.extBut D.i2z).but b2.extBut D.i12.symm).but b3.extBut D.TOi2.symm) (((sy.but b1.extBut D.l2z).but b2.extBut D.l2i1).but b3.extBut D.l2TO) ey fun g4 e b4 he => ?_)
    obtain ⟨oe, eo, co⟩ := he
    have z4 : IsZip g4 z TI TO .ellipsis := b4 _ _ D.i2z.symm (b3.extBut _ _ D.TOz.symm (b2.extBut _ _ D.i1z.symm z1))
    have ne : e ≠ z := fun x => by subst x; rw [z4] at eo; cases eo; simp at co
    refine wpAny_setField_rec z4 (by simp) fun g5 _ b5 => ?_
    exact last (fun r o r1 r2 r3 r4 x => b5.extBut _ _ r1 (b4 _ _ r4 (b3.extBut _ _ r2 (b2.extBut _ _ r3 (b1.extBut _ _ r1 x))))) ⟨oe, b5.extBut _ _ ne eo, co⟩
/-! ### made -/
abbrev itO (b : Bool) (p : Addr) : Obj := if b = true then { cls := .type "list_iterator", data := .fields #[.ref p, .int 0 0] } else { cls := .type "tuple_iterator", data := .fields #[.ref p, .int 0 0] }
theorem iter_K {p : Addr} {Q : Value → Shared → Prop} (sv : Sv b s.heap p l) (q : Q (.ref s.heap.objs.size) { s with heap := s.heap.push (itO b p) }) : wpAny (model prog w) A (pyIter (.ref p)) Q E s := by
  unfold Sv at sv
  cases b with
  | true => exact wpAny_pyIter_list sv q
  | false => exact wpAny_pyIter_tuple sv q
theorem Sv.push {h : Heap} {o : Obj} (sv : Sv b h a l) : Sv b (h.push o) a l := by
  unfold Sv at sv ⊢
  cases b with
  | true => exact Heap.IsList.push sv _
  | false => exact Heap.IsTuple.push sv _
abbrev zH2 (b c : Bool) (h : Heap) (p q : Addr) : Heap := (h.push (itO b p)).push (itO c q)
abbrev zH4 (b c : Bool) (h : Heap) (p q : Addr) : Heap := ((zH2 b c h p q).push { cls := .type "tuple", data := .seq #[.ref h.objs.size, .ref (h.push (itO b p)).objs.size] }).push { cls := .type "tuple", data := .seq #[.none, .none] }
abbrev zH5 (b c : Bool) (h : Heap) (p q : Addr) : Heap := (zH4 b c h p q).push { cls := .type "zip", data := .fields #[.none, .bool false, .bool false, .ref (zH2 b c h p q).objs.size, .ref ((zH2 b c h p q).push { cls := .type "tuple", data := .seq #[.ref h.objs.size, .ref (h.push (itO b p)).objs.size] }).objs.size] }
theorem zm_new (b c : Bool) (p q : Addr) (xs ys : Array Value) : Meets (Builtin.«zip.__new__» ⟨[.type "zip", .ref p, .ref q], []⟩) (fun _ R s => Sv b s.heap p xs ∧ Sv c s.heap q ys ∧ R (.ok (.ret (.ref (zH4 b c s.heap p q).objs.size))) { s with heap := zH5 b c s.heap p q }) :=
  .of_wp fun prog w A R s h => by
    obtain ⟨hp, g, d, tk, os⟩ := s
    obtain ⟨h1, h2, h⟩ := h
    have sz := sub_zip
    have go1 : ∀ {A' : Around} {E Q : Value → Shared → Prop}, Q (.ref hp.objs.size) ⟨hp.push (itO b p), g, d, tk, os⟩ → wpAny (model prog w) A' (pyIter (.ref p)) Q E ⟨hp, g, d, tk, os⟩ := fun q => iter_K (s := ⟨hp, g, d, tk, os⟩) h1 q
    have go2 : ∀ {A' : Around} {E Q : Value → Shared → Prop}, Q (.ref (hp.push (itO b p)).objs.size) ⟨(hp.push (itO b p)).push (itO c q), g, d, tk, os⟩ → wpAny (model prog w) A' (pyIter (.ref q)) Q E ⟨hp.push (itO b p), g, d, tk, os⟩ := fun q => iter_K (s := ⟨hp.push (itO b p), g, d, tk, os⟩) (Sv.push h2) q
    wp_walk using go1, go2
    exact ⟨_, rfl, h⟩
theorem zm_call {p q : Addr} {xs ys : Array Value} {Q : Value → Shared → Prop} (h1 : Sv b s.heap p xs) (h2 : Sv c s.heap q ys)
    (k : ∀ g, Zs b c g (s.heap.objs.size + 4) (s.heap.objs.size + 2) (s.heap.objs.size + 3) s.heap.objs.size (s.heap.objs.size + 1) p q 0 → g.objs.size = s.heap.objs.size + 5 → (∀ r o, s.heap.get? r = some o → g.get? r = some o) → Q (.ref (s.heap.objs.size + 4)) { s with heap := g }) :
    wpAny (model prog w) A (call (.type "zip") [.ref p, .ref q]) Q E s := by
  refine callType_new F.called_zip (by decide) (F.typeCall_zip_2 _ _) (F.newCall_zip_2 _ _) (fun obj => F.args_object_init_3 obj _ _) F.entry_zip_new (zm_new b c p q xs ys) ⟨h1, h2, ?_⟩
  have fr : ∀ {b : Bool} {p : Addr}, (itO b p).isFreed = false := fun {b p} => by cases b <;> rfl
  have n1 : (s.heap.push (itO b p)).objs.size = s.heap.objs.size + 1 := Heap.size_push ..
  have n2 : (zH2 b c s.heap p q).objs.size = s.heap.objs.size + 2 := by rw [Heap.size_push, n1]
  have n3 : ((zH2 b c s.heap p q).push { cls := .type "tuple", data := .seq #[.ref s.heap.objs.size, .ref (s.heap.push (itO b p)).objs.size] }).objs.size = s.heap.objs.size + 3 := by rw [Heap.size_push, n2]
  have n4 : (zH4 b c s.heap p q).objs.size = s.heap.objs.size + 4 := by rw [Heap.size_push, n3]
  have n5 : (zH5 b c s.heap p q).objs.size = s.heap.objs.size + 5 := by rw [Heap.size_push, n4]
  have e5 : (zH5 b c s.heap p q).get? (zH4 b c s.heap p q).objs.size = some _ := Heap.get?_push_size _ rfl
  have e4 : (zH5 b c s.heap p q).get? ((zH2 b c s.heap p q).push { cls := .type "tuple", data := .seq #[.ref s.heap.objs.size, .ref (s.heap.push (itO b p)).objs.size] }).objs.size = some _ := Heap.get?_push_of_some _ (Heap.get?_push_size _ rfl)
  have e3 : (zH5 b c s.heap p q).get? (zH2 b c s.heap p q).objs.size = some _ := Heap.get?_push_of_some _ (Heap.get?_push_of_some _ (Heap.get?_push_size _ rfl))
  have e2 : (zH5 b c s.heap p q).get? (s.heap.push (itO b p)).objs.size = some (itO c q) := Heap.get?_push_of_some _ (Heap.get?_push_of_some _ (Heap.get?_push_of_some _ (Heap.get?_push_size _ fr)))
  have e1 : (zH5 b c s.heap p q).get? s.heap.objs.size = some (itO b p) := Heap.get?_push_of_some _ (Heap.get?_push_of_some _ (Heap.get?_push_of_some _ (Heap.get?_push_of_some _ (Heap.get?_push_size _ fr))))
  show _ ∧ _
  rw [n2, n3, n4] at e5
  rw [n1, n2] at e3
  rw [n3] at e4
  rw [n1] at e2
  rw [n4]
  have it : ∀ {b : Bool} {g : Heap} {r p : Addr}, g.get? r = some (itO b p) → ItK b g r p 0 := fun {b g r p} e => by
    unfold ItK
    cases b with
    | true => exact ⟨_, e, rfl, rfl⟩
    | false => exact ⟨_, e, rfl, rfl⟩
  exact ⟨⟨_, e5, rfl⟩, k _ ⟨e5, e3, ⟨_, _, e4⟩, it e1, it e2⟩ n5 fun r o x => Heap.get?_push_of_some _ (Heap.get?_push_of_some _ (Heap.get?_push_of_some _ (Heap.get?_push_of_some _ (Heap.get?_push_of_some _ x))))⟩
end
def ItzM (b c : Bool) (K : PySem.W.Frag) (p q : Addr) : It :=
  ⟨fun i H => ∃ (xs ys : List V) (x y : V), SqK b K H p xs ∧ SqK c K H q ys ∧ xs[i]? = some x ∧ ys[i]? = some y,
    fun i H v H' => ∃ T x y, v = .ref T ∧ H T = none ∧ H' = upd H T (.tup [x, y]) ∧ (∀ xs, SqK b K H p xs → xs[i]? = some x) ∧ ∀ ys, SqK c K H q ys → ys[i]? = some y,
    fun i H => ∃ xs ys : List V, SqK b K H p xs ∧ SqK c K H q ys ∧ (xs.length ≤ i ∨ ys.length ≤ i)⟩
section
variable {X : Cx} {pins : List (Addr × Obj)} {σ : L2.St} {H : Hp} {s : Shared} {b c : Bool} {a : Addr} {xs ys : List V}
theorem SqK.sv (I : L2.Inv X pins σ H s) (h : SqK b X.K H a xs) : ∃ us : List Value, Vals xs us ∧ Sv b s.heap a us.toArray := by
  unfold SqK at h
  unfold Sv
  cases b with
  | true => obtain ⟨us, rv, pl, _⟩ := I.list h; exact ⟨us, rv, pl.isList⟩
  | false => obtain ⟨us, rv, pl, _⟩ := I.tuple h; exact ⟨us, rv, pl⟩
theorem SqK.inj (I : L2.Inv X pins σ H s) (h1 : SqK b X.K H a xs) (h2 : SqK b X.K H a ys) : xs = ys := by
  unfold SqK at h1 h2
  cases b with
  | true => exact I.list_inj h1 h2
  | false => exact I.tuple_inj h1 h2
end
theorem zm_turn {P : Program} {w : World} {K : PySem.W.Frag} {elts : List Expr} {kk : Nat} {tpos : Pos} {b c : Bool} {p q z TI TO i1 i2 : Addr} (D : ZipApart z TI TO i1 i2 p q) :
    Turn P w K (.Tuple elts kk tpos) (ItzM b c K p q) [z, TI, TO, i1, i2] z (fun i h => Zs b c h z TI TO i1 i2 p q i) where
  mem := by simp
  obj := fun i h st r hr => by
    obtain ⟨kz, kI, ⟨u, v, kO⟩, k1, k2⟩ := st
    obtain ⟨o1, e1, _, d1⟩ := k1.ex
    obtain ⟨o2, e2, _, d2⟩ := k2.ex
    have e' : r = z ∨ r = TI ∨ r = TO ∨ r = i1 ∨ r = i2 := by simpa using hr
    rcases e' with rfl | rfl | rfl | rfl | rfl
    · exact ⟨_, kz, fun v q => nomatch q⟩
    · exact ⟨_, kI, fun v q => nomatch q⟩
    · exact ⟨_, kO, fun v q => nomatch q⟩
    · exact ⟨o1, e1, fun v q => by rw [d1] at q; cases q⟩
    · exact ⟨o2, e2, fun v q => by rw [d2] at q; cases q⟩
  keep := fun i h h' st k => by
    obtain ⟨kz, kI, ⟨u, v, kO⟩, k1, k2⟩ := st
    exact ⟨k z (by simp) _ kz, k TI (by simp) _ kI, ⟨u, v, k TO (by simp) _ kO⟩, k1.at fun o e => k i1 (by simp) o e, k2.at fun o e => k i2 (by simp) o e⟩
  item := by
    intro X hP hw hK hc i pins s σ H E I hf st hg
    subst hP hw hK
    obtain ⟨xs, ys, x, y, hqx, hqy, hx, hy⟩ := hg
    obtain ⟨us, rv, s1⟩ := hqx.sv I
    obtain ⟨us2, rv2, s2⟩ := hqy.sv I
    obtain ⟨u, hu, ru⟩ := rv.get hx
    obtain ⟨u2, hu2, ru2⟩ := rv2.get hy
    have lz : z < s.heap.objs.size := Heap.lt_size st.zip
    refine zm_item D st s1 s2 (x := u) (y := u2) (by simpa using hu) (by simpa using hu2) fun g z' o' n1 n2 hT sz hk => ?_
    refine ⟨_, rfl, wpAny_letOwnedTupleGo_zip (s := { s with heap := g }) z' fun g2 z2 sb => ?_⟩
    have hT2 : g2.get? s.heap.objs.size = some { cls := .type "tuple", data := .seq #[u, u2] } := (sb.2 _ (Nat.ne_of_gt lz)).trans hT
    have new : ObjOk X.prog X.w (upd H s.heap.objs.size (.tup [x, y])) g2 s.heap.objs.size (.tup [x, y]) := ⟨by show 2 ≤ sizeLine; decide, [u, u2], .cons ru (.cons ru2 .nil), ⟨_, hT2, rfl, _, rfl⟩⟩
    have kp : ∀ r o, r ∉ [z, TI, TO, i1, i2] → s.heap.get? r = some o → g2.get? r = some o := fun r o hb q' => (sb.2 r (fun e => hb (by simp [e]))).trans (hk r o (fun e => hb (by simp [e])) (fun e => hb (by simp [e])) (fun e => hb (by simp [e])) (fun e => hb (by simp [e])) q')
    have J : L2.Inv X pins σ (upd H s.heap.objs.size (.tup [x, y])) { s with heap := g2 } := I.turnedNew (t' := s.toks) (ch := [z, TI, TO, i1, i2]) kp hf (Nat.le_refl _) new
    refine ⟨.ref s.heap.objs.size, _, J, rfl, ⟨_, x, y, rfl, I.hok.fresh (Nat.le_refl _), rfl, fun l hl => by rw [SqK.inj I hl hqx]; exact hx, fun l hl => by rw [SqK.inj I hl hqy]; exact hy⟩, ⟨z2, ?_, ⟨u, u2, ?_⟩, ?_, ?_⟩, fun r hr => ?_⟩
    · exact (sb.2 _ D.TIz).trans (hk _ _ D.TIz D.TITO D.TIi1 D.TIi2 st.ti)
    · exact (sb.2 _ D.TOz).trans o'
    · exact n1.at fun o e => (sb.2 _ D.i1z).trans e
    · exact n2.at fun o e => (sb.2 _ D.i2z).trans e
    · have lt : r < s.heap.objs.size := by
        obtain ⟨kz, kI, ⟨_, _, kO⟩, k1, k2⟩ := st
        obtain ⟨_, e1, _⟩ := k1.ex
        obtain ⟨_, e2, _⟩ := k2.ex
        have e' : r = z ∨ r = TI ∨ r = TO ∨ r = i1 ∨ r = i2 := by simpa using hr
        rcases e' with rfl | rfl | rfl | rfl | rfl
        · exact lz
        · exact Heap.lt_size kI
        · exact Heap.lt_size kO
        · exact Heap.lt_size e1
        · exact Heap.lt_size e2
      rw [upd_ne (Nat.ne_of_lt lt)]
      exact (hf r hr).1
  done := by
    intro X hP hw hK hc i pins s σ H E I hf st hg
    subst hP hw hK
    obtain ⟨xs, ys, hqx, hqy, hend⟩ := hg
    obtain ⟨us, rv, s1⟩ := hqx.sv I
    obtain ⟨us2, rv2, s2⟩ := hqy.sv I
    have l1 := rv.length
    have l2 := rv2.length
    have he : us.toArray[i]? = none ∨ us2.toArray[i]? = none := by
      rcases hend with q | q
      · exact .inl (by simp; omega)
      · exact .inr (by simp; omega)
    exact zm_end (I.ok.hd hc) D st s1 s2 he fun g hk => ⟨rfl, I.turnedL (t' := s.toks) (ch := [z, TI, TO, i1, i2]) (fun r o hb q' => hk r o (fun e => hb (by simp [e])) (fun e => hb (by simp [e])) (fun e => hb (by simp [e])) (fun e => hb (by simp [e])) q') hf⟩
  self := fun A i s Q E st h => wpAny_pyIter_zip st.zip h
def iZipM (K : PySem.W.Frag) (ta : TA) : TI := fun σ H R => ta σ H fun vs H1 => ∃ (b c : Bool) (p q : Addr) (xs ys : List V), vs = [.ref p, .ref q] ∧ SqK b K H1 p xs ∧ SqK c K H1 q ys ∧ R (ItzM b c K p q) H1
theorem pi_zipM {X : Cx} {e e2 : Expr} {ta : TA} {p pos tpos : Pos} {elts : List Expr} {kk : Nat} (hg : Gl X "zip") (hm : X.mg "zip" = none) (ha : PA X [e, e2] ta)
    (hs : starEach [e, e2] X.env = (false, eval e X.env) :: starEach [e2] X.env) (hpl : (backTo pos (starEach [e2] X.env)).any (·.1) = false) : PI X (.Tuple elts kk tpos) (.Call (.Name "zip" p) [e, e2] [] pos) (iZipM X.K ta) := by
  refine ⟨fun pins s σ H R I h => ?_⟩
  refine Call_ (ld_blt I hg hm PyProof.Rows.boot_zip (PyProof.Rows.callWith_type1 (thn (ha.run pos pins s σ H _ I h) fun us s1 ⟨vs, H1, I1, r1, b, c, a1, a2, xs, ys, ev, hx, hy, q⟩ => ?_) hs hpl))
  subst ev
  obtain ⟨u1, u2, rfl, w1, w2⟩ := vals_two r1
  cases w1
  cases w2
  obtain ⟨_, _, s1'⟩ := hx.sv I1
  obtain ⟨_, _, s2'⟩ := hy.sv I1
  have lt : ∀ {b : Bool} {a : Addr} {l : Array Value}, Sv b s1.heap a l → a < s1.heap.objs.size := fun {b a l} sv => by
    unfold Sv at sv
    cases b with
    | true => obtain ⟨o, e, _⟩ := sv; exact Heap.lt_size e
    | false => obtain ⟨o, e, _⟩ := sv; exact Heap.lt_size e
  have fr : ∀ r, r ∈ [s1.heap.objs.size + 4, s1.heap.objs.size + 2, s1.heap.objs.size + 3, s1.heap.objs.size, s1.heap.objs.size + 1] → FpOk X pins H1 r := fun r hr => by
    have : s1.heap.objs.size ≤ r := by simp at hr; omega
    exact I1.fpOk this (I1.hok.fresh this)
  refine zm_call s1' s2' fun g st sz hk => wpAny_pyIter_zip st.zip ?_
  exact ⟨s1.heap.objs.size + 4, _, _, _, H1, rfl, I1.kept (t' := s1.toks) hk, zm_turn (PySem.W.ktu_apart s1.heap.objs.size a1 a2 (lt s1') (lt s2')), st, fr, q⟩
def zip2N : List D → Hd → Option Nx
  | [.tup a, .tup b], _ => some (nxZip (nxOf a) (nxOf b))
  | [.ref n, .ref m], h => (seqAt h n).bind fun _ => (seqAt h m).map fun _ => nxZip (nxLst n) (nxLst m)
  | [.tup a, .ref m], h => (seqAt h m).map fun _ => nxZip (nxOf a) (nxLst m)
  | [.ref n, .tup b], h => (seqAt h n).map fun _ => nxZip (nxLst n) (nxOf b)
  | _, _ => none
section
variable {k : Kx}
/-- one of zip's two: what it is and stays -/
def JS (k : Kx) (b : Bool) (a : Addr) (nx : Nx) (H0 : Hp) (μ0 : List Addr) : Prop := ∀ i H μ h, Ext H0 μ0 H μ → RH k μ h H → ∀ o, nx i h = some o → ∃ (l : List D) (vs : List V), SqK b k.K H a vs ∧ RDs H μ l vs ∧ o = l[i]?
theorem js_tup {l : List D} {a : Addr} {vs : List V} {H0 : Hp} {μ0 : List Addr} (ea : H0 a = some (.tup vs)) (r0 : RDs H0 μ0 l vs) : JS k false a (nxOf l) H0 μ0 := fun i H μ h g rh o e => by
  simp only [nxOf, Option.some.injEq] at e
  exact ⟨l, vs, SqT.of (g.tup _ _ ea), RDs.grow g l vs r0, e.symm⟩
theorem js_lst {n : Nat} {a : Addr} {H0 : Hp} {μ0 : List Addr} (ea : μ0[n]? = some a) : JS k true a (nxLst n) H0 μ0 := fun i H μ h g rh o e => by
  unfold nxLst at e
  obtain ⟨l, el, rfl⟩ := Option.map_eq_some_iff.mp e
  obtain ⟨vs, e1, r⟩ := rh.seq el (g.pre _ _ ea)
  exact ⟨l, vs, e1, r, rfl⟩
theorem jok_zipM {b c : Bool} {p q : Addr} {na nb : Nx} {H0 : Hp} {μ0 : List Addr} (ja : JS k b p na H0 μ0) (jb : JS k c q nb H0 μ0) : JOk k (ItzM b c k.K p q) (nxZip na nb) H0 μ0 := by
  intro i H μ h g rh
  unfold nxZip
  cases ea : na i h with
  | none => exact ⟨fun z => by simp at z, fun d z => by simp at z⟩
  | some o1 =>
    obtain ⟨l1, v1, q1, r1, rfl⟩ := ja i H μ h g rh _ ea
    cases eb : nb i h with
    | none =>
      constructor
      · intro z; split at z <;> simp_all
      · intro d z; split at z <;> simp_all
    | some o2 =>
      obtain ⟨l2, v2, q2, r2, rfl⟩ := jb i H μ h g rh _ eb
      cases c1 : l1[i]? with
      | none =>
        refine ⟨fun _ => ⟨v1, v2, q1, q2, .inl (by rw [← r1.length]; exact List.getElem?_eq_none_iff.mp c1)⟩, fun d z => ?_⟩
        cases c2 : l2[i]? <;> simp [c2] at z
      | some d1 =>
        cases c2 : l2[i]? with
        | none =>
          refine ⟨fun _ => ⟨v1, v2, q1, q2, .inr (by rw [← r2.length]; exact List.getElem?_eq_none_iff.mp c2)⟩, fun d z => ?_⟩
          simp at z
        | some d2 =>
          refine ⟨fun z => by simp at z, fun d z => ?_⟩
          simp only [Option.some.injEq] at z
          subst z
          obtain ⟨w1, ew1, rw1⟩ := r1.get c1
          obtain ⟨w2, ew2, rw2⟩ := r2.get c2
          refine ⟨⟨v1, v2, w1, w2, q1, q2, ew1, ew2⟩, fun x H' ⟨T, y1, y2, ex, hT, eh, z1, z2⟩ => ⟨μ, by rw [eh]; exact Grow.fresh hT, by rw [eh]; exact rh.fresh hT, ?_⟩⟩
          have t1 := z1 v1 q1
          have t2 := z2 v2 q2
          rw [ew1] at t1; cases t1
          rw [ew2] at t2; cases t2
          rw [ex, eh]
          exact RD.tup upd_same (RDs.cons (RD.grow (Grow.fresh hT).toExt _ _ rw1) (RDs.cons (RD.grow (Grow.fresh hT).toExt _ _ rw2) RDs.nil))
variable {X : Cx} {W : WX} {e e2 : Expr} {fs : Sa} {p pos tpos : Pos} {elts : List Expr} {kk : Nat}
theorem i_zip2 (hk : k.K = X.K) (hg : Gl X "zip") (hm : X.mg "zip" = none) (ha : PA X [e, e2] (tA k W fs)) (hs : starEach [e, e2] X.env = (false, eval e X.env) :: starEach [e2] X.env) (hpl : (backTo pos (starEach [e2] X.env)).any (·.1) = false) :
    PI X (.Tuple elts kk tpos) (.Call (.Name "zip" p) [e, e2] [] pos) (tI k W (dArgI zip2N fs)) :=
  PI.weak (pi_zipM hg hm ha hs hpl) fun σ H R ⟨μ, env, h, rh, re, q⟩ => thenA rh re q fun l h1 H1 μ1 vs g1 r1 e1 rl q1 => by
    obtain ⟨nx, en, q1⟩ := PostG.ofN q1
    have q2 := now2 r1 q1
    unfold zip2N at en
    split at en
    · cases en
      simp only [RDs] at rl
      obtain ⟨v, r, rfl, rv, v2, r2, rfl, rv2, rfl⟩ := rl
      obtain ⟨a, va, rfl, ea, ra⟩ := rv.tup_of
      obtain ⟨b, vb, rfl, eb, rb⟩ := rv2.tup_of
      exact ⟨false, false, a, b, va, vb, rfl, SqT.of ea, SqT.of eb, q2 _ (hk ▸ jok_zipM (js_tup ea ra) (js_tup eb rb))⟩
    · simp only [RDs] at rl
      obtain ⟨v, r, rfl, rv, v2, r2, rfl, rv2, rfl⟩ := rl
      obtain ⟨la, ela, en⟩ := Option.bind_eq_some_iff.mp en
      obtain ⟨lb, elb, rfl⟩ := Option.map_eq_some_iff.mp en
      obtain ⟨a, ea, rfl⟩ := rv.ref_of
      obtain ⟨b, eb, rfl⟩ := rv2.ref_of
      obtain ⟨va, e1, ra⟩ := r1.seq ela ea
      obtain ⟨vb, e2, rb⟩ := r1.seq elb eb
      exact ⟨true, true, a, b, va, vb, rfl, hk ▸ e1, hk ▸ e2, q2 _ (hk ▸ jok_zipM (js_lst ea) (js_lst eb))⟩
    · simp only [RDs] at rl
      obtain ⟨v, r, rfl, rv, v2, r2, rfl, rv2, rfl⟩ := rl
      obtain ⟨lb, elb, rfl⟩ := Option.map_eq_some_iff.mp en
      obtain ⟨a, va, rfl, ea, ra⟩ := rv.tup_of
      obtain ⟨b, eb, rfl⟩ := rv2.ref_of
      obtain ⟨vb, e2, rb⟩ := r1.seq elb eb
      exact ⟨false, true, a, b, va, vb, rfl, SqT.of ea, hk ▸ e2, q2 _ (hk ▸ jok_zipM (js_tup ea ra) (js_lst eb))⟩
    · simp only [RDs] at rl
      obtain ⟨v, r, rfl, rv, v2, r2, rfl, rv2, rfl⟩ := rl
      obtain ⟨la, ela, rfl⟩ := Option.map_eq_some_iff.mp en
      obtain ⟨a, ea, rfl⟩ := rv.ref_of
      obtain ⟨b, vb, rfl, eb, rb⟩ := rv2.tup_of
      obtain ⟨va, e1, ra⟩ := r1.seq ela ea
      exact ⟨true, false, a, b, va, vb, rfl, hk ▸ e1, SqT.of eb, q2 _ (hk ▸ jok_zipM (js_lst ea) (js_tup eb rb))⟩
    · cases en
end
end PN
namespace PN
open PySem L2 PyProof.Rows
/-! # the wider reader: own classes, dicts, min, max -/
section
variable {X : Cx} {k : Kx}
def cMin2 : OpN
  | [.int i, .int j], h => some (.int (if j < i then j else i), h)
  | _, _ => none
def cMax2 : OpN
  | [.int i, .int j], h => some (.int (if j > i then j else i), h)
  | _, _ => none
theorem c_min2 (hc : X.calm = true) : CallD X k (.builtin "min") cMin2 := by
  intro pins s σ H xs us Q I r ⟨μ, h, ds, rh, rd, p⟩
  unfold cMin2 at p
  split at p
  · simp only [RDs] at rd
    obtain ⟨v, _, rfl, h1, w, _, rfl, h2, rfl⟩ := rd
    exact call_min2 hc pins s σ H _ us Q I r ⟨_, _, by rw [h1.int_of, h2.int_of], p.now rh (RD.int _)⟩
  · exact p.elim
theorem c_max2 (hc : X.calm = true) : CallD X k (.builtin "max") cMax2 := by
  intro pins s σ H xs us Q I r ⟨μ, h, ds, rh, rd, p⟩
  unfold cMax2 at p
  split at p
  · simp only [RDs] at rd
    obtain ⟨v, _, rfl, h1, w, _, rfl, h2, rfl⟩ := rd
    exact call_max2 hc pins s σ H _ us Q I r ⟨_, _, by rw [h1.int_of, h2.int_of], p.now rh (RD.int _)⟩
  · exact p.elim
end
theorem boot_min' : bootBuiltins "min" = some (.builtin "min") := by decide +kernel
theorem boot_max' : bootBuiltins "max" = some (.builtin "max") := by decide +kernel
theorem boot_dict' : bootBuiltins "dict" = some (.type "dict") := by decide +kernel
/-- more built-ins by name -/
def bltM (x : Str) : Option OpN := if x = "min" then some cMin2 else if x = "max" then some cMax2 else if x = "dict" then some cDict else none
theorem bltM_ok {c : Cfg} {x : Str} {g : OpN} (hx : bltM x = some g) (hb : bltB c x = true) {k X W} (C : Ctx k X W c) {e : Expr} {es : List Expr} {fs : Sa} {p pos : Pos} (hs : (e :: es).all notStar = true) (ha : PA X (e :: es) (tA k W fs)) :
    PE X (.Call (.Name x p) (e :: es) [] pos) (tX k W (dCall g fs)) := by
  simp only [bltB, Bool.and_eq_true] at hb
  obtain ⟨⟨h1, h2⟩, h3⟩ := hb
  simp only [List.all_cons, Bool.and_eq_true] at hs
  have G := glbB_ok C h1
  have M := C.nob x h2
  unfold bltM at hx
  split at hx
  · rename_i ex; cases hx; subst ex
    exact x_callB (c_min2 C.calm) G M boot_min' ha (okNm_n h3) (okNm_d h3) (star_cons hs.1) (star_any hs.2)
  split at hx
  · rename_i ex; cases hx; subst ex
    exact x_callB (c_max2 C.calm) G M boot_max' ha (okNm_n h3) (okNm_d h3) (star_cons hs.1) (star_any hs.2)
  split at hx
  · rename_i ex; cases hx; subst ex
    exact x_callTy (c_dict C.un C.calm C.hk) G M boot_dict' ha (okNm_n h3) (okNm_d h3) (star_cons hs.1) (star_any hs.2)
  · cases hx
/-! ## the classes that are known -/
def clsWith (C : List (Str × CI)) (f : Str) : List Str := ((C.map (·.1)).eraseDups).filter fun x => match C.lookup x with
  | some ci => ci.flds.contains f
  | none => false
theorem clsWith_ok {c : Cfg} {k X W} (C : Ctx k X W c) {f : Str} : ∀ x Ca, (clsWith c.C f).contains x = true → k.cl x = some Ca → Cls X.K Ca ∧ NoAttr X.K Ca f := fun x Ca hx hC => by
  have hx' : x ∈ clsWith c.C f := by simpa using hx
  unfold clsWith at hx'
  have h2 := (List.mem_filter.mp hx').2
  cases e : c.C.lookup x with
  | none => rw [e] at h2; cases h2
  | some ci =>
    rw [e] at h2
    obtain ⟨kk, _, _, tab⟩ := C.rm
    obtain ⟨Cb, e1, _, cl, na, _⟩ := (tab x ci e).ex
    rw [hC] at e1; cases e1
    exact ⟨cl, na f (by simpa using h2)⟩
def ownOf' (C : List (Str × CI)) (nm : Str) : List Str → Option (Str × FT)
  | [] => none
  | x :: r => match C.lookup x with
    | some ci => match ci.ms.lookup nm with
      | some ft => some (x, ft)
      | none => ownOf' C nm r
    | none => ownOf' C nm r
theorem ownOf_ok {C : List (Str × CI)} {nm : Str} : ∀ {l : List Str} {p : Str × FT}, ownOf' C nm l = some p → ∃ ci, C.lookup p.1 = some ci ∧ ci.ms.lookup nm = some p.2
  | [], p, h => by cases h
  | x :: r, p, h => by
    unfold ownOf' at h
    split at h
    · rename_i ci e
      split at h
      · rename_i ft e2
        cases h; exact ⟨ci, e, e2⟩
      · exact ownOf_ok h
    · exact ownOf_ok h
def mtx1 (nm : Str) : Option (MT × OpM) := if nm = "get" then some (.dict, mGet) else if nm = "update" then some (.dict, mUpd) else none
def mtx2 (nm : Str) : Option (MT × OpM) := if nm = "get" then some (.dict, mGet) else if nm = "setdefault" then some (.dict, mSetd) else none
def disD (d : Dn) (c : Cfg) : List (Option Expr) → List Expr → Option (List (Se × Se))
  | [], [] => some []
  | some e :: ks, v :: vs => (d.x c e).bind fun f => (d.x c v).bind fun g => (disD d c ks vs).map ((f, g) :: ·)
  | _, _ => none
def extraX (d : Dn) (c : Cfg) : Expr → Option Se
  | .Attribute a f _ => if noSuper a = true ∧ (clsWith c.C f).isEmpty = false then (d.x c a).map (dFldL (clsWith c.C f) f) else none
  | .Call (.Name x _) args [] _ => match c.C.lookup x with
    | some ci => (match ci.init with
      | some ft => if glbB c x = true ∧ okNm x = true then (match args with
        | [] => some (dMk x ft.np ft.m dNil)
        | e :: es => (dnA d c (e :: es)).map (dMk x ft.np ft.m)) else none
      | none => none)
    | none => (match args with
      | e :: es => if bltB c x = true then (bltM x).bind fun g => (dnA d c (e :: es)).map (dCall g) else none
      | [] => none)
  | .Call (.Attribute o nm ap) args [] cp => if noSuper o = true ∧ (ap.endLine == cp.line) = true then (match ownOf' c.C nm ((c.C.map (·.1)).eraseDups) with
    | some p => (d.x c o).bind fun fo => (match args with
      | [] => some (dOwn p.1 p.2.np p.2.m nm fo dNil)
      | e :: es => if es.length < 20 then (dnA d c (e :: es)).map (dOwn p.1 p.2.np p.2.m nm fo) else none)
    | none => (match args with
      | [e] => (mtx1 nm).bind fun q => (d.x c o).bind fun fo => (dnA d c [e]).map (dMeth q.1 q.2 fo)
      | [e, e2] => (mtx2 nm).bind fun q => (d.x c o).bind fun fo => (dnA d c [e, e2]).map (dMeth q.1 q.2 fo)
      | _ => none)) else none
  | .Dict (k :: ks) (v :: vs) _ => if (k :: ks).all (·.isSome) = true ∧ (k :: ks).length = (v :: vs).length ∧ (k :: ks).length ≤ 15 then (disD d c (k :: ks) (v :: vs)).map dDis else none
  | _ => none
section
variable {d : Dn} (ok : DnOk d) {c : Cfg} {k : Kx} {X : Cx} {W : WX} (C : Ctx k X W c)
include ok C in
theorem disD_ok : ∀ {ks : List (Option Expr)} {vs : List Expr} {prs : List (Se × Se)} {pos : Pos}, disD d c ks vs = some prs → PPs X pos ks vs (prs.map fun p => (tX k W p.1, tX k W p.2))
  | [], [], prs, pos, h => by cases h; exact pps_nil
  | some e :: ks, v :: vs, prs, pos, h => by
    unfold disD at h
    obtain ⟨f, ef, h⟩ := Option.bind_eq_some_iff.mp h
    obtain ⟨g, eg, h⟩ := Option.bind_eq_some_iff.mp h
    obtain ⟨r, er, rfl⟩ := Option.map_eq_some_iff.mp h
    exact pps_cons (ok.x ef C) (ok.x eg C) (disD_ok er)
  | [], _ :: _, prs, pos, h => by cases h
  | none :: _, _, prs, pos, h => by cases h
  | some _ :: _, [], prs, pos, h => by cases h
theorem few2 {env : PySem.Env} {cpos : Pos} {es : List Expr} (h : es.all notStar = true) (hl : es.length < 29) : methodCallForm (es.length + ([] : List Keyword).length) (backTo cpos (starEach es env)) (backToKw cpos (keywordEach [] env)) = true := few_ok h hl
include ok C in
theorem extraX_ok {e : Expr} {f : Se} (h : extraX d c e = some f) : PE X e (tX k W f) := by
  unfold extraX at h
  split at h
  · rename_i a fl p
    split at h
    · rename_i hc
      obtain ⟨g, eg, rfl⟩ := Option.map_eq_some_iff.mp h
      exact x_fldL (ok.x eg C) (clsWith_ok C) (base_no hc.1)
    · cases h
  · rename_i x p args pos
    split at h
    · rename_i ci eci
      split at h
      · rename_i ft eft
        split at h
        · rename_i hc
          obtain ⟨kk, rm, _, tab⟩ := C.rm
          obtain ⟨Ca, e1, hm, cl, na, hmk, _⟩ := (tab x ci eci).ex
          obtain ⟨f', fd, ps, M, bd, hl, F⟩ := hmk ft eft
          rw [← hl] at h
          split at h
          · cases h
            exact x_mk0 e1 M F rm C.gd C.tk (glbB_ok C hc.1) hm bd (okNm_d hc.2)
          · obtain ⟨fs, ef, rfl⟩ := Option.map_eq_some_iff.mp h
            have st := dnA_star ef
            simp only [List.all_cons, Bool.and_eq_true] at st
            exact x_mk e1 M F rm C.gd C.tk (glbB_ok C hc.1) hm bd (dnA_ok ok ef C) (okNm_d hc.2) (star_cons st.1) (star_any st.2)
        · cases h
      · cases h
    · split at h
      · split at h
        · rename_i hb
          obtain ⟨g, eg, h⟩ := Option.bind_eq_some_iff.mp h
          obtain ⟨fs, ef, rfl⟩ := Option.map_eq_some_iff.mp h
          exact bltM_ok eg hb C (dnA_star ef) (dnA_ok ok ef C)
        · cases h
      · cases h
  · rename_i o nm ap args cp
    split at h
    · rename_i hc
      split at h
      · rename_i p ep
        obtain ⟨fo, eo, h⟩ := Option.bind_eq_some_iff.mp h
        obtain ⟨ci, eci, eft⟩ := ownOf_ok ep
        obtain ⟨kk, rm, _, tab⟩ := C.rm
        obtain ⟨Ca, e1, hm, cl, na, _, hms⟩ := (tab p.1 ci eci).ex
        obtain ⟨f', fd, ps, M, bd, hl, F⟩ := hms nm p.2 eft
        rw [← hl] at h
        have rm' := rm.mono (Nat.le_succ kk)
        split at h
        · cases h
          exact x_own0 (ok.x eo C) e1 cl M F rm' C.gd C.tk bd (base_no hc.1) hc.2
        · rename_i e es
          split at h
          · rename_i hes
            obtain ⟨fs, ef, rfl⟩ := Option.map_eq_some_iff.mp h
            exact x_own (ok.x eo C) e1 cl M F rm' C.gd C.tk bd (dnA_ok ok ef C) (base_no hc.1) (dnA_star ef) (few2 (dnA_star ef) (by simp; omega)) hc.2
          · cases h
      · split at h
        · rename_i e
          obtain ⟨q, eq, h⟩ := Option.bind_eq_some_iff.mp h
          obtain ⟨fo, eo, h⟩ := Option.bind_eq_some_iff.mp h
          obtain ⟨fs, ef, rfl⟩ := Option.map_eq_some_iff.mp h
          have st' := dnA_star ef
          have st := st'
          simp only [List.all_cons, Bool.and_eq_true] at st
          unfold mtx1 at eq
          split at eq
          · rename_i en; cases eq; subst en
            exact x_meth C.hk PySem.F.plainAttrs_dict PySem.F.slot_dict_get PySem.F.type_dict_get (m_get C.un1) (ok.x eo C) (dnA_ok ok ef C) (base_no hc.1) (few_ok st' (by simp)) hc.2 (star_cons st.1) (star_any st.2)
          split at eq
          · rename_i en; cases eq; subst en
            exact x_meth C.hk PySem.F.plainAttrs_dict PySem.F.slot_dict_update PySem.F.type_dict_update (m_upd C.un1) (ok.x eo C) (dnA_ok ok ef C) (base_no hc.1) (few_ok st' (by simp)) hc.2 (star_cons st.1) (star_any st.2)
          · cases eq
        · rename_i e e2
          obtain ⟨q, eq, h⟩ := Option.bind_eq_some_iff.mp h
          obtain ⟨fo, eo, h⟩ := Option.bind_eq_some_iff.mp h
          obtain ⟨fs, ef, rfl⟩ := Option.map_eq_some_iff.mp h
          have st' := dnA_star ef
          have st := st'
          simp only [List.all_cons, Bool.and_eq_true] at st
          unfold mtx2 at eq
          split at eq
          · rename_i en; cases eq; subst en
            exact x_meth C.hk PySem.F.plainAttrs_dict PySem.F.slot_dict_get PySem.F.type_dict_get (m_get C.un1) (ok.x eo C) (dnA_ok ok ef C) (base_no hc.1) (few_ok st' (by simp)) hc.2 (star_cons st.1) (star_any (by simp [st.2]))
          split at eq
          · rename_i en; cases eq; subst en
            exact x_meth C.hk PySem.F.plainAttrs_dict PySem.F.slot_dict_setdefault PySem.F.type_dict_setdefault (m_setd C.un1) (ok.x eo C) (dnA_ok ok ef C) (base_no hc.1) (few_ok st' (by simp)) hc.2 (star_cons st.1) (star_any (by simp [st.2]))
          · cases eq
        · cases h
    · cases h
  · rename_i kk ks v vs pos
    split at h
    · rename_i hc
      obtain ⟨prs, ep, rfl⟩ := Option.map_eq_some_iff.mp h
      exact x_dis C.un (disD_ok ok C ep) hc.1 hc.2.1 (by simp) hc.2.2
    · cases h
  · cases h
end
/-! ## the step -/
def stepX2 (d : Dn) (c : Cfg) (e : Expr) : Option Se := (extraX d c e).orElse fun _ => stepX d c e
def stepI2 (d : Dn) (c : Cfg) (tg : Expr) : Expr → Option Si
  | .Call (.Name x p) args [] pos => if x = "zip" ∧ bltB c x = true then (match args with
      | [a, b] => if isTup tg = true then (dnA d c [a, b]).map (dArgI zip2N) else none
      | _ => none) else stepI d c tg (.Call (.Name x p) args [] pos)
  | e => stepI d c tg e
def stepD2 (d : Dn) : Dn := ⟨stepX2 d, stepT d, stepW d, stepI2 d⟩
section
variable {d : Dn} (ok : DnOk d) {c : Cfg} {k : Kx} {X : Cx} {W : WX} (C : Ctx k X W c)
include ok C in
theorem stepX2_ok {e : Expr} {f : Se} (h : stepX2 d c e = some f) : PE X e (tX k W f) := by
  unfold stepX2 at h
  cases ex : extraX d c e with
  | some g =>
    rw [ex] at h
    cases h
    exact extraX_ok ok C ex
  | none =>
    rw [ex] at h
    exact stepX_ok ok C h
include ok C in
theorem stepI2_ok {tg e : Expr} {f : Si} (h : stepI2 d c tg e = some f) : PI X tg e (tI k W f) := by
  unfold stepI2 at h
  split at h
  · split at h
    · rename_i hx
      obtain ⟨rfl, hb⟩ := hx
      obtain ⟨G, M, hn⟩ := blt_facts C hb
      split at h
      · split at h
        · rename_i ht
          obtain ⟨fs, ef, rfl⟩ := Option.map_eq_some_iff.mp h
          have st := dnA_star ef
          simp only [List.all_cons, Bool.and_eq_true] at st
          cases tg <;> first | (simp [isTup] at ht; done) | skip
          exact i_zip2 C.hk G M (dnA_ok ok ef C) (star_cons st.1) (star_any (by simp [st.2.1]))
        · cases h
      · cases h
    · exact stepI_ok ok C h
  · exact stepI_ok ok C h
end
theorem stepD2_ok {d : Dn} (ok : DnOk d) : DnOk (stepD2 d) := ⟨fun h _ _ _ C => stepX2_ok ok C h, fun h _ _ _ C => stepT_ok ok C h, fun h _ _ _ C => stepW_ok ok C h, fun h _ _ _ C => stepI2_ok ok C h⟩
def dn2 : Nat → Dn
  | 0 => Dn.none
  | n + 1 => stepD2 (dn2 n)
theorem dn2_ok : ∀ n, DnOk (dn2 n)
  | 0 => Dn.none_ok
  | n + 1 => stepD2_ok (dn2_ok n)
end PN
namespace PN
open PySem L2 PyProof.Rows
/-! ## statements, read -/
def isStar : Expr → Bool
  | .Starred _ _ => true
  | _ => false
def namesOn (sc : Scope) (line : Nat) (ts : List Expr) : List Str := ts.filterMap fun t => match t with
  | .Name id pos => if sc.names.lookup id == some .local && pos.line == line then some id else none
  | _ => none
def lineOf (ts : List Expr) : Nat := (ts.head?.map (·.pos.line)).getD 0
/-- how a tuple's parts go into a tuple of targets: none: not told -/
def swS (sc : Scope) (ts vs : List Expr) : Option (Option (List Str)) :=
  if (!(ts.length == 2 || ts.length == 3) || vs.length != ts.length || ScopeKind.function != ScopeKind.function) = true then some none
  else if vs.any isStar = true then some none
  else if ((namesOn sc (lineOf ts) ts).length != ts.length || (namesOn sc (lineOf ts) ts).eraseDups.length != (namesOn sc (lineOf ts) ts).length) = true then some none
  else if vs.all (foldedForSure 8) = true then some none
  else if vs.all (constantsAlone 8) = true then none
  else some (some (namesOn sc (lineOf ts) ts))
theorem swS_ok {env : PySem.Env} {ts vs : List Expr} {k k2 : Nat} {p p2 : Pos} {r : Option (List Str)} (hk : env.scope.kind = .function) (h : swS env.scope ts vs = some r) : swappedStores [.Tuple ts k p] (.Tuple vs k2 p2) env = pure r := by
  have hb : env.blockKind = .function := by unfold PySem.Env.blockKind; rw [hk]; rfl
  have e1 : (vs.any fun x => match x with | .Starred _ _ => true | _ => false) = vs.any isStar := by
    congr 1
  have e2 : (ts.filterMap fun x => match x with | .Name id pos => if (env.kindOf id == some .local && pos.line == (Option.map (fun x => x.pos.line) ts.head?).getD 0) = true then some id else none | _ => none) = namesOn env.scope (lineOf ts) ts := rfl
  unfold swS at h
  unfold swappedStores
  simp only [hb]
  split at h
  · rename_i c1
    cases h
    exact if_pos c1
  rename_i c1
  refine (if_neg c1).trans ?_
  split at h
  · rename_i c2
    cases h
    exact if_pos (e1.trans c2)
  rename_i c2
  refine (if_neg (fun z => c2 (e1.symm.trans z))).trans ?_
  split at h
  · rename_i c3
    cases h
    exact if_pos c3
  rename_i c3
  refine (if_neg c3).trans ?_
  split at h
  · rename_i c4
    cases h
    exact if_pos c4
  rename_i c4
  refine (if_neg c4).trans ?_
  split at h
  · cases h
  rename_i c5
  cases h
  exact if_neg c5
theorem sw_plain {ts : List Expr} {k : Nat} {p : Pos} {e : Expr} {env : PySem.Env} (h : isTup e = false) : swappedStores [.Tuple ts k p] e env = pure none := by
  cases e <;> first | (simp [isTup] at h; done) | rfl
theorem sw_nontup {t e : Expr} {env : PySem.Env} (h : (match t with | .Tuple _ _ _ => false | .List _ _ => false | _ => true) = true) : swappedStores [t] e env = pure none := by
  cases t <;> first | (simp at h; done) | (cases e <;> rfl)
/-! ### targets of a def's body -/
def tgS (d : Dn) (c : Cfg) : Nat → Expr → Option Sg
  | 0, _ => none
  | n + 1, e => match e with
    | .Name x _ => (tgName (locB c.sc) c.N x).map dGn
    | .Tuple es _ _ => (tgL (tgS d c n) es).map (dGtup es.length)
    | .Subscript a b _ => if noSlice b = true then (d.x c a).bind fun f => (d.x c b).map fun g => dGsub f g else none
    | .Attribute a f _ => if (clsWith c.C f).isEmpty = false then (d.x c a).map (dGfld (clsWith c.C f) f) else none
    | _ => none
section
variable {d : Dn} (ok : DnOk d) {c : Cfg}
include ok in
theorem tgL_ok {n : Nat} (ih : ∀ {e g}, tgS d c n e = some g → ∀ {k X W}, CtxS k X W c → PG X e (tG k W g)) : ∀ {es : List Expr} {g : Sgs}, tgL (tgS d c n) es = some g → ∀ {k X W}, CtxS k X W c → PGs X es (tGs k W g)
  | [], g, h, k, X, W, C => by simp only [tgL, Option.some.injEq] at h; subst h; exact gs_nil
  | e :: es, g, h, k, X, W, C => by
    unfold tgL at h
    split at h
    · rename_i hs
      obtain ⟨f1, ef, h⟩ := Option.bind_eq_some_iff.mp h
      obtain ⟨g1, eg, rfl⟩ := Option.map_eq_some_iff.mp h
      exact gs_cons (ih ef C) (tgL_ok ih eg C) (by rw [each_cons hs]; rfl)
    · cases h
include ok in
theorem tgS_ok : ∀ (n : Nat) {e : Expr} {g : Sg}, tgS d c n e = some g → ∀ {k X W}, CtxS k X W c → PG X e (tG k W g)
  | 0, e, g, h, k, X, W, C => by cases h
  | n + 1, e, g, h, k, X, W, C => by
    unfold tgS at h
    split at h
    · rename_i x p
      obtain ⟨i, ei, rfl⟩ := Option.map_eq_some_iff.mp h
      unfold tgName at ei
      split at ei
      · rename_i hl
        exact g_name C.nd (by rw [C.hN]; exact ixOf_at ei) (by rw [C.sc]; exact locB_ok hl) (.inl (C.fn x))
      · cases ei
    · obtain ⟨g1, eg, rfl⟩ := Option.map_eq_some_iff.mp h
      exact g_tup C.calm (tgL_ok ok (fun h _ _ _ C => tgS_ok n h C) eg C) (each_len _) (each_find (tgL_star eg))
    · split at h
      · rename_i hs
        obtain ⟨f1, e1, h⟩ := Option.bind_eq_some_iff.mp h
        obtain ⟨f2, e2, rfl⟩ := Option.map_eq_some_iff.mp h
        exact g_sub C.toCtx.un1 (ok.x e1 C.toCtx) (ok.x e2 C.toCtx) (asg_sub hs)
      · cases h
    · split at h
      · obtain ⟨f1, e1, rfl⟩ := Option.map_eq_some_iff.mp h
        exact g_fld (ok.x e1 C.toCtx) (clsWith_ok C.toCtx)
      · cases h
    · cases h
end
/-- name = value -/
def setD' (d : Dn) (c : Cfg) (i : Nat) (v : Expr) : Option Ss := match v with
  | .ListComp elt gens scope _ => (lcD d c elt gens scope).map fun f => dAsg f (dGn i)
  | .DictComp kx vx gens scope _ => (dcD d c kx vx gens scope).map fun f => dAsg f (dGn i)
  | v => if noComp v = true then (d.x c v).map fun f => dAsg f (dGn i) else none
def asgGen (d : Dn) (c : Cfg) (t v : Expr) : Option Ss := (tgS d c 3 t).bind fun g => (d.x c v).map fun f => dAsg f (gOnly g)
def asgD (d : Dn) (c : Cfg) (t v : Expr) : Option Ss := match t with
  | .Name y _ => (tgName (locB c.sc) c.N y).bind fun i => setD' d c i v
  | .Subscript _ _ _ => asgGen d c t v
  | .Attribute _ _ _ => asgGen d c t v
  | .Tuple ts _ _ => match v with
    | .Tuple vs _ _ => match swS c.sc ts vs with
      | some none => asgGen d c t v
      | some (some ns) => match ts, vs with
        | [.Name x _, .Name y _], [a, b] => if ns = [x, y] ∧ c.sc.names.lookup x = some .local ∧ c.sc.names.lookup y = some .local then
            (ixOf c.N x).bind fun i => (ixOf c.N y).bind fun j => if i ≠ j then (dnA d c [a, b]).map (dPar i j) else none else none
        | [.Name x _, .Name y _, .Name z _], [a, b, e] => if ns = [x, y, z] ∧ c.sc.names.lookup x = some .local ∧ c.sc.names.lookup y = some .local ∧ c.sc.names.lookup z = some .local then
            (ixOf c.N x).bind fun i => (ixOf c.N y).bind fun j => (ixOf c.N z).bind fun l => if i ≠ j ∧ i ≠ l ∧ j ≠ l then (dnA d c [a, b, e]).map (dPar3 i j l) else none else none
        | _, _ => none
      | none => none
    | v => if isTup v = false then asgGen d c t v else none
  | _ => none
section
variable {X : Cx} {k : Kx} {W : WX} {a b c : Expr} {fs : Sa} {pos : Pos}
theorem s_par3 {i j l : Nat} {x y z : Str} {px py pz pt : Pos} {kt k2 pt2} (hc : X.calm = true) (hN : X.N.Nodup) (hi : X.N[i]? = some x) (hj : X.N[j]? = some y) (hl : X.N[l]? = some z) (hij : i ≠ j) (hil : i ≠ l) (hjl : j ≠ l)
    (hx : X.env.scope.names.lookup x = some .local) (hy : X.env.scope.names.lookup y = some .local) (hz : X.env.scope.names.lookup z = some .local) (ha : PA X [a, b, c] (tA k W fs))
    (hw : swappedStores [.Tuple [.Name x px, .Name y py, .Name z pz] kt pt] (.Tuple [a, b, c] k2 pt2) X.env = pure (some [x, y, z]))
    (hs : swapsWithSole [.Tuple [.Name x px, .Name y py, .Name z pz] kt pt] (.Tuple [a, b, c] k2 pt2) pos.line X.env = pure false) :
    PS X (.Assign [.Tuple [.Name x px, .Name y py, .Name z pz] kt pt] (.Tuple [a, b, c] k2 pt2) pos) (tS k W (dPar3 i j l fs)) :=
  PS.weak (ps_par3 hc hN hi hj hl hij hil hjl hx hy hz ha hw hs) fun σ H B ⟨μ, env, h, rh, re, p⟩ => sA rh re p fun m h1 H1 μ1 vs g1 r1 e1 rl p1 => by
    match m, p1 with
    | [d1, d2, d3], p1 =>
      simp only [RDs] at rl
      obtain ⟨v, r, rfl, q1, w, r', rfl, q2, u, r'', rfl, q3, rfl⟩ := rl
      exact ⟨v, w, u, rfl, p1 _ _ _ Grow.refl r1 (((e1.set i q1).set j q2).set l q3)⟩
end
section
variable {d : Dn} (ok : DnOk d) {c : Cfg} {k : Kx} {X : Cx} {W : WX} (C : CtxS k X W c)
include C in
theorem kindF : X.env.scope.kind = .function := by rw [C.sc]; exact C.kd
include ok C in
theorem setD_ok {i : Nat} {y : Str} {py pos : Pos} {v : Expr} {f : Ss} (hy : X.N[i]? = some y) (hl : locB c.sc y = true) (h : setD' d c i v = some f) : PS X (.Assign [.Name y py] v pos) (tS k W f) := by
  have hloc : Loc X.env.scope y := by rw [C.sc]; exact locB_ok hl
  unfold setD' at h
  split at h
  · rename_i elt gens scope vp
    obtain ⟨f1, e1, rfl⟩ := Option.map_eq_some_iff.mp h
    have sw := sw_lc (elt := elt) (gs := gens) (own := scope) (pos := vp) (py := py) (y := y) (l := pos.line) (kindF C)
    cases hb : swB X.env.scope scope y py.line vp.line with
    | true =>
      rw [hb] at sw
      have hyl : X.env.scope.names.lookup y = some .local := by
        simp only [swB, Bool.and_eq_true] at hb
        exact eq_of_beq hb.1.1
      exact lcD_set ok C.toCtx e1 hy hyl sw
    | false =>
      rw [hb] at sw
      exact s_set C.nd hy hloc (lcD_ok ok C.toCtx e1) sw (.inl (C.fn y))
  · rename_i kx vx gens scope vp
    obtain ⟨f1, e1, rfl⟩ := Option.map_eq_some_iff.mp h
    have sw := sw_dc (kx := kx) (vx := vx) (gs := gens) (own := scope) (pos := vp) (py := py) (y := y) (l := pos.line) (kindF C)
    cases hb : swB X.env.scope scope y py.line vp.line with
    | true =>
      rw [hb] at sw
      have hyl : X.env.scope.names.lookup y = some .local := by
        simp only [swB, Bool.and_eq_true] at hb
        exact eq_of_beq hb.1.1
      exact dcD_set ok C.toCtx e1 hy hyl sw
    | false =>
      rw [hb] at sw
      exact s_set C.nd hy hloc (dcD_ok ok C.toCtx e1) sw (.inl (C.fn y))
  · split at h
    · rename_i hn
      obtain ⟨f1, e1, rfl⟩ := Option.map_eq_some_iff.mp h
      exact s_set C.nd hy hloc (ok.x e1 C.toCtx) (sw_no hn) (.inl (C.fn y))
    · cases h
include ok C in
theorem asgGen_ok {t v : Expr} {f : Ss} {pos : Pos} (hn : (match t with | .Name _ _ => false | _ => true) = true) (hs : notStar t = true) (hw : swappedStores [t] v X.env = pure none) (h : asgGen d c t v = some f) : PS X (.Assign [t] v pos) (tS k W f) := by
  obtain ⟨g, eg, h⟩ := Option.bind_eq_some_iff.mp h
  obtain ⟨f1, e1, rfl⟩ := Option.map_eq_some_iff.mp h
  exact s_asg (ok.x e1 C.toCtx) (tgS_ok ok 3 eg C) (sw_other hn) hw (by rw [each_cons hs]; rfl)
include ok C in
theorem asgD_ok {t v : Expr} {f : Ss} {pos : Pos} (h : asgD d c t v = some f) : PS X (.Assign [t] v pos) (tS k W f) := by
  unfold asgD at h
  split at h
  · obtain ⟨i, ei, h⟩ := Option.bind_eq_some_iff.mp h
    unfold tgName at ei
    split at ei
    · rename_i hl
      exact setD_ok ok C (by rw [C.hN]; exact ixOf_at ei) hl h
    · cases ei
  · exact asgGen_ok ok C rfl rfl (sw_nontup rfl) h
  · exact asgGen_ok ok C rfl rfl (sw_nontup rfl) h
  · rename_i ts kt pt
    split at h
    · rename_i vs k2 p2
      split at h
      · rename_i e
        exact asgGen_ok ok C rfl rfl (swS_ok (kindF C) (by rw [C.sc]; exact e)) h
      · rename_i ns e
        have sw : ∀ {kt k2 pt p2}, swappedStores [.Tuple ts kt pt] (.Tuple vs k2 p2) X.env = pure (some ns) := swS_ok (kindF C) (by rw [C.sc]; exact e)
        split at h
        · rename_i x px y py a b
          split at h
          · rename_i hc
            obtain ⟨rfl, h1, h2⟩ := hc
            obtain ⟨i, ei, h⟩ := Option.bind_eq_some_iff.mp h
            obtain ⟨j, ej, h⟩ := Option.bind_eq_some_iff.mp h
            split at h
            · rename_i hij
              obtain ⟨fs, ef, rfl⟩ := Option.map_eq_some_iff.mp h
              exact s_par C.calm C.nd (by rw [C.hN]; exact ixOf_at ei) (by rw [C.hN]; exact ixOf_at ej) hij (by rw [C.sc]; exact h1) (by rw [C.sc]; exact h2) (dnA_ok ok ef C.toCtx) sw rfl
            · cases h
          · cases h
        · rename_i x px y py z pz a b e'
          split at h
          · rename_i hc
            obtain ⟨rfl, h1, h2, h3⟩ := hc
            obtain ⟨i, ei, h⟩ := Option.bind_eq_some_iff.mp h
            obtain ⟨j, ej, h⟩ := Option.bind_eq_some_iff.mp h
            obtain ⟨l, el, h⟩ := Option.bind_eq_some_iff.mp h
            split at h
            · rename_i hij
              obtain ⟨fs, ef, rfl⟩ := Option.map_eq_some_iff.mp h
              exact s_par3 C.calm C.nd (by rw [C.hN]; exact ixOf_at ei) (by rw [C.hN]; exact ixOf_at ej) (by rw [C.hN]; exact ixOf_at el) hij.1 hij.2.1 hij.2.2 (by rw [C.sc]; exact h1) (by rw [C.sc]; exact h2) (by rw [C.sc]; exact h3) (dnA_ok ok ef C.toCtx) sw rfl
            · cases h
          · cases h
        · cases h
      · cases h
    · split at h
      · rename_i ht
        exact asgGen_ok ok C rfl rfl (sw_plain ht) h
      · cases h
  · cases h
end
/-! ### blocks of statements -/
def seqD' (f : Stmt → Option Ss) : List Stmt → Option Ss
  | [] => some dSkip
  | s :: ss => (f s).bind fun g => (seqD' f ss).map (dSeq g)
def stD (d : Dn) (c : Cfg) : Nat → Stmt → Option Ss
  | 0, _ => none
  | n + 1, s => match s with
    | .Expr (.Constant (.str _) _ _) _ => some dSkip
    | .Expr e _ => if noComp e = true then (d.x c e).map dDrop else none
    | .Return (some e) _ => (d.x c e).map dRet
    | .Return none _ => some dRetN
    | .Pass _ => some dSkip
    | .Break _ => some dBreak
    | .Continue _ => some dCont
    | .If t a b _ => (d.t c t).bind fun ft => (seqD' (stD d c n) a).bind fun fa => (seqD' (stD d c n) b).map fun fb => dIfS ft fa fb
    | .While t b [] _ => (d.t c t).bind fun ft => (seqD' (stD d c n) b).map fun fb => dWhile ft fb
    | .For tg it b [] _ => if noSet it = true then (d.i c tg it).bind fun si => (tgS d c 3 tg).bind fun g => (seqD' (stD d c n) b).map fun fb => dFor si g fb else none
    | .Assign [t] v _ => asgD d c t v
    | .Raise _ _ _ => some dNever
    | .AugAssign (.Name x _) .Add v _ => (tgName (locB c.sc) c.N x).bind fun i => (d.x c v).map (dAug dAdd i)
    | .AugAssign (.Name x _) .Sub v _ => (tgName (locB c.sc) c.N x).bind fun i => (d.x c v).map (dAug dSub i)
    | _ => none
section
variable {d : Dn} (ok : DnOk d) {c : Cfg} {k : Kx} {X : Cx} {W : WX} (C : CtxS k X W c)
include C in
theorem seqD_ok {f : Stmt → Option Ss} (hf : ∀ {s g}, f s = some g → PS X s (tS k W g)) : ∀ {ss : List Stmt} {g : Ss}, seqD' f ss = some g → PSs X ss (tS k W g)
  | [], g, h => by cases h; exact ss_nil
  | s :: ss, g, h => by
    unfold seqD' at h
    obtain ⟨f1, e1, h⟩ := Option.bind_eq_some_iff.mp h
    obtain ⟨f2, e2, rfl⟩ := Option.map_eq_some_iff.mp h
    exact ss_cons (hf e1) (seqD_ok hf e2)
include ok C in
theorem stD_ok : ∀ (n : Nat) {s : Stmt} {f : Ss}, stD d c n s = some f → PS X s (tS k W f)
  | 0, s, f, h => by cases h
  | n + 1, s, f, h => by
    unfold stD at h
    split at h
    · cases h; exact s_doc
    · split at h
      · rename_i hn
        obtain ⟨f1, e1, rfl⟩ := Option.map_eq_some_iff.mp h
        exact s_expr (ok.x e1 C.toCtx) (sw_no hn)
      · cases h
    · obtain ⟨f1, e1, rfl⟩ := Option.map_eq_some_iff.mp h
      exact s_ret (ok.x e1 C.toCtx)
    · cases h; exact s_retN
    · cases h; exact s_pass
    · cases h; exact s_break
    · cases h; exact s_cont
    · obtain ⟨ft, et, h⟩ := Option.bind_eq_some_iff.mp h
      obtain ⟨f1, e1, h⟩ := Option.bind_eq_some_iff.mp h
      obtain ⟨f2, e2, rfl⟩ := Option.map_eq_some_iff.mp h
      exact s_if (ok.t et C.toCtx) (seqD_ok C (fun h => stD_ok n h) e1) (seqD_ok C (fun h => stD_ok n h) e2)
    · obtain ⟨ft, et, h⟩ := Option.bind_eq_some_iff.mp h
      obtain ⟨f1, e1, rfl⟩ := Option.map_eq_some_iff.mp h
      exact s_while C.po (ok.t et C.toCtx) (seqD_ok C (fun h => stD_ok n h) e1)
    · split at h
      · rename_i hs
        obtain ⟨si, ei, h⟩ := Option.bind_eq_some_iff.mp h
        obtain ⟨g, eg, h⟩ := Option.bind_eq_some_iff.mp h
        obtain ⟨f1, e1, rfl⟩ := Option.map_eq_some_iff.mp h
        exact s_for C.po C.calm (ok.i ei C.toCtx) (tgS_ok ok 3 eg C) (seqD_ok C (fun h => stD_ok n h) e1) (folded_no hs)
      · cases h
    · exact asgD_ok ok C h
    · cases h; exact s_never
    · obtain ⟨i, ei, h⟩ := Option.bind_eq_some_iff.mp h
      obtain ⟨f1, e1, rfl⟩ := Option.map_eq_some_iff.mp h
      unfold tgName at ei
      split at ei
      · rename_i hl
        exact s_augAdd C.nd (by rw [C.hN]; exact ixOf_at ei) (by rw [C.sc]; exact locB_ok hl) (ok.x e1 C.toCtx) (.inl (C.fn _))
      · cases ei
    · obtain ⟨i, ei, h⟩ := Option.bind_eq_some_iff.mp h
      obtain ⟨f1, e1, rfl⟩ := Option.map_eq_some_iff.mp h
      unfold tgName at ei
      split at ei
      · rename_i hl
        exact s_augSub C.nd (by rw [C.hN]; exact ixOf_at ei) (by rw [C.sc]; exact locB_ok hl) (ok.x e1 C.toCtx) (.inl (C.fn _))
      · cases ei
    · cases h
end
def bodyD (c : Cfg) (ss : List Stmt) : Option Ss := seqD' (stD (dn2 40) c 20) ss
theorem bodyD_ok {c : Cfg} {ss : List Stmt} {f : Ss} (h : bodyD c ss = some f) {k X W} (C : CtxS k X W c) : PSs X ss (tS k W f) := seqD_ok C (fun h => stD_ok (dn2_ok 40) C 20 h) h
end PN
namespace PN
open PySem L2 PyProof.Rows
/-! ## the defs of a text, one upon the other -/
section
variable {P : Program} {w : World} {K : PySem.W.Frag} {mg : Str → Option Value} {base : Heap} {k : Kx}
/-- the defs and classes told so far keep their promises -/
structure TabOk (P : Program) (w : World) (K : PySem.W.Frag) (mg : Str → Option Value) (base : Heap) (k : Kx) (kk : Nat) (T : List (Str × FT)) (CT : List (Str × CI)) : Prop where
  fn : ∀ x ft, T.lookup x = some ft → ∃ f fd ps, mg x = some (.ref f) ∧ PySem.W.keepIn K (.ref f) = true ∧ Binds K fd ps [] ∧ ps.length = ft.np ∧ FnG P w K mg base kk f fd ps (spM k ps.length ft.m)
  cl : ∀ x ci, CT.lookup x = some ci → ClsOk P w K mg base k kk x ci
theorem TabOk.nil : TabOk P w K mg base k 0 [] [] := ⟨(fun x ft h => by cases h), fun x ci h => by cases h⟩
theorem ClsOk.mono {i j : Nat} (h : i ≤ j) {x : Str} {ci : CI} (c : ClsOk P w K mg base k i x ci) : ClsOk P w K mg base k j x ci := by
  obtain ⟨Ca, e1, e2, e3, e4, e5, e6⟩ := c.ex
  exact ⟨Ca, e1, e2, e3, e4, (fun ft h1 => let ⟨f, fd, ps, a, b, d, F⟩ := e5 ft h1; ⟨f, fd, ps, a, b, d, F.mono h⟩), fun m ft h1 => let ⟨f, fd, ps, a, b, d, F⟩ := e6 m ft h1; ⟨f, fd, ps, a, b, d, F.mono h⟩⟩
theorem TabOk.mono {i j : Nat} (h : i ≤ j) {T : List (Str × FT)} {CT : List (Str × CI)} (t : TabOk P w K mg base k i T CT) : TabOk P w K mg base k j T CT :=
  ⟨fun x ft e => let ⟨f, fd, ps, a, b, c, d, F⟩ := t.fn x ft e; ⟨f, fd, ps, a, b, c, d, F.mono h⟩, fun x ci e => (t.cl x ci e).mono h⟩
/-- what the module's other names are -/
structure ModOk (K : PySem.W.Frag) (mg : Str → Option Value) (k : Kx) (G : List (Str × D)) (B : List Str) : Prop where
  hk : k.K = K
  nob : ∀ x, B.contains x = true → mg x = none
  gl : ∀ x d, G.lookup x = some d → ∃ v u, mg x = some u ∧ RelV v u ∧ ∀ H μ, RD H μ d v
def cfgOf (N : List Str) (st : Stmt) (T : List (Str × FT)) (CT : List (Str × CI)) (G : List (Str × D)) (B : List Str) : Cfg := ⟨N, defScope st, fun x => T.lookup x, fun x => G.lookup x, fun x => B.contains x, CT⟩
theorem fn_add {kk : Nat} {T : List (Str × FT)} {CT : List (Str × CI)} {G : List (Str × D)} {B : List Str} (M : ModOk K mg k G B) (hT : TabOk P w K mg base k kk T CT) {x qual : Str} {st : Stmt} {f : Addr} {fd : FuncData} {N ps : List Str} {b : Ss} (F : Fun K x qual st f fd)
    (S : FnScope N ps (defScope st)) (hb : bodyD (cfgOf N st T CT G B) (defBody st) = some b) : FnG P w K mg base (kk + 2) f fd ps (spM k ps.length (mOf N.length b)) :=
  fn_ofG F S fun cdv A outer s H E hr hgd => bodyD_ok hb ⟨⟨rfl, S.nd, rfl, M.hk, rfl, hgd, takes_def, M.nob, M.gl, kk, hr, hT.fn, hT.cl⟩, passes_def, fun _ => rfl, S.kind⟩
theorem tab_put {kk : Nat} {T : List (Str × FT)} {CT : List (Str × CI)} (hT : TabOk P w K mg base k kk T CT) {x : Str} {f : Addr} {fd : FuncData} {ps : List Str} {m : Mf} (hm : mg x = some (.ref f)) (kp : PySem.W.keepIn K (.ref f) = true) (bd : Binds K fd ps []) (F : FnG P w K mg base kk f fd ps (spM k ps.length m)) :
    TabOk P w K mg base k kk ((x, ⟨ps.length, m⟩) :: T) CT := by
  refine ⟨fun y ft h => ?_, hT.cl⟩
  rw [List.lookup_cons] at h
  split at h
  · rename_i e
    cases h
    have := eq_of_beq e
    subst this
    exact ⟨f, fd, ps, hm, kp, bd, rfl, F⟩
  · exact hT.fn y ft h
theorem tab_add {kk : Nat} {T : List (Str × FT)} {CT : List (Str × CI)} {G : List (Str × D)} {B : List Str} (M : ModOk K mg k G B) (hT : TabOk P w K mg base k kk T CT) {x qual : Str} {st : Stmt} {f : Addr} {fd : FuncData} {N ps : List Str} {b : Ss} (F : Fun K x qual st f fd)
    (S : FnScope N ps (defScope st)) (hm : mg x = some (.ref f)) (bd : Binds K fd ps []) (hb : bodyD (cfgOf N st T CT G B) (defBody st) = some b) : TabOk P w K mg base k (kk + 2) ((x, ⟨ps.length, mOf N.length b⟩) :: T) CT :=
  tab_put (hT.mono (by omega)) hm F.kp bd (fn_add M hT F S hb)
/-- never called -/
def mBad : Mf := fun _ _ => .bad
theorem fn_bad {kk : Nat} {f : Addr} {fd : FuncData} {ps : List Str} : FnG P w K mg base kk f fd ps (spM k ps.length mBad) :=
  ⟨fun vs H Q E h => h.1, fun A outer s H args us vs Q E hr hgd e0 hb r ⟨_, μ, h, ds, _, _, p⟩ => (show False from p).elim⟩
theorem tab_bad {kk : Nat} {T : List (Str × FT)} {CT : List (Str × CI)} (hT : TabOk P w K mg base k kk T CT) {x qual : Str} {st : Stmt} {f : Addr} {fd : FuncData} {ps : List Str} (F : Fun K x qual st f fd) (hm : mg x = some (.ref f)) (bd : Binds K fd ps []) :
    TabOk P w K mg base k kk ((x, ⟨ps.length, mBad⟩) :: T) CT := tab_put hT hm F.kp bd fn_bad
/-- a class, without methods as yet -/
theorem tab_cls {kk : Nat} {T : List (Str × FT)} {CT : List (Str × CI)} (hT : TabOk P w K mg base k kk T CT) {x : Str} {Ca : Addr} {flds : List Str} (h1 : k.cl x = some Ca) (h2 : mg x = some (.ref Ca)) (h3 : Cls K Ca) (h4 : ∀ f ∈ flds, NoAttr K Ca f) : TabOk P w K mg base k kk T ((x, ⟨flds, none, []⟩) :: CT) := by
  refine ⟨hT.fn, fun y ci h => ?_⟩
  rw [List.lookup_cons] at h
  split at h
  · rename_i e
    cases h
    have := eq_of_beq e
    subst this
    exact ⟨Ca, h1, h2, h3, h4, (fun ft h => by cases h), fun m ft h => by cases h⟩
  · exact hT.cl y ci h
/-- its table with one more -/
def ciMeth (CT : List (Str × CI)) (x m : Str) (ft : FT) : List (Str × CI) := CT.map fun p => if p.1 == x then (p.1, { p.2 with ms := (m, ft) :: p.2.ms }) else p
def ciInit (CT : List (Str × CI)) (x : Str) (ft : FT) : List (Str × CI) := CT.map fun p => if p.1 == x then (p.1, { p.2 with init := some ft }) else p
theorem lookup_map {f : CI → CI} {x : Str} : ∀ {CT : List (Str × CI)} {y : Str}, (CT.map fun p => if p.1 == x then (p.1, f p.2) else p).lookup y = (CT.lookup y).map fun ci => if y == x then f ci else ci
  | [], y => rfl
  | (z, ci) :: CT, y => by
    rw [List.map_cons]
    by_cases hz : (z == x) = true
    · rw [if_pos hz, List.lookup_cons, List.lookup_cons]
      by_cases hy : (y == z) = true
      · have e1 := eq_of_beq hz
        have e2 := eq_of_beq hy
        subst e1 e2
        simp
      · simp only [Bool.not_eq_true] at hy
        rw [hy]; exact lookup_map
    · rw [if_neg hz, List.lookup_cons, List.lookup_cons]
      by_cases hy : (y == z) = true
      · have e2 := eq_of_beq hy
        subst e2
        simp only [Bool.not_eq_true] at hz
        simp [hz]
      · simp only [Bool.not_eq_true] at hy
        rw [hy]; exact lookup_map
theorem tab_meth {kk : Nat} {T : List (Str × FT)} {CT : List (Str × CI)} (hT : TabOk P w K mg base k kk T CT) {x m : Str} {Ca f : Addr} {fd : FuncData} {ps : List Str} {mf : Mf} (hC : k.cl x = some Ca) (h1 : Meth K Ca m f) (bd : Binds K fd ps []) (F : FnG P w K mg base kk f fd ps (spM k ps.length mf)) :
    TabOk P w K mg base k kk T (ciMeth CT x m ⟨ps.length, mf⟩) := by
  refine ⟨hT.fn, fun y ci h => ?_⟩
  unfold ciMeth at h
  rw [lookup_map (f := fun ci => { ci with ms := (m, ⟨ps.length, mf⟩) :: ci.ms })] at h
  obtain ⟨c0, e0, e⟩ := Option.map_eq_some_iff.mp h
  obtain ⟨Cb, a1, a2, a3, a4, a5, a6⟩ := (hT.cl y c0 e0).ex
  by_cases hy : (y == x) = true
  · rw [if_pos hy] at e
    have := eq_of_beq hy
    subst this e
    rw [hC] at a1; cases a1
    refine ⟨Ca, hC, a2, a3, a4, a5, fun m' ft hm' => ?_⟩
    rw [List.lookup_cons] at hm'
    split at hm'
    · rename_i em
      cases hm'
      have := eq_of_beq em
      subst this
      exact ⟨f, fd, ps, h1, bd, rfl, F⟩
    · exact a6 m' ft hm'
  · rw [if_neg hy] at e
    subst e
    exact ⟨Cb, a1, a2, a3, a4, a5, a6⟩
theorem tab_init {kk : Nat} {T : List (Str × FT)} {CT : List (Str × CI)} (hT : TabOk P w K mg base k kk T CT) {x : Str} {Ca f : Addr} {fd : FuncData} {ps : List Str} {mf : Mf} (hC : k.cl x = some Ca) (h1 : Mk K Ca f) (bd : Binds K fd ps []) (F : FnG P w K mg base kk f fd ps (spM k ps.length mf)) :
    TabOk P w K mg base k kk T (ciInit CT x ⟨ps.length, mf⟩) := by
  refine ⟨hT.fn, fun y ci h => ?_⟩
  unfold ciInit at h
  rw [lookup_map (f := fun ci => { ci with init := some ⟨ps.length, mf⟩ })] at h
  obtain ⟨c0, e0, e⟩ := Option.map_eq_some_iff.mp h
  obtain ⟨Cb, a1, a2, a3, a4, a5, a6⟩ := (hT.cl y c0 e0).ex
  by_cases hy : (y == x) = true
  · rw [if_pos hy] at e
    have := eq_of_beq hy
    subst this e
    rw [hC] at a1; cases a1
    refine ⟨Ca, hC, a2, a3, a4, fun ft hft => ?_, a6⟩
    cases hft
    exact ⟨f, fd, ps, h1, bd, rfl, F⟩
  · rw [if_neg hy] at e
    subst e
    exact ⟨Cb, a1, a2, a3, a4, a5, a6⟩
/-- a def that calls itself, so many deep -/
def mRec (N : Nat) (b : Mf → Ss) : Nat → Mf
  | 0 => mBad
  | n + 1 => mOf N (b (mRec N b n))
theorem tab_rec {kk : Nat} {T : List (Str × FT)} {CT : List (Str × CI)} {G : List (Str × D)} {B : List Str} (M : ModOk K mg k G B) (hT : TabOk P w K mg base k kk T CT) {x qual : Str} {st : Stmt} {f : Addr} {fd : FuncData} {N ps : List Str} {b : Mf → Ss} (F : Fun K x qual st f fd)
    (S : FnScope N ps (defScope st)) (hm : mg x = some (.ref f)) (bd : Binds K fd ps []) (hb : ∀ m, bodyD (cfgOf N st ((x, ⟨ps.length, m⟩) :: T) CT G B) (defBody st) = some (b m)) : ∀ n, TabOk P w K mg base k (kk + 2 * n) ((x, ⟨ps.length, mRec N.length b n⟩) :: T) CT
  | 0 => tab_bad hT F hm bd
  | n + 1 => by
    have ih := tab_rec M hT F S hm bd hb n
    exact tab_put (hT.mono (by omega)) hm F.kp bd (fn_add M ih F S (hb _))
end
/-! ## the law's own call -/
def noLists (K : PySem.W.Frag) : Bool := K.all fun p => match p.2.cls with
  | .type n => !(n == "list")
  | _ => true
theorem lookup_mem {α β : Type} [BEq α] [LawfulBEq α] {a : α} {o : β} : ∀ {l : List (α × β)}, l.lookup a = some o → (a, o) ∈ l
  | (b, p) :: l, h => by
    rw [List.lookup_cons] at h
    split at h
    · rename_i e; cases h
      rw [eq_of_beq e]; exact List.mem_cons_self
    · exact List.mem_cons_of_mem _ (lookup_mem h)
theorem noLists_at {K : PySem.W.Frag} (h : noLists K = true) {a : Addr} {o : Obj} (e : K.lookup a = some o) : o.cls ≠ .type "list" := fun z => by
  have m := lookup_mem e
  have q := List.all_eq_true.mp h _ m
  simp only [z] at q
  exact absurd q (by decide)
theorem law_callG {P : Program} {w : World} {K : PySem.W.Frag} {mg mb : Str → Option Value} {kk : Nat} {fa a : Addr} {fd : FuncData} {x : Str} {m : Mf} {k : Kx} {s₁ : Shared} {vs : List Value} {ns : List Int}
    (KX : K.In s₁.heap) (hns : s₁.heap.Ns mainGlobals mg) (hb : s₁.heap.Ns builtinsNs mb) (hbb : ∀ x : Str, x ≠ "__name__" → mb x = bootBuiltins x) (hlim : s₁.heap.NoLimit) (hg : s₁.gens = #[])
    (ha : s₁.heap.get? a = some { cls := .type "list", data := .seq vs.toArray }) (hi : IntsAre vs ns) (hl : ns.length ≤ sizeLine) (hr : Room kk callerA) (hK : noLists K = true)
    (F : ∀ base : Heap, K.In base → base.Ns mainGlobals mg → FnG P w K mg base kk fa fd [x] (spM k 1 m)) (hbind : ∀ (s : Shared) (u : Value), BindsTo s fd ⟨[u], []⟩ [(x, u)])
    (hm : ∃ h', m [.ref 0] [.frz (ns.map D.int)] = .ok (.bl true) h') :
    codeAny (model P w) callerA (.call (.ref fa) ⟨[.ref a], []⟩) (fun r s' => r = .ok (.ret (.bool true)) ∧ OldK s₁.heap s'.heap ∧ s'.os = s₁.os ∧ AllBare s'.gens) s₁ := by
  have rv := vals_ints hi
  have hkn : K.lookup a = none := by
    cases e : K.lookup a with
    | none => rfl
    | some o =>
      have q := KX a o e
      rw [ha] at q; cases q
      exact absurd rfl (noLists_at hK e)
  -- the script is tracked, as a thing known to the object
  obtain ⟨H, eH⟩ : ∃ H : Hp, H = fun b => if b = a then some (.frz { cls := .type "list", data := .seq vs.toArray } (.lst (ns.map V.int))) else none := ⟨_, rfl⟩
  have atA : H a = some (.frz { cls := .type "list", data := .seq vs.toArray } (.lst (ns.map V.int))) := by rw [eH]; exact if_pos rfl
  have off : ∀ b, b ≠ a → H b = none := fun b n => by rw [eH]; exact if_neg n
  have hok : HOk P w H s₁.heap := fun b u z => by
    by_cases n : b = a
    · subst n
      rw [atA] at z; cases z
      exact ⟨ha, by rw [List.length_map]; exact hl, vs, _, rv, ha⟩
    · rw [off b n] at z; cases z
  have noDict : ∀ {b : Addr} {o : Obj} {es : Array DictEntry} {ep : Nat}, s₁.heap.get? b = some o → o.data = .dict es ep → H b = none := fun {b o es ep} e d => off b fun n => by
    subst n
    rw [ha] at e; cases e
    have d' : Data.seq vs.toArray _ = Data.dict es ep := d
    cases d'
  have nsB : ∀ {b : Addr} {mm : Str → Option Value}, s₁.heap.Ns b mm → (hidT s₁.heap H).Ns b mm := fun {b mm} ⟨o, es, ep, e, d, r⟩ => ⟨o, es, ep, hidT_get e (noDict e d), d, r⟩
  have KB : K.In (hidT s₁.heap H) := fun b o e => hidT_get (KX b o e) (off b fun n => by rw [n, hkn] at e; cases e)
  have MB : Mod K mg (hidT s₁.heap H) := ⟨KB, nsB hns, ⟨mb, nsB hb, hbb⟩, let ⟨mc, h1, h2⟩ := hlim; ⟨mc, nsB h1, h2⟩⟩
  have e0 : Env0 P w K mg (hidT s₁.heap H) callerA [] s₁ H := ⟨rfl, MB, fun b o e => of_hidT e, Nat.le_of_eq (hidT_size _ _), trivial, fun b hb => absurd (show b ∈ ([] : List Addr) from hb) (by simp), hok, .of_eq hg⟩
  obtain ⟨h', em⟩ := hm
  have rd : RDs H [a] [.ref 0] [.ref a] := RDs.cons (RD.ref rfl) RDs.nil
  have rints : ∀ l : List Int, RDs H [a] (l.map D.int) (l.map V.int) := fun l => by
    induction l with
    | nil => exact RDs.nil
    | cons i l ih => exact RDs.cons (RD.int i) ih
  have rh : RH k [a] [.frz (ns.map D.int)] H := by
    refine ⟨rfl, fun i j b oi oj e1 e2 e3 e4 m1 m2 => ?_, fun n o b e1 e2 => ?_⟩
    · have hi : i < 1 := (List.getElem?_eq_some_iff.mp e1).1
      have hj : j < 1 := (List.getElem?_eq_some_iff.mp e2).1
      omega
    · have hn : n < 1 := (List.getElem?_eq_some_iff.mp e2).1
      have : n = 0 := by omega
      subst this
      cases e1
      cases e2
      exact ⟨ns.map V.int, ⟨_, atA⟩, rints ns⟩
  have sp : spM k 1 m [.ref a] H (fun v _ => v = .bl true) fun _ _ _ => False := by
    refine ⟨rfl, [a], _, [.ref 0], rh, rd, ?_⟩
    rw [em]
    exact fun H' μ' g r v q => q.bl_of
  refine codeAny_mono ((F _ KB (nsB hns)).run callerA [] s₁ H ⟨[.ref a], []⟩ [.ref a] [.ref a] _ _ hr rfl e0 (hbind s₁ (.ref a)) (.cons rfl .nil) sp) fun r s' h => ?_
  cases r with
  | error e =>
    obtain ⟨_, _, _, _, _, _, _, _, _, _, _, _, z⟩ := h
    exact z.elim
  | ok fl =>
    cases fl with
    | next => exact False.elim h
    | brk => exact False.elim h
    | cont => exact False.elim h
    | ret u =>
      obtain ⟨v, H', os, bare, un, hok', r', q⟩ := h
      have q' : v = .bl true := q
      subst q'
      obtain rfl : u = Value.bool true := r'
      refine ⟨rfl, OldK.of_keep fun b o e => ?_, os, bare⟩
      by_cases n : b = a
      · subst n
        obtain ⟨e1, _⟩ := hok b _ atA
        obtain ⟨e2, _⟩ := hok' b _ (un.frzs b _ _ atA)
        rw [e] at e1; cases e1
        exact e2
      · exact un.keep b o e (off b n) (by intro z; exact absurd (show b ∈ ([] : List Addr) from z) (by simp)) (by simp)
/-- the goal that the head leaves -/
theorem walk_ofG {l : PySem.W.OpenLaw} {n kk : Nat} {q : Program} {loose : List Str} {XP : (Str → Option Value) → Heap → Prop} {YP : World → Heap → Prop} {d : DefRec} {K : Params → PySem.W.Frag} {x : Str} {m : Mf}
    (hn : l.most = some n) (hn2 : n ≤ sizeLine) (hdf : d.params.defaults = []) (hr : Room kk callerA)
    (hY : ∀ (w : World) (h : Heap), YP w h → (K w.params).In h) (hK : ∀ w : World, noLists (K w.params) = true)
    (F : ∀ (w : World) (mg : Str → Option Value) (fa : Addr) (h : Heap), (K w.params).In h → h.Ns mainGlobals mg → mg d.name = some (.ref fa) →
      ∃ (fd : FuncData) (k : Kx), (∀ (s : Shared) (u : Value), BindsTo s fd ⟨[u], []⟩ [(x, u)]) ∧ ∀ base : Heap, (K w.params).In base → base.Ns mainGlobals mg → FnG l.prog w (K w.params) mg base kk fa fd [x] (spM k 1 m))
    (hm : ∀ ns : List Int, ns.length ≤ n → ∃ h', m [.ref 0] [.frz (ns.map D.int)] = .ok (.bl true) h') :
    PySem.W.WalkO q loose XP YP l.row.toRowW d [] (fun f vs => PySem.call f vs) := by
  refine Att.attach_call hn hdf fun w s₀ s₁ mg mb fa o pm cd doc a vs ns G Y ho hd hcd hmg hobj hints hlen hg => ?_
  have KX := hY w _ Y
  obtain ⟨fd, k, hb, hF⟩ := F w mg fa _ KX G.T.g hmg
  exact law_callG KX G.T.g G.T.b G.T.builtins G.T.nolimit hg hobj hints (Nat.le_trans hlen hn2) hr (hK w) hF hb (hm ns hlen)
end PN
namespace PN
open PySem L2 PyProof.Rows
/-! # plain reckoning over the readings -/
theorem und_tup {b : Nat} {l : List D} : (D.tup l).und b = D.undL b l := by simp [D.und]
theorem take_pre {h h' : Hd} (p : h <+: h') : h'.take h.length = h := by
  obtain ⟨t, rfl⟩ := p; simp
theorem gc_val {h h' : Hd} {d : D} (p : h <+: h') (u : d.und h.length = true) : gc h (.ok d h') = .ok d h := by
  simp only [gc, take_pre p, if_true, u]
theorem gc_lst {h h' : Hd} {n : Nat} {l : List D} (p : h <+: h') (hn : h.length ≤ n) (e : h'[n]? = some (.lst l)) (u : D.undL h.length l = true) : gc h (.ok (.ref n) h') = .ok (.ref h.length) (h ++ [.lst l]) := by
  have hu : (D.ref n).und h.length = false := by simp [D.und]; omega
  simp only [gc, take_pre p, if_true, hu, e, u, Bool.false_eq_true, if_false]
theorem gc_new {h : Hd} {l : List D} (u : D.undL h.length l = true) : gc h (.ok (.ref h.length) (h ++ [.lst l])) = .ok (.ref h.length) (h ++ [.lst l]) :=
  gc_lst (List.prefix_append _ _) (Nat.le_refl _) (by simp) u
/-! ## calls of defs -/
theorem dFn_val {n : Nat} {m : Mf} {A : Sa} {env : Env} {h h1 h2 : Hd} {l : List D} {d : D} (hA : A env h = .ok l h1) (hn : l.length = n) (hm : m l h1 = .ok d h2) (p : h <+: h2) (u : d.und h.length = true) : dFn n m A env h = .ok d h := by
  simp only [dFn, hA, Rs.bind_ok, hn, if_true, hm]
  exact gc_val p u
theorem dFn_lst {n : Nat} {m : Mf} {A : Sa} {env : Env} {h h1 h2 : Hd} {l r : List D} {j : Nat} (hA : A env h = .ok l h1) (hn : l.length = n) (hm : m l h1 = .ok (.ref j) h2) (p : h <+: h2) (hj : h.length ≤ j) (e : h2[j]? = some (.lst r)) (u : D.undL h.length r = true) :
    dFn n m A env h = .ok (.ref h.length) (h ++ [.lst r]) := by
  simp only [dFn, hA, Rs.bind_ok, hn, if_true, hm]
  exact gc_lst p hj e u
theorem dCall_val {g : OpN} {A : Sa} {env : Env} {h h1 h2 : Hd} {l : List D} {d : D} (hA : A env h = .ok l h1) (hm : g l h1 = some (d, h2)) (p : h <+: h2) (u : d.und h.length = true) : dCall g A env h = .ok d h := by
  simp only [dCall, hA, Rs.bind_ok, hm, ofO]
  exact gc_val p u
theorem dCall_lst {g : OpN} {A : Sa} {env : Env} {h h1 h2 : Hd} {l r : List D} {j : Nat} (hA : A env h = .ok l h1) (hm : g l h1 = some (.ref j, h2)) (p : h <+: h2) (hj : h.length ≤ j) (e : h2[j]? = some (.lst r)) (u : D.undL h.length r = true) :
    dCall g A env h = .ok (.ref h.length) (h ++ [.lst r]) := by
  simp only [dCall, hA, Rs.bind_ok, hm, ofO]
  exact gc_lst p hj e u
theorem dCons_ok {f : Se} {g : Sa} {env : Env} {h h1 h2 : Hd} {d : D} {l : List D} (a : f env h = .ok d h1) (b : g env h1 = .ok l h2) : dCons f g env h = .ok (d :: l) h2 := by
  simp only [dCons, a, Rs.bind_ok, b]
theorem dNil_ok {env : Env} {h : Hd} : dNil env h = .ok [] h := rfl
/-! ## blocks over items that stay -/
theorem lcI_map {nx : Nx} {g : Sg} {t : St'} {f : Se} {env : Env} {h : Hd} {l : List D} {F : D → D} {T : D → Bool} (E : D → Env) (hx : ∀ j, nx j h = some l[j]?) (hg : ∀ d ∈ l, g d env h = .nx (E d) h) (ht : ∀ d ∈ l, t (E d) h = .ok (T d) h)
    (hf : ∀ d ∈ l, T d = true → f (E d) h = .ok (F d) h) : ∀ n j acc, l.length - j < n → acc.length + (l.length - j) ≤ BIG → dLcI nx g t f env n j acc h = .ok (acc ++ ((l.drop j).filter T).map F) h
  | 0, j, acc, hn, hz => absurd hn (by omega)
  | n + 1, j, acc, hn, hz => by
    unfold dLcI
    rw [hx j]
    by_cases hj : j < l.length
    · rw [List.getElem?_eq_getElem hj]
      have hm : l[j] ∈ l := List.getElem_mem hj
      simp only [hg _ hm, ht _ hm, Rs.ne_ok, Rs.bind_ok]
      have e1 : l.drop j = l[j] :: l.drop (j + 1) := List.drop_eq_getElem_cons hj
      by_cases hT : T l[j] = true
      · simp only [hT, if_true, hf _ hm hT, Rs.ne_ok, Rs.bind_ok]
        rw [if_pos (by omega), lcI_map E hx hg ht hf n (j + 1) _ (by omega) (by simp; omega)]
        rw [e1]
        simp only [List.filter_cons, hT, if_true, List.map_cons, List.append_assoc, List.singleton_append]
      · simp only [hT, Bool.false_eq_true, if_false]
        rw [lcI_map E hx hg ht hf n (j + 1) _ (by omega) (by omega)]
        rw [e1]
        simp only [List.filter_cons, hT, Bool.false_eq_true, if_false]
    · rw [List.getElem?_eq_none (by omega)]
      simp [List.drop_eq_nil_of_le (Nat.le_of_not_lt hj)]
theorem lc_map {s : Si} {g : Sg} {t : St'} {f : Se} {vs : List Nat} {env : Env} {h h1 : Hd} {nx : Nx} {l : List D} {F : D → D} {T : D → Bool} (E : D → Env) (hs : s env h = .ok nx h1) (hx : ∀ j, nx j h1 = some l[j]?) (hz : l.length < BIG) (hg : ∀ d ∈ l, g d (wipeE env vs) h1 = .nx (E d) h1)
    (ht : ∀ d ∈ l, t (E d) h1 = .ok (T d) h1) (hf : ∀ d ∈ l, T d = true → f (E d) h1 = .ok (F d) h1) : dLc s g t f vs env h = .ok (.ref h1.length) (h1 ++ [.lst ((l.filter T).map F)]) := by
  simp only [dLc, hs, Rs.bind_ok]
  rw [lcI_map E hx hg ht hf BIG 0 [] (by omega) (by simp; omega)]
  simp
/-- without a test -/
theorem lc_all {s : Si} {g : Sg} {f : Se} {vs : List Nat} {env : Env} {h h1 : Hd} {nx : Nx} {l : List D} {F : D → D} (E : D → Env) (hs : s env h = .ok nx h1) (hx : ∀ j, nx j h1 = some l[j]?) (hz : l.length < BIG) (hg : ∀ d ∈ l, g d (wipeE env vs) h1 = .nx (E d) h1)
    (hf : ∀ d ∈ l, f (E d) h1 = .ok (F d) h1) : dLc s g dYes f vs env h = .ok (.ref h1.length) (h1 ++ [.lst (l.map F)]) := by
  rw [lc_map (T := fun _ => true) E hs hx hz hg (fun _ _ => rfl) fun d hd _ => hf d hd]
  rw [List.filter_eq_self.mpr fun _ _ => rfl]
/-! ## sources -/
theorem seqI_tup {f : Se} {env : Env} {h h1 : Hd} {l : List D} (e : f env h = .ok (.tup l) h1) : dSeqI f env h = .ok (nxOf l) h1 := by simp [dSeqI, e, seqN]
theorem seqI_ref {f : Se} {env : Env} {h h1 : Hd} {n : Nat} {l : List D} (e : f env h = .ok (.ref n) h1) (el : seqAt h1 n = some l) : dSeqI f env h = .ok (nxLst n) h1 := by simp [dSeqI, e, seqN, el]
theorem nxOf_at {l : List D} {h : Hd} (j : Nat) : nxOf l j h = some l[j]? := rfl
theorem nxLst_at {n : Nat} {l : List D} {h : Hd} (el : seqAt h n = some l) (j : Nat) : nxLst n j h = some l[j]? := by simp [nxLst, el]
theorem nxRng_at {lo : Int} {n : Nat} {h : Hd} (j : Nat) : nxRng lo 1 n j h = some (((List.range n).map fun i => D.int (lo + (i : Nat)))[j]?) := by
  unfold nxRng
  by_cases hj : j < n
  · simp [hj]
  · simp [hj]
theorem rng1_ok {n : Nat} (hn : (n : Int) < RB) : rng1 [.int n] = some (nxRng 0 1 n) := by
  have h0 : -RB ≤ (n : Int) := by
    have : -RB ≤ 0 := by decide
    exact Int.le_trans this (Int.natCast_nonneg n)
  show (if -RB ≤ (n : Int) ∧ (n : Int) < RB then some (nxRng 0 1 (n : Int).toNat) else none) = _
  rw [if_pos (And.intro h0 hn), Int.toNat_natCast]
theorem rngI_1 {a : Se} {env : Env} {h h1 : Hd} {n : Nat} (e : a env h = .ok (.int n) h1) (hn : (n : Int) < RB) : dRngI rng1 (dCons a dNil) env h = .ok (nxRng 0 1 n) h1 := by
  have e1 : dCons a dNil env h = .ok [.int n] h1 := dCons_ok e dNil_ok
  unfold dRngI
  rw [e1, Rs.bind_ok, rng1_ok hn, ofN_some]
/-! ## all, any -/
theorem blsOf_map : ∀ bs : List Bool, blsOf (bs.map D.bl) = some bs
  | [] => rfl
  | b :: bs => by simp [blsOf, blsOf_map bs]
theorem dAll_ok {f : Se} {env : Env} {h h1 : Hd} {bs : List Bool} (e : f env h = .ok (.ref h1.length) (h1 ++ [.lst (bs.map D.bl)])) (p : h <+: h1) : dCall cAll (dCons f dNil) env h = .ok (.bl (bs.all id)) h := by
  refine dCall_val (dCons_ok e dNil_ok) (h2 := h1 ++ [.lst (bs.map D.bl)]) ?_ (p.trans (List.prefix_append _ _)) (by simp [D.und])
  simp [cAll, one, seqD, seqAt, blsOf_map]
theorem dAny_ok {f : Se} {env : Env} {h h1 : Hd} {bs : List Bool} (e : f env h = .ok (.ref h1.length) (h1 ++ [.lst (bs.map D.bl)])) (p : h <+: h1) : dCall cAny (dCons f dNil) env h = .ok (.bl (bs.any id)) h := by
  refine dCall_val (dCons_ok e dNil_ok) (h2 := h1 ++ [.lst (bs.map D.bl)]) ?_ (p.trans (List.prefix_append _ _)) (by simp [D.und])
  simp [cAny, one, seqD, seqAt, blsOf_map]
end PN
namespace PN
open PySem L2 PyProof.Rows
/-! ## data of whole numbers and tuples -/
mutual
def D.it : D → Bool
  | .int _ => true
  | .tup l => D.itL l
  | .non => false
  | .bl _ => false
  | .str _ => false
  | .ref _ => false
def D.itL : List D → Bool
  | [] => true
  | d :: l => d.it && D.itL l
end
mutual
theorem it_und {b : Nat} : ∀ d : D, d.it = true → d.und b = true
  | .int _, _ => by simp [D.und]
  | .tup l, h => by simp only [D.und]; exact it_undL l (by simpa [D.it] using h)
  | .non, h => by simp [D.it] at h
  | .bl _, h => by simp [D.it] at h
  | .str _, h => by simp [D.it] at h
  | .ref _, h => by simp [D.it] at h
theorem it_undL {b : Nat} : ∀ l : List D, D.itL l = true → D.undL b l = true
  | [], _ => by simp [D.undL]
  | d :: l, h => by simp only [D.itL, Bool.and_eq_true] at h; simp [D.undL, it_und d h.1, it_undL l h.2]
end
mutual
theorem it_strs : ∀ d : D, d.it = true → d.strsOk = true
  | .int _, _ => by simp [D.strsOk]
  | .tup l, h => by simp only [D.strsOk]; exact it_strsL l (by simpa [D.it] using h)
  | .non, h => by simp [D.it] at h
  | .bl _, h => by simp [D.it] at h
  | .str _, h => by simp [D.it] at h
  | .ref _, h => by simp [D.it] at h
theorem it_strsL : ∀ l : List D, D.itL l = true → D.strsOkL l = true
  | [], _ => by simp [D.strsOkL]
  | d :: l, h => by simp only [D.itL, Bool.and_eq_true] at h; simp [D.strsOkL, it_strs d h.1, it_strsL l h.2]
end
mutual
theorem it_lay : ∀ d : D, d.it = true → d.py.canLay0 = true
  | .int _, _ => by simp [D.py, PyData.canLay0]
  | .tup l, h => by simp only [D.py, PyData.canLay0]; exact it_layL l (by simpa [D.it] using h)
  | .non, h => by simp [D.it] at h
  | .bl _, h => by simp [D.it] at h
  | .str _, h => by simp [D.it] at h
  | .ref _, h => by simp [D.it] at h
theorem it_layL : ∀ l : List D, D.itL l = true → PyData.canLayAll0 (D.pyL l) = true
  | [], _ => by simp [D.pyL, PyData.canLayAll0]
  | d :: l, h => by simp only [D.itL, Bool.and_eq_true] at h; simp [D.pyL, PyData.canLayAll0, it_lay d h.1, it_layL l h.2]
end
mutual
theorem it_eqv : ∀ a b : D, a.it = true → b.it = true → PyData.eqv a.py b.py = decide (a = b)
  | .int i, .int j, _, _ => by
    simp only [D.py, PyData.eqv, D.int.injEq]
    by_cases e : i = j <;> simp [e]
  | .int i, .tup l, _, _ => by simp [D.py, PyData.eqv]
  | .tup l, .int i, _, _ => by simp [D.py, PyData.eqv]
  | .tup l, .tup m, h1, h2 => by
    simp only [D.py, PyData.eqv, D.tup.injEq]
    exact it_eqvL l m (by simpa [D.it] using h1) (by simpa [D.it] using h2)
  | .non, _, h, _ => by simp [D.it] at h
  | .bl _, _, h, _ => by simp [D.it] at h
  | .str _, _, h, _ => by simp [D.it] at h
  | .ref _, _, h, _ => by simp [D.it] at h
  | _, .non, _, h => by simp [D.it] at h
  | _, .bl _, _, h => by simp [D.it] at h
  | _, .str _, _, h => by simp [D.it] at h
  | _, .ref _, _, h => by simp [D.it] at h
theorem it_eqvL : ∀ l m : List D, D.itL l = true → D.itL m = true → PyData.eqvAll (D.pyL l) (D.pyL m) = decide (l = m)
  | [], [], _, _ => by simp [D.pyL, PyData.eqvAll]
  | [], _ :: _, _, _ => by simp [D.pyL, PyData.eqvAll]
  | _ :: _, [], _, _ => by simp [D.pyL, PyData.eqvAll]
  | a :: l, b :: m, h1, h2 => by
    simp only [D.itL, Bool.and_eq_true] at h1 h2
    simp only [D.pyL, PyData.eqvAll, it_eqv a b h1.1 h2.1, it_eqvL l m h1.2 h2.2, List.cons.injEq]
    by_cases e : a = b <;> by_cases e2 : l = m <;> simp [e, e2]
end
theorem rd_it {h : Hd} {d : D} (j : Nat) (e : d.it = true) : rd h j d = some d.py := by
  have c : d.flat = true ∧ d.strsOk = true := ⟨it_und d e, it_strs d e⟩
  cases j <;> (unfold rd; rw [if_pos c])
theorem rdL_it {h : Hd} (j : Nat) : ∀ {l : List D}, D.itL l = true → rdL (rd h j) l = some (D.pyL l)
  | [], _ => rfl
  | d :: l, e => by
    simp only [D.itL, Bool.and_eq_true] at e
    simp [rdL, rd_it j e.1, rdL_it j e.2, D.pyL]
theorem rd_ref {h : Hd} {n : Nat} {l : List D} (j : Nat) (el : seqAt h n = some l) (e : D.itL l = true) : rd h (j + 1) (.ref n) = some (.list (D.pyL l)) := by
  have c : ¬ ((D.ref n).flat = true ∧ (D.ref n).strsOk = true) := by simp [D.flat, D.und]
  unfold rd
  rw [if_neg c]
  simp only [el, rdL_it j e, Option.map_some]
theorem shaped_it {d : D} (e : d.it = true) (hd : d.depth ≤ 60) : SeqAt.shaped d.py = true := by
  simp only [SeqAt.shaped, it_lay d e, Bool.true_and, decide_eq_true_eq, depth_py]; omega
theorem shaped_lst {l : List D} (e : D.itL l = true) (hd : D.depthL l ≤ 60) : SeqAt.shaped (.list (D.pyL l)) = true := by
  simp only [SeqAt.shaped, PyData.canLay0, it_layL l e, Bool.true_and, decide_eq_true_eq, PyData.depth, depth_pyL]; omega
theorem shaped_tup {l : List D} (e : D.itL l = true) (hd : D.depthL l ≤ 60) : SeqAt.shaped (.tuple (D.pyL l)) = true := by
  simp only [SeqAt.shaped, PyData.canLay0, it_layL l e, Bool.true_and, decide_eq_true_eq, PyData.depth, depth_pyL]; omega
theorem dEq_it {a b : D} {h : Hd} (ha : a.it = true) (hb : b.it = true) (da : a.depth ≤ 60) (db : b.depth ≤ 60) : dEq a b h = some (.bl (decide (a = b)), h) := by
  simp [dEq, dEqB, rd_it 3 ha, rd_it 3 hb, shaped_it ha da, shaped_it hb db, it_eqv a b ha hb]
theorem dNe_it {a b : D} {h : Hd} (ha : a.it = true) (hb : b.it = true) (da : a.depth ≤ 60) (db : b.depth ≤ 60) : dNe a b h = some (.bl (!decide (a = b)), h) := by
  simp [dNe, dEqB, rd_it 3 ha, rd_it 3 hb, shaped_it ha da, shaped_it hb db, it_eqv a b ha hb]
theorem dEq_lst {n m : Nat} {l l2 : List D} {h : Hd} (en : seqAt h n = some l) (em : seqAt h m = some l2) (hl : D.itL l = true) (hm : D.itL l2 = true) (dl : D.depthL l ≤ 60) (dm : D.depthL l2 ≤ 60) : dEq (.ref n) (.ref m) h = some (.bl (decide (l = l2)), h) := by
  simp [dEq, dEqB, rd_ref 2 en hl, rd_ref 2 em hm, shaped_lst hl dl, shaped_lst hm dm, PyData.eqv, it_eqvL l l2 hl hm]
theorem dNe_lst {n m : Nat} {l l2 : List D} {h : Hd} (en : seqAt h n = some l) (em : seqAt h m = some l2) (hl : D.itL l = true) (hm : D.itL l2 = true) (dl : D.depthL l ≤ 60) (dm : D.depthL l2 ≤ 60) : dNe (.ref n) (.ref m) h = some (.bl (!decide (l = l2)), h) := by
  simp [dNe, dEqB, rd_ref 2 en hl, rd_ref 2 em hm, shaped_lst hl dl, shaped_lst hm dm, PyData.eqv, it_eqvL l l2 hl hm]
theorem any_it {x : D} (hx : x.it = true) : ∀ {l : List D}, D.itL l = true → (D.pyL l).any (fun z => PyData.eqv z x.py) = decide (x ∈ l)
  | [], _ => by simp [D.pyL]
  | d :: l, e => by
    simp only [D.itL, Bool.and_eq_true] at e
    simp only [D.pyL, List.any_cons, it_eqv d x e.1 hx, any_it hx e.2, List.mem_cons]
    by_cases c : d = x
    · subst c; simp
    · have c' : ¬ x = d := fun z => c z.symm
      simp [c, c']
theorem in_tup {x : D} {l : List D} {h : Hd} (hx : x.it = true) (hl : D.itL l = true) (dx : x.depth ≤ 60) (dl : D.depthL l ≤ 60) : dInB x (.tup l) h = some (decide (x ∈ l)) := by
  have et : rd h 3 (.tup l) = some (.tuple (D.pyL l)) := rd_it (d := .tup l) 3 (by simpa [D.it] using hl)
  simp only [dInB, rd_it 3 hx, Option.bind_some, et]
  rw [if_pos ⟨shaped_it hx dx, shaped_tup hl dl⟩, any_it hx hl]
theorem in_lst {x : D} {n : Nat} {l : List D} {h : Hd} (en : lstAt h n = some l) (hx : x.it = true) (hl : D.itL l = true) (dx : x.depth ≤ 60) (dl : D.depthL l ≤ 60) : dInB x (.ref n) h = some (decide (x ∈ l)) := by
  have e1 := lstAt_eq en
  have ed : dicAt h n = none := by unfold dicAt; rw [e1]
  have es : seqAt h n = some l := by unfold seqAt; rw [e1]
  simp only [dInB, ed, rd_it 3 hx, Option.bind_some, rd_ref 2 es hl]
  rw [if_pos ⟨shaped_it hx dx, shaped_lst hl dl⟩, any_it hx hl]
theorem dIn_tup {x : D} {l : List D} {h : Hd} (hx : x.it = true) (hl : D.itL l = true) (dx : x.depth ≤ 60) (dl : D.depthL l ≤ 60) : dIn x (.tup l) h = some (.bl (decide (x ∈ l)), h) := by simp [dIn, in_tup hx hl dx dl]
theorem dIn_lst {x : D} {n : Nat} {l : List D} {h : Hd} (en : lstAt h n = some l) (hx : x.it = true) (hl : D.itL l = true) (dx : x.depth ≤ 60) (dl : D.depthL l ≤ 60) : dIn x (.ref n) h = some (.bl (decide (x ∈ l)), h) := by simp [dIn, in_lst en hx hl dx dl]
theorem dNotIn_lst {x : D} {n : Nat} {l : List D} {h : Hd} (en : lstAt h n = some l) (hx : x.it = true) (hl : D.itL l = true) (dx : x.depth ≤ 60) (dl : D.depthL l ≤ 60) : dNotIn x (.ref n) h = some (.bl (!decide (x ∈ l)), h) := by simp [dNotIn, in_lst en hx hl dx dl]
theorem itL_mem : ∀ {l : List D}, D.itL l = true ↔ ∀ d ∈ l, d.it = true
  | [] => by simp [D.itL]
  | d :: l => by simp [D.itL, itL_mem (l := l)]
theorem depthL_le {b : Nat} : ∀ {l : List D}, (∀ d ∈ l, d.depth ≤ b) → D.depthL l ≤ b
  | [], _ => by simp [D.depthL]
  | d :: l, h => by
    simp only [D.depthL]
    have h1 := h d List.mem_cons_self
    have h2 := depthL_le (b := b) (l := l) fun x hx => h x (List.mem_cons_of_mem _ hx)
    omega
/-! ## slices of tuples -/
theorem cut_from {α : Type} (l : List α) (k : Nat) : dCut l (some (k : Int)) none = l.drop k := by
  unfold dCut
  rw [HT.sIx_nat, HT.sIx_none]
  by_cases hk : k ≤ l.length
  · rw [Nat.min_eq_left hk, List.take_of_length_le (by simp)]
  · rw [Nat.min_eq_right (by omega), List.drop_eq_nil_of_le (Nat.le_refl _), List.drop_eq_nil_of_le (by omega)]; simp
theorem cut_to {α : Type} (l : List α) (k : Nat) : dCut l none (some (k : Int)) = l.take k := by
  unfold dCut
  rw [HT.sIx_nat, HT.sIx_none, Nat.sub_zero, List.drop_zero]
  by_cases hk : k ≤ l.length
  · rw [Nat.min_eq_left hk]
  · rw [Nat.min_eq_right (by omega), List.take_of_length_le (Nat.le_refl _), List.take_of_length_le (by omega)]
theorem nxZip_at {a b : List D} {h : Hd} (j : Nat) : nxZip (nxOf a) (nxOf b) j h = some ((List.zipWith (fun x y => D.tup [x, y]) a b)[j]?) := by
  simp only [nxZip, nxOf, List.getElem?_zipWith]
  cases a[j]? <;> cases b[j]? <;> rfl
theorem mem_zipWith {α β γ : Type} {f : α → β → γ} {z : γ} : ∀ {a : List α} {b : List β}, z ∈ List.zipWith f a b → ∃ x ∈ a, ∃ y ∈ b, z = f x y
  | [], _, h => by simp at h
  | _ :: _, [], h => by simp at h
  | x :: a, y :: b, h => by
    simp only [List.zipWith_cons_cons, List.mem_cons] at h
    rcases h with h | h
    · exact ⟨x, List.mem_cons_self, y, List.mem_cons_self, h⟩
    · obtain ⟨x', hx, y', hy, e⟩ := mem_zipWith h
      exact ⟨x', List.mem_cons_of_mem _ hx, y', List.mem_cons_of_mem _ hy, e⟩
end PN
namespace PN
open PySem L2 PyProof.Rows
/-! # plain reckoning of statements -/
theorem seq_nx {f g : Ss} {e e1 : Env} {h h1 : Hd} (a : f e h = .nx e1 h1) : dSeq f g e h = g e1 h1 := by simp only [dSeq, a, Ro.sq_nx]
theorem seq_rt {f g : Ss} {e : Env} {h h1 : Hd} {d : D} (a : f e h = .rt d h1) : dSeq f g e h = .rt d h1 := by simp only [dSeq, a, Ro.sq_rt]
theorem asg_n {f : Se} {i : Nat} {e : Env} {h h1 : Hd} {d : D} (a : f e h = .ok d h1) : dAsg f (dGn i) e h = .nx (e.set i (some d)) h1 := by simp only [dAsg, a, Rs.to_ok, dGn]
theorem ret_ok {f : Se} {e : Env} {h h1 : Hd} {d : D} (a : f e h = .ok d h1) : dRet f e h = .rt d h1 := by simp only [dRet, a, Rs.to_ok]
theorem drop_ok {f : Se} {e : Env} {h h1 : Hd} {d : D} (a : f e h = .ok d h1) : dDrop f e h = .nx e h1 := by simp only [dDrop, a, Rs.to_ok]
theorem if_t {t : St'} {f g : Ss} {e : Env} {h h1 : Hd} (a : t e h = .ok true h1) : dIfS t f g e h = f e h1 := by simp only [dIfS, a, Rs.to_ok, if_true]
theorem if_f {t : St'} {f g : Ss} {e : Env} {h h1 : Hd} (a : t e h = .ok false h1) : dIfS t f g e h = g e h1 := by simp only [dIfS, a, Rs.to_ok, Bool.false_eq_true, if_false]
theorem flag_ok {f : Se} {e : Env} {h h1 : Hd} {b : Bool} (a : f e h = .ok (.bl b) h1) : dFlag f e h = .ok b h1 := by simp only [dFlag, a, Rs.bind_ok]
theorem bin_ok {g : Op2} {fa fb : Se} {e : Env} {h h1 h2 h3 : Hd} {x y d : D} (a : fa e h = .ok x h1) (b : fb e h1 = .ok y h2) (c : g x y h2 = some (d, h3)) : dBin g fa fb e h = .ok d h3 := by
  simp only [dBin, a, Rs.bind_ok, b, c, ofO]
theorem tru_bl {f : Se} {e : Env} {h h1 : Hd} {b : Bool} (a : f e h = .ok (.bl b) h1) : dTru f e h = .ok b h1 := by simp [dTru, a, truB, ofB]
theorem notT_ok {t : St'} {e : Env} {h h1 : Hd} {b : Bool} (a : t e h = .ok b h1) : dNotT t e h = .ok (!b) h1 := by simp only [dNotT, a, Rs.bind_ok]
theorem orT_t {t u : St'} {e : Env} {h h1 : Hd} (a : t e h = .ok true h1) : dOrT t u e h = .ok true h1 := by simp only [dOrT, a, Rs.bind_ok, if_true]
theorem orT_f {t u : St'} {e : Env} {h h1 : Hd} (a : t e h = .ok false h1) : dOrT t u e h = u e h1 := by simp only [dOrT, a, Rs.bind_ok, Bool.false_eq_true, if_false]
theorem and_t {f g : Se} {e : Env} {h h1 : Hd} (a : f e h = .ok (.bl true) h1) : dAnd f g e h = g e h1 := by simp [dAnd, a, truB]
theorem and_f {f g : Se} {e : Env} {h h1 : Hd} (a : f e h = .ok (.bl false) h1) : dAnd f g e h = .ok (.bl false) h1 := by simp [dAnd, a, truB]
theorem tup_ok {g : Sa} {e : Env} {h h1 : Hd} {l : List D} (a : g e h = .ok l h1) (hz : l.length ≤ BIG) : dTup g e h = .ok (.tup l) h1 := by simp only [dTup, a, Rs.bind_ok, hz, if_true]
theorem lst_ok {g : Sa} {e : Env} {h h1 : Hd} {l : List D} (a : g e h = .ok l h1) (hz : l.length ≤ BIG) : dLst g e h = .ok (.ref h1.length) (h1 ++ [.lst l]) := by simp only [dLst, a, Rs.bind_ok, hz, if_true]
theorem meth_ok {t : MT} {g : OpM} {fo : Se} {fs : Sa} {e : Env} {h h1 h2 h3 : Hd} {o d : D} {l : List D} (a : fo e h = .ok o h1) (b : tyIs t o h1 = true) (c : fs e h1 = .ok l h2) (q : g o l h2 = some (d, h3)) : dMeth t g fo fs e h = .ok d h3 := by
  simp only [dMeth, a, Rs.bind_ok, b, if_true, c, q, ofO]
theorem meth0_ok {t : MT} {g : OpM} {fo : Se} {e : Env} {h h1 h3 : Hd} {o d : D} (a : fo e h = .ok o h1) (b : tyIs t o h1 = true) (q : g o [] h1 = some (d, h3)) : dMeth0 t g fo e h = .ok d h3 := by
  simp only [dMeth0, a, Rs.bind_ok, b, if_true, q, ofO]
theorem mOf_rt {N : Nat} {b : Ss} {ds : List D} {h h1 : Hd} {d : D} (a : b (ds.map some ++ List.replicate (N - ds.length) none) h = .rt d h1) : mOf N b ds h = .ok d h1 := by simp only [mOf, a, fnEnd]
theorem mOf_nx {N : Nat} {b : Ss} {ds : List D} {h h1 : Hd} {e : Env} (a : b (ds.map some ++ List.replicate (N - ds.length) none) h = .nx e h1) : mOf N b ds h = .ok .non h1 := by simp only [mOf, a, fnEnd]
/-! ## loops -/
/-- a loop with an early end: R -/
theorem fo_inv {nx : Nx} {g : Sg} {b : Ss} {l : List D} {P : Nat → Env → Hd → Prop} {R : D → Hd → Prop} (hx : ∀ j e h, P j e h → nx j h = some l[j]?)
    (step : ∀ j d e h, l[j]? = some d → P j e h → ∃ e1 h1, g d e h = .nx e1 h1 ∧ ((∃ e2 h2, b e1 h1 = .nx e2 h2 ∧ P (j + 1) e2 h2) ∨ ∃ r h2, b e1 h1 = .rt r h2 ∧ R r h2)) :
    ∀ n j e h, l.length - j < n → P j e h → (∃ e' h', dFo nx g b n j e h = .nx e' h' ∧ ∃ j', l.length ≤ j' ∧ P j' e' h' ∧ j' = max j l.length) ∨ ∃ r h', dFo nx g b n j e h = .rt r h' ∧ R r h'
  | 0, j, e, h, hn, _ => absurd hn (by omega)
  | n + 1, j, e, h, hn, p => by
    unfold dFo
    rw [hx j e h p]
    by_cases hj : j < l.length
    · have ej := List.getElem?_eq_getElem hj
      rw [ej]
      obtain ⟨e1, h1, eg, q⟩ := step j _ e h ej p
      simp only [eg, Ro.sg_nx]
      rcases q with ⟨e2, h2, eb, q⟩ | ⟨r, h2, eb, q⟩
      · rw [eb, Ro.lp_nx]
        rcases fo_inv hx step n (j + 1) e2 h2 (by omega) q with ⟨e', h', w, j', a1, a2, a3⟩ | w
        · exact .inl ⟨e', h', w, j', a1, a2, by omega⟩
        · exact .inr w
      · rw [eb, Ro.lp_rt]
        exact .inr ⟨r, h2, rfl, q⟩
    · rw [List.getElem?_eq_none (by omega)]
      exact .inl ⟨e, h, rfl, j, by omega, p, by omega⟩
theorem for_ret {s : Si} {g : Sg} {b : Ss} {env : Env} {h h1 : Hd} {nx : Nx} {l : List D} {P : Nat → Env → Hd → Prop} {R : D → Hd → Prop} (hs : s env h = .ok nx h1) (h0 : P 0 env h1) (hx : ∀ j e h, P j e h → nx j h = some l[j]?) (hz : l.length < BIG)
    (step : ∀ j d e h, l[j]? = some d → P j e h → ∃ e1 h1, g d e h = .nx e1 h1 ∧ ((∃ e2 h2, b e1 h1 = .nx e2 h2 ∧ P (j + 1) e2 h2) ∨ ∃ r h2, b e1 h1 = .rt r h2 ∧ R r h2)) :
    (∃ e' h', dFor s g b env h = .nx e' h' ∧ P l.length e' h') ∨ ∃ r h', dFor s g b env h = .rt r h' ∧ R r h' := by
  simp only [dFor, hs, Rs.to_ok]
  rcases fo_inv (R := R) hx step BIG 0 env h1 (by omega) h0 with ⟨e', h', w, j', a1, a2, a3⟩ | w
  · have : j' = l.length := by omega
    subst this
    exact .inl ⟨e', h', w, a2⟩
  · exact .inr w
theorem for_inv {s : Si} {g : Sg} {b : Ss} {env : Env} {h h1 : Hd} {nx : Nx} {l : List D} {P : Nat → Env → Hd → Prop} (hs : s env h = .ok nx h1) (h0 : P 0 env h1) (hx : ∀ j e h, P j e h → nx j h = some l[j]?) (hz : l.length < BIG)
    (step : ∀ j d e h, l[j]? = some d → P j e h → ∃ e1 h1, g d e h = .nx e1 h1 ∧ ∃ e2 h2, b e1 h1 = .nx e2 h2 ∧ P (j + 1) e2 h2) :
    ∃ e' h', dFor s g b env h = .nx e' h' ∧ P l.length e' h' := by
  rcases for_ret (R := fun _ _ => False) hs h0 hx hz fun j d e h ej p => by
    obtain ⟨e1, h1, a, e2, h2, b, q⟩ := step j d e h ej p
    exact ⟨e1, h1, a, .inl ⟨e2, h2, b, q⟩⟩ with w | ⟨_, _, _, q⟩
  · exact w
  · exact q.elim
theorem wh_inv {c : St'} {b : Ss} {P : Nat → Env → Hd → Prop} {Q : Env → Hd → Prop}
    (step : ∀ m e h, P m e h → (∃ h1, c e h = .ok false h1 ∧ Q e h1) ∨ ∃ h1 e2 h2 m', c e h = .ok true h1 ∧ b e h1 = .nx e2 h2 ∧ m' < m ∧ P m' e2 h2) :
    ∀ n m e h, m < n → P m e h → ∃ e' h', dWh c b n e h = .nx e' h' ∧ Q e' h'
  | 0, m, e, h, hn, _ => absurd hn (by omega)
  | n + 1, m, e, h, hn, p => by
    unfold dWh
    rcases step m e h p with ⟨h1, ec, q⟩ | ⟨h1, e2, h2, m', ec, eb, hm, q⟩
    · simp only [ec, Rs.to_ok, Bool.false_eq_true, if_false]
      exact ⟨e, h1, rfl, q⟩
    · simp only [ec, Rs.to_ok, if_true, eb, Ro.lp_nx]
      exact wh_inv step n m' e2 h2 (by omega) q
theorem while_inv {c : St'} {b : Ss} {P : Nat → Env → Hd → Prop} {Q : Env → Hd → Prop} {m : Nat} {env : Env} {h : Hd} (h0 : P m env h) (hm : m < BIG)
    (step : ∀ m e h, P m e h → (∃ h1, c e h = .ok false h1 ∧ Q e h1) ∨ ∃ h1 e2 h2 m', c e h = .ok true h1 ∧ b e h1 = .nx e2 h2 ∧ m' < m ∧ P m' e2 h2) :
    ∃ e' h', dWhile c b env h = .nx e' h' ∧ Q e' h' := wh_inv step BIG m env h hm h0
/-! ## the heap -/
theorem lstAt_of {h : Hd} {n : Nat} {l : List D} (e : h[n]? = some (.lst l)) : lstAt h n = some l := by unfold lstAt; rw [e]
theorem seqAt_of {h : Hd} {n : Nat} {l : List D} (e : h[n]? = some (.lst l)) : seqAt h n = some l := by unfold seqAt; rw [e]
theorem dicAt_of {h : Hd} {n : Nat} {l : List (D × D)} (e : h[n]? = some (.dic l)) : dicAt h n = some l := by unfold dicAt; rw [e]
theorem pre_set {h h' : Hd} {n : Nat} {o : Ob} (p : h <+: h') (hn : h.length ≤ n) : h <+: h'.set n o := by
  obtain ⟨t, rfl⟩ := p
  rw [List.set_append_right _ _ hn]
  exact List.prefix_append _ _
theorem pre_app {h h' t : Hd} (p : h <+: h') : h <+: h' ++ t := p.trans (List.prefix_append _ _)
theorem pre_at {h h' : Hd} {n : Nat} {o : Ob} (p : h <+: h') (e : h[n]? = some o) : h'[n]? = some o := by
  obtain ⟨t, rfl⟩ := p
  rw [List.getElem?_append_left (List.getElem?_eq_some_iff.mp e).1]; exact e
theorem app_at {h t : Hd} {n : Nat} {o : Ob} (e : h[n]? = some o) : (h ++ t)[n]? = some o := pre_at (List.prefix_append _ _) e
theorem new_at {h : Hd} {o : Ob} : (h ++ [o])[h.length]? = some o := by simp
theorem set_at {h : Hd} {n : Nat} {o o' : Ob} (e : h[n]? = some o) : (h.set n o')[n]? = some o' := by
  have := (List.getElem?_eq_some_iff.mp e).1
  simp [this]
theorem set_ne {h : Hd} {n m : Nat} {o o' : Ob} (hn : n ≠ m) (e : h[m]? = some o) : (h.set n o')[m]? = some o := by
  rw [List.getElem?_set_ne hn]; exact e
theorem lt_at {h : Hd} {n : Nat} {o : Ob} (e : h[n]? = some o) : n < h.length := (List.getElem?_eq_some_iff.mp e).1
theorem append_ok {h : Hd} {n : Nat} {l : List D} {d : D} (e : h[n]? = some (.lst l)) (hz : l.length < BIG) : mAppend (.ref n) [d] h = some (.non, h.set n (.lst (l ++ [d]))) := by
  simp only [mAppend, lstAt_of e, Option.bind_some, hz, if_true]
theorem extend_ok {h : Hd} {n m : Nat} {l l2 : List D} (e : h[n]? = some (.lst l)) (e2 : h[m]? = some (.lst l2)) (hz : l.length + l2.length ≤ BIG) : mExtend (.ref n) [.ref m] h = some (.non, h.set n (.lst (l ++ l2))) := by
  simp only [mExtend, lstAt_of e, lstAt_of e2, Option.bind_some, hz, if_true]
theorem ty_lst {h : Hd} {n : Nat} {l : List D} (e : h[n]? = some (.lst l)) : tyIs .list (.ref n) h = true := by simp [tyIs, seqAt_of e]
theorem sort_lst {f : Se} {env : Env} {h h1 : Hd} {n : Nat} {l : List D} (e : f env h = .ok (.ref n) h1) (p : h <+: h1) (el : h1[n]? = some (.lst l)) (s : sortableB l = true) (hz : l.length ≤ BIG) (u : D.undL h.length (l.mergeSort leD) = true) :
    dCall cSort (dCons f dNil) env h = .ok (.ref h.length) (h ++ [.lst (l.mergeSort leD)]) := by
  refine dCall_lst (dCons_ok e dNil_ok) (h2 := h1 ++ [.lst (l.mergeSort leD)]) (j := h1.length) ?_ (pre_app p) p.length_le new_at u
  simp only [cSort, one, seqD, seqAt_of el, Option.bind_some]
  rw [if_pos ⟨s, hz⟩]
theorem len_tup {f : Se} {env : Env} {h h1 : Hd} {l : List D} (e : f env h = .ok (.tup l) h1) (p : h <+: h1) (hz : l.length ≤ BIG) : dCall cLen (dCons f dNil) env h = .ok (.int l.length) h := by
  refine dCall_val (dCons_ok e dNil_ok) (h2 := h1) ?_ p (by simp [D.und])
  simp [cLen, one, lenD, hz]
theorem len_lst {f : Se} {env : Env} {h h1 : Hd} {n : Nat} {l : List D} (e : f env h = .ok (.ref n) h1) (p : h <+: h1) (el : h1[n]? = some (.lst l)) (hz : l.length ≤ BIG) : dCall cLen (dCons f dNil) env h = .ok (.int l.length) h := by
  refine dCall_val (dCons_ok e dNil_ok) (h2 := h1) ?_ p (by simp [D.und])
  simp [cLen, one, lenD, seqAt_of el, hz]
/-! ## range -/
theorem rb_lt {n : Nat} (h : n ≤ 1000) : (n : Int) < RB := Int.lt_of_le_of_lt (show (n : Int) ≤ 1000 by omega) (by decide)
theorem rb_neg : -RB ≤ (0 : Int) := by decide
theorem rb_pos : (0 : Int) < RB := by decide
theorem rg_ok {n : Nat} (h : n ≤ 1000) : rgOk 0 n := by
  have e : ((n : Int) - 0).toNat ≤ BIG := by
    rw [Int.sub_zero, Int.toNat_natCast]
    exact Nat.le_trans h (by decide)
  exact And.intro rb_neg (And.intro rb_pos (And.intro (Int.le_trans rb_neg (Int.natCast_nonneg n)) (And.intro (rb_lt h) e)))
theorem lrg_raw {f : Se} {env : PN.Env} {h h1 : Hd} {i : Int} (e : f env h = .ok (.int i) h1) (c : rgOk 0 i) : dLRg f env h = .ok (.ref h1.length) (h1 ++ [.lst (rgD 0 i)]) := by
  unfold dLRg
  rw [e, Rs.bind_ok]
  exact if_pos c
theorem rgD_nat (n : Nat) : rgD 0 n = (List.range n).map fun i => D.int (i : Nat) := by
    unfold rgD
    rw [Int.sub_zero, Int.toNat_natCast]
    exact List.map_congr_left fun i _ => by rw [Int.zero_add]
end PN
namespace PN
open PySem L2 PyProof.Rows
/-! # dicts, plainly: the keys in order, what each has -/
def mp (K : List D) (A : D → D) : List (D × D) := K.map fun v => (v, A v)
def upd1 (A : D → D) (x y : D) : D → D := fun v => if v = x then y else A v
theorem mp_len {K : List D} {A : D → D} : (mp K A).length = K.length := by simp [mp]
theorem mp_congr {K : List D} {A A' : D → D} (h : ∀ v ∈ K, A v = A' v) : mp K A = mp K A' := List.map_congr_left fun v hv => by rw [h v hv]
theorem mp_look {A : D → D} {x : D} : ∀ {K : List D}, x ∈ K → dlook (mp K A) x = some (A x)
  | a :: K, h => by
    by_cases c : a = x
    · subst c; simp [mp, dlook]
    · have h' : x ∈ K := by
        rcases List.mem_cons.mp h with e | e
        · exact absurd e.symm c
        · exact e
      have := mp_look (A := A) h'
      simp only [mp, dlook, List.map_cons, List.find?_cons, c, decide_false] at this ⊢
      exact this
theorem mp_any {A : D → D} {x : D} {K : List D} : ((mp K A).any fun kv => decide (kv.1 = x)) = decide (x ∈ K) := by
  induction K with
  | nil => simp [mp]
  | cons a K ih =>
    simp only [mp, List.map_cons, List.any_cons, List.mem_cons] at ih ⊢
    rw [ih]
    by_cases c : a = x
    · simp [c]
    · have : ¬ x = a := fun e => c e.symm
      simp [c, this]
theorem mp_put {A : D → D} {x y : D} {K : List D} (h : x ∈ K) : dput (mp K A) x y = mp K (upd1 A x y) := by
  unfold dput
  rw [mp_any, if_pos (by simpa using h)]
  unfold mp
  rw [List.map_map]
  exact List.map_congr_left fun v _ => by
    by_cases c : v = x <;> simp [c, upd1]
theorem mp_new {A : D → D} {x : D} {K : List D} (h : x ∉ K) : dput (mp K A) x (A x) = mp (K ++ [x]) A := by
  unfold dput
  rw [mp_any, if_neg (by simpa using h)]
  simp [mp]
theorem fits_t {K : List D} {A : D → D} {x : D} (hx : (tkeyOf x).isSome = true) (hK : ∀ v ∈ K, (tkeyOf v).isSome = true) : keyFits (mp K A) x = true := by
  have : keysT (mp K A) = true := by
    simp only [keysT, mp, List.all_map, List.all_eq_true, Function.comp]
    exact hK
  simp [keyFits, hx, this]
theorem fits_k {K : List D} {A : D → D} {x : D} (hx : (keyOf x).isSome = true) (hK : ∀ v ∈ K, (keyOf v).isSome = true) : keyFits (mp K A) x = true := by
  have : keysK (mp K A) = true := by
    simp only [keysK, mp, List.all_map, List.all_eq_true, Function.comp]
    exact hK
  simp [keyFits, hx, this]
theorem seqAt_dic {h : Hd} {n : Nat} {l : List (D × D)} (e : h[n]? = some (.dic l)) : seqAt h n = none := by unfold seqAt; rw [e]
theorem item_dic {h : Hd} {n : Nat} {K : List D} {A : D → D} {x : D} (e : h[n]? = some (.dic (mp K A))) (f : keyFits (mp K A) x = true) (hx : x ∈ K) : dItem (.ref n) x h = some (A x, h) := by
  have e1 : dItem (.ref n) x h = (dicAt h n).bind fun kvs => if keyFits kvs x = true then (dlook kvs x).map fun d => (d, h) else none := by
    show (match seqAt h n with
    | some l => match x with
      | .int i => (atI l i).map fun d => (d, h)
      | _ => none
    | none => (dicAt h n).bind fun kvs => if keyFits kvs x = true then (dlook kvs x).map fun d => (d, h) else none) = _
    rw [seqAt_dic e]
  rw [e1, dicAt_of e, Option.bind_some, if_pos f, mp_look hx, Option.map_some]
theorem set_dic {h : Hd} {n : Nat} {K : List D} {A : D → D} {x y : D} (e : h[n]? = some (.dic (mp K A))) (f : keyFits (mp K A) x = true) (hx : x ∈ K) (hz : K.length < BIG) : setD (.ref n) x y h = some (h.set n (.dic (mp K (upd1 A x y)))) := by
  unfold setD
  simp only [e]
  rw [if_pos ⟨f, by rw [mp_len]; exact hz⟩, mp_put hx]
theorem len_dic {f : Se} {env : Env} {h h1 : Hd} {n : Nat} {l : List (D × D)} (e : f env h = .ok (.ref n) h1) (p : h <+: h1) (el : h1[n]? = some (.dic l)) : dCall cLen (dCons f dNil) env h = .ok (.int l.length) h := by
  refine dCall_val (dCons_ok e dNil_ok) (h2 := h1) ?_ p (by simp [D.und])
  simp [cLen, one, lenD, seqAt_dic el, dicAt_of el]
/-! ## dict comprehensions -/
theorem dcI_run {nx : Nx} {g : Sg} {fk fv : Se} {env : Env} {h : Hd} {l : List D} {S : Nat → List (D × D)} (E : D → Env) (Fk Fv : D → D) (hx : ∀ j, nx j h = some l[j]?) (hg : ∀ d ∈ l, g d env h = .nx (E d) h) (hk : ∀ d ∈ l, fk (E d) h = .ok (Fk d) h) (hv : ∀ d ∈ l, fv (E d) h = .ok (Fv d) h)
    (hS : ∀ j d, l[j]? = some d → keyFits (S j) (Fk d) = true ∧ (S j).length < BIG ∧ dput (S j) (Fk d) (Fv d) = S (j + 1)) : ∀ n j, j ≤ l.length → l.length - j < n → dDcI nx g dYes fk fv env n j (S j) h = .ok (S l.length) h
  | 0, j, _, hn => absurd hn (by omega)
  | n + 1, j, hj', hn => by
    unfold dDcI
    rw [hx j]
    by_cases hj : j < l.length
    · have ej := List.getElem?_eq_getElem hj
      have hm : l[j] ∈ l := List.getElem_mem hj
      obtain ⟨a, b, c⟩ := hS j _ ej
      rw [ej]
      simp only [hg _ hm, dYes, Rs.ne_ok, Rs.bind_ok, if_true, hk _ hm, hv _ hm]
      rw [if_pos ⟨a, b⟩, c]
      exact dcI_run E Fk Fv hx hg hk hv hS n (j + 1) hj (by omega)
    · rw [List.getElem?_eq_none (by omega)]
      have : j = l.length := by omega
      subst this; rfl
theorem dc_run {s : Si} {g : Sg} {fk fv : Se} {vs : List Nat} {env : Env} {h h1 : Hd} {nx : Nx} {l : List D} {S : Nat → List (D × D)} (E : D → Env) (Fk Fv : D → D) (hs : s env h = .ok nx h1) (hx : ∀ j, nx j h1 = some l[j]?) (hz : l.length < BIG) (hg : ∀ d ∈ l, g d (wipeE env vs) h1 = .nx (E d) h1)
    (hk : ∀ d ∈ l, fk (E d) h1 = .ok (Fk d) h1) (hv : ∀ d ∈ l, fv (E d) h1 = .ok (Fv d) h1) (h0 : S 0 = [])
    (hS : ∀ j d, l[j]? = some d → keyFits (S j) (Fk d) = true ∧ (S j).length < BIG ∧ dput (S j) (Fk d) (Fv d) = S (j + 1)) : dDc s g dYes fk fv vs env h = .ok (.ref h1.length) (h1 ++ [.dic (S l.length)]) := by
  simp only [dDc, hs, Rs.bind_ok]
  rw [← h0, dcI_run E Fk Fv hx hg hk hv hS BIG 0 (Nat.zero_le _) (by omega)]
  rfl
theorem dcO_run {nx : Nx} {g : Sg} {s1 : Si} {g1 : Sg} {fk fv : Se} {env : Env} {vs1 : List Nat} {h : Hd} {l : List D} {S : Nat → List (D × D)} (E : D → Env) (hx : ∀ j, nx j h = some l[j]?) (hg : ∀ d ∈ l, g d env h = .nx (E d) h)
    (hS : ∀ j d, l[j]? = some d → ∃ nx1, s1 (E d) h = .ok nx1 h ∧ dDcI nx1 g1 dYes fk fv (wipeE (E d) vs1) BIG 0 (S j) h = .ok (S (j + 1)) h) : ∀ n j, j ≤ l.length → l.length - j < n → dDcO nx g dYes s1 g1 dYes fk fv env vs1 n j (S j) h = .ok (S l.length) h
  | 0, j, _, hn => absurd hn (by omega)
  | n + 1, j, hj', hn => by
    unfold dDcO
    rw [hx j]
    by_cases hj : j < l.length
    · have ej := List.getElem?_eq_getElem hj
      have hm : l[j] ∈ l := List.getElem_mem hj
      obtain ⟨nx1, a, b⟩ := hS j _ ej
      rw [ej]
      simp only [hg _ hm]
      have y : (dYes (E l[j]) h).ne = .ok true h := rfl
      simp only [y, Rs.bind_ok, if_true, a, Rs.ne_ok, b]
      exact dcO_run E hx hg hS n (j + 1) hj (by omega)
    · rw [List.getElem?_eq_none (by omega)]
      have : j = l.length := by omega
      subst this; rfl
theorem dc2_run {s : Si} {g : Sg} {s1 : Si} {g1 : Sg} {fk fv : Se} {vs vs1 : List Nat} {env : Env} {h h1 : Hd} {nx : Nx} {l : List D} {S : Nat → List (D × D)} (E : D → Env) (hs : s env h = .ok nx h1) (hx : ∀ j, nx j h1 = some l[j]?) (hz : l.length < BIG) (hg : ∀ d ∈ l, g d (wipeE env vs) h1 = .nx (E d) h1) (h0 : S 0 = [])
    (hS : ∀ j d, l[j]? = some d → ∃ nx1, s1 (E d) h1 = .ok nx1 h1 ∧ dDcI nx1 g1 dYes fk fv (wipeE (E d) vs1) BIG 0 (S j) h1 = .ok (S (j + 1)) h1) : dDc2 s g dYes s1 g1 dYes fk fv vs vs1 env h = .ok (.ref h1.length) (h1 ++ [.dic (S l.length)]) := by
  simp only [dDc2, hs, Rs.bind_ok]
  rw [← h0, dcO_run E hx hg hS BIG 0 (Nat.zero_le _) (by omega)]
  rfl
end PN
namespace PN
open PySem L2 PyProof.Rows
/-! # what follows of a reading, from the end backwards -/
@[irreducible] def Rs.wp {α : Type} (r : Rs α) (Q : α → Hd → Prop) (E : Ex → Hd → Prop) : Prop := match r with
  | .ok a h => Q a h
  | .err x h => E x h
  | .bad => False
/-- loops' other ends, errors -/
structure Lx where
  bk : Env → Hd → Prop
  ct : Env → Hd → Prop
  xc : Ex → Env → Hd → Prop
def L0 : Lx := ⟨fun _ _ => False, fun _ _ => False, fun _ _ _ => False⟩
@[irreducible] def Ro.wp (r : Ro) (N : Env → Hd → Prop) (R : D → Hd → Prop) (L : Lx) : Prop := match r with
  | .nx e h => N e h
  | .rt d h => R d h
  | .bk e h => L.bk e h
  | .ct e h => L.ct e h
  | .xc x e h => L.xc x e h
  | .bad => False
section
variable {α β : Type} {Q : α → Hd → Prop} {E : Ex → Hd → Prop} {r : Rs α} {h : Hd} {e : Env} {N : Env → Hd → Prop} {R : D → Hd → Prop} {L : Lx}
theorem Rs.wp_ok {a : α} (q : Q a h) : (Rs.ok a h).wp Q E := by unfold Rs.wp; exact q
theorem Rs.wp_er {a : Ex} (q : E a h) : (Rs.err a h).wp Q E := by unfold Rs.wp; exact q
theorem Rs.ok_wp {a : α} (q : (Rs.ok a h).wp Q E) : Q a h := by unfold Rs.wp at q; exact q
theorem Rs.er_wp {a : Ex} (q : (Rs.err a h).wp Q E) : E a h := by unfold Rs.wp at q; exact q
theorem Rs.bad_wp (q : (Rs.bad : Rs α).wp Q E) : False := by unfold Rs.wp at q; exact q
theorem w_nx (w : N e h) : (Ro.nx e h).wp N R L := by unfold Ro.wp; exact w
theorem w_rt {d : D} (w : R d h) : (Ro.rt d h).wp N R L := by unfold Ro.wp; exact w
theorem w_xc {x : Ex} (w : L.xc x e h) : (Ro.xc x e h).wp N R L := by unfold Ro.wp; exact w
theorem nx_w (w : (Ro.nx e h).wp N R L) : N e h := by unfold Ro.wp at w; exact w
theorem rt_w {d : D} (w : (Ro.rt d h).wp N R L) : R d h := by unfold Ro.wp at w; exact w
theorem bk_w (w : (Ro.bk e h).wp N R L) : L.bk e h := by unfold Ro.wp at w; exact w
theorem ct_w (w : (Ro.ct e h).wp N R L) : L.ct e h := by unfold Ro.wp at w; exact w
theorem xc_w {x : Ex} (w : (Ro.xc x e h).wp N R L) : L.xc x e h := by unfold Ro.wp at w; exact w
theorem bad_w (w : Ro.bad.wp N R L) : False := by unfold Ro.wp at w; exact w
theorem w_bk (w : L.bk e h) : (Ro.bk e h).wp N R L := by unfold Ro.wp; exact w
theorem w_ct (w : L.ct e h) : (Ro.ct e h).wp N R L := by unfold Ro.wp; exact w
theorem Rs.wp_mono {Q' : α → Hd → Prop} {E' : Ex → Hd → Prop} (w : r.wp Q E) (q : ∀ a h, Q a h → Q' a h) (x : ∀ a h, E a h → E' a h) : r.wp Q' E' := by
  cases r with
  | ok a h => exact Rs.wp_ok (q _ _ (Rs.ok_wp w))
  | err a h => exact Rs.wp_er (x _ _ (Rs.er_wp w))
  | bad => exact (Rs.bad_wp w).elim
theorem Rs.wp_bind {g : α → Hd → Rs β} {Q : β → Hd → Prop} (w : r.wp (fun a h => (g a h).wp Q E) E) : (r.bind g).wp Q E := by
  cases r with
  | ok a h => exact Rs.ok_wp w
  | err a h => exact Rs.wp_er (Rs.er_wp w)
  | bad => exact (Rs.bad_wp w).elim
theorem Rs.wp_to {f : α → Hd → Ro} (w : r.wp (fun a h => (f a h).wp N R L) (fun x h => L.xc x e h)) : (r.to e f).wp N R L := by
  cases r with
  | ok a h => exact Rs.ok_wp w
  | err a h => exact w_xc (Rs.er_wp w)
  | bad => exact (Rs.bad_wp w).elim
theorem Rs.wp_eq {v : α} {h1 : Hd} (w : r.wp (fun a h => a = v ∧ h = h1) (fun _ _ => False)) : r = .ok v h1 := by
  cases r with
  | ok a h => obtain ⟨rfl, rfl⟩ := Rs.ok_wp w; rfl
  | err a h => exact (Rs.er_wp w).elim
  | bad => exact (Rs.bad_wp w).elim
theorem Rs.wp_of {v : α} {h1 : Hd} (e : r = .ok v h1) (q : Q v h1) : r.wp Q E := by rw [e]; exact Rs.wp_ok q
theorem Rs.wp_ex {P : α → Hd → Prop} (w : r.wp P (fun _ _ => False)) : ∃ v h1, r = .ok v h1 ∧ P v h1 := by
  cases r with
  | ok a h => exact ⟨a, h, rfl, Rs.ok_wp w⟩
  | err a h => exact (Rs.er_wp w).elim
  | bad => exact (Rs.bad_wp w).elim
theorem Ro.wp_mono {r : Ro} {N' : Env → Hd → Prop} {R' : D → Hd → Prop} {L' : Lx} (w : r.wp N R L) (n : ∀ e h, N e h → N' e h) (t : ∀ d h, R d h → R' d h) (b : ∀ e h, L.bk e h → L'.bk e h) (c : ∀ e h, L.ct e h → L'.ct e h) (x : ∀ a e h, L.xc a e h → L'.xc a e h) : r.wp N' R' L' := by
  cases r with
  | nx e h => exact w_nx (n _ _ (nx_w w))
  | rt d h => exact w_rt (t _ _ (rt_w w))
  | bk e h => exact w_bk (b _ _ (bk_w w))
  | ct e h => exact w_ct (c _ _ (ct_w w))
  | xc a e h => exact w_xc (x _ _ _ (xc_w w))
  | bad => exact (bad_w w).elim
/-! ## statements -/
variable {f g : Ss} {fx : Se} {gs : Sg} {d : D} {i : Nat} {t : St'}
theorem w_skip (q : N e h) : (dSkip e h).wp N R L := w_nx q
theorem w_seq (w : (f e h).wp (fun e' h' => (g e' h').wp N R L) R L) : (dSeq f g e h).wp N R L := by
  unfold dSeq
  cases z : f e h <;> rw [z] at w
  · exact nx_w w
  · exact w_rt (rt_w w)
  · exact w_bk (bk_w w)
  · exact w_ct (ct_w w)
  · exact w_xc (xc_w w)
  · exact (bad_w w).elim
theorem w_asg (w : (fx e h).wp (fun d h1 => (gs d e h1).wp N R L) (fun x h1 => L.xc x e h1)) : (dAsg fx gs e h).wp N R L := Rs.wp_to w
theorem w_drop (w : (fx e h).wp (fun _ h1 => N e h1) (fun x h1 => L.xc x e h1)) : (dDrop fx e h).wp N R L := Rs.wp_to (Rs.wp_mono w (fun _ _ q => w_nx q) fun _ _ q => q)
theorem w_ret (w : (fx e h).wp R (fun x h1 => L.xc x e h1)) : (dRet fx e h).wp N R L := Rs.wp_to (Rs.wp_mono w (fun _ _ q => w_rt q) fun _ _ q => q)
theorem w_retN (w : R .non h) : (dRetN e h).wp N R L := w_rt w
theorem w_brk (w : L.bk e h) : (dBreak e h).wp N R L := w_bk w
theorem w_cnt (w : L.ct e h) : (dCont e h).wp N R L := w_ct w
theorem w_if (w : (t e h).wp (fun b h1 => (if b = true then f e h1 else g e h1).wp N R L) (fun x h1 => L.xc x e h1)) : (dIfS t f g e h).wp N R L := Rs.wp_to w
theorem w_gn {e' : Env} (he : e.set i (some d) = e') (w : N e' h) : (dGn i d e h).wp N R L := by subst he; exact w_nx w
theorem Ro.sg_wp {r : Ro} (w : r.wp (fun e' h' => (f e' h').wp N R L) (fun _ _ => False) ⟨fun _ _ => False, fun _ _ => False, L.xc⟩) : (r.sg f).wp N R L := by
  cases r with
  | nx e h => exact nx_w w
  | xc x e h => exact w_xc (xc_w (L := ⟨fun _ _ => False, fun _ _ => False, L.xc⟩) w)
  | rt d h => exact (show False from rt_w w).elim
  | bk d h => exact (show False from bk_w w).elim
  | ct d h => exact (show False from ct_w w).elim
  | bad => exact (bad_w w).elim
theorem w_only (w : (gs d e h).wp N (fun _ _ => False) ⟨fun _ _ => False, fun _ _ => False, L.xc⟩) : (gOnly gs d e h).wp N R L := Ro.sg_wp (Ro.wp_mono w (fun _ _ q => w_nx q) (fun _ _ q => q) (fun _ _ q => q) (fun _ _ q => q) fun _ _ _ q => q)
theorem w_gsub {fo fi : Se} (w : (fo e h).wp (fun o h1 => (fi e h1).wp (fun i h2 => ∃ h3, setD o i d h2 = some h3 ∧ N e h3) (fun x h1 => L.xc x e h1)) (fun x h1 => L.xc x e h1)) : (dGsub fo fi d e h).wp N R L := by
  refine Rs.wp_to (Rs.wp_mono w (fun o h1 w => Rs.wp_to (Rs.wp_mono w (fun i h2 w => ?_) fun _ _ w => w)) fun _ _ w => w)
  obtain ⟨h3, e3, q⟩ := w
  rw [e3]; exact w_nx q
theorem w_gtup {n : Nat} {g : Sgs} {l : List D} (hl : l.length = n) (w : (g l e h).wp N R L) : (dGtup n g (.tup l) e h).wp N R L := by
  show Ro.wp (if l.length = n then g l e h else .bad) N R L
  rw [if_pos hl]; exact w
theorem w_gnil (w : N e h) : (dGnil [] e h).wp N R L := w_nx w
theorem w_gcons {g : Sgs} {l : List D} (w : (gs d e h).wp (fun e' h' => (g l e' h').wp N R L) (fun _ _ => False) ⟨fun _ _ => False, fun _ _ => False, L.xc⟩) : (dGcons gs g (d :: l) e h).wp N R L := Ro.sg_wp w
theorem w_par {i j : Nat} {fs : Sa} (w : (fs e h).wp (fun l h1 => ∃ x y, l = [x, y] ∧ N ((e.set i (some x)).set j (some y)) h1) (fun x h1 => L.xc x e h1)) : (dPar i j fs e h).wp N R L := by
  refine Rs.wp_to (Rs.wp_mono w (fun l h1 w => ?_) fun _ _ w => w)
  obtain ⟨x, y, rfl, q⟩ := w
  exact w_nx q
theorem w_par3 {i j k : Nat} {fs : Sa} (w : (fs e h).wp (fun l h1 => ∃ x y z, l = [x, y, z] ∧ N (((e.set i (some x)).set j (some y)).set k (some z)) h1) (fun x h1 => L.xc x e h1)) : (dPar3 i j k fs e h).wp N R L := by
  refine Rs.wp_to (Rs.wp_mono w (fun l h1 w => ?_) fun _ _ w => w)
  obtain ⟨x, y, z, rfl, q⟩ := w
  exact w_nx q
end
theorem w_of {r r' : Ro} (e : r = r') (w : r'.wp N R L) : r.wp N R L := by rw [e]; exact w
/-! ## expressions -/
section
variable {Q : D → Hd → Prop} {QL : List D → Hd → Prop} {QB : Bool → Hd → Prop} {E : Ex → Hd → Prop} {h : Hd} {e : Env} {f g k : Se} {fs : Sa} {t u : St'} {i : Nat} {d : D}
theorem x_var' (he : e[i]? = some (some d)) (q : Q d h) : (dVar i e h).wp Q E := by unfold dVar; rw [he]; exact Rs.wp_ok q
theorem x_c' (q : Q d h) : (dC d e h).wp Q E := Rs.wp_ok q
theorem x_nil' (q : QL [] h) : (dNil e h).wp QL E := Rs.wp_ok q
theorem x_cons' (w : (f e h).wp (fun d h1 => (fs e h1).wp (fun l h2 => QL (d :: l) h2) E) E) : (dCons f fs e h).wp QL E := Rs.wp_bind (Rs.wp_mono w (fun d h1 w => Rs.wp_bind (Rs.wp_mono w (fun _ _ q => Rs.wp_ok q) fun _ _ w => w)) fun _ _ w => w)
theorem x_tup' (w : (fs e h).wp (fun l h1 => l.length ≤ BIG ∧ Q (.tup l) h1) E) : (dTup fs e h).wp Q E := Rs.wp_bind (Rs.wp_mono w (fun l h1 w => by show Rs.wp (if l.length ≤ BIG then _ else _) _ _; rw [if_pos w.1]; exact Rs.wp_ok w.2) fun _ _ w => w)
theorem x_lst' (w : (fs e h).wp (fun l h1 => l.length ≤ BIG ∧ Q (.ref h1.length) (h1 ++ [.lst l])) E) : (dLst fs e h).wp Q E := Rs.wp_bind (Rs.wp_mono w (fun l h1 w => by show Rs.wp (if l.length ≤ BIG then _ else _) _ _; rw [if_pos w.1]; exact Rs.wp_ok w.2) fun _ _ w => w)
theorem x_dic0' (q : Q (.ref h.length) (h ++ [.dic []])) : (dDic0 e h).wp Q E := Rs.wp_ok q
theorem x_bin' {o : Op2} (w : (f e h).wp (fun x h1 => (g e h1).wp (fun y h2 => ∃ d h3, o x y h2 = some (d, h3) ∧ Q d h3) E) E) : (dBin o f g e h).wp Q E :=
  Rs.wp_bind (Rs.wp_mono w (fun x h1 w => Rs.wp_bind (Rs.wp_mono w (fun y h2 w => by
    obtain ⟨d, h3, e3, q⟩ := w
    rw [e3]; exact Rs.wp_ok q) fun _ _ w => w)) fun _ _ w => w)
theorem x_chain' {o o' : Op2} (w : (f e h).wp (fun x h1 => (g e h1).wp (fun y h2 => ∃ b h3, o x y h2 = some (.bl b, h3) ∧ (b = true → (k e h3).wp (fun z h4 => ∃ d h5, o' y z h4 = some (d, h5) ∧ Q d h5) E) ∧ (b = false → Q (.bl false) h3)) E) E) : (dChain o o' f g k e h).wp Q E :=
  Rs.wp_bind (Rs.wp_mono w (fun x h1 w => Rs.wp_bind (Rs.wp_mono w (fun y h2 w => by
    obtain ⟨b, h3, e3, q1, q2⟩ := w
    rw [e3]
    cases b with
    | true => exact Rs.wp_bind (Rs.wp_mono (q1 rfl) (fun z h4 ⟨d, h5, e5, q⟩ => by rw [e5]; exact Rs.wp_ok q) fun _ _ w => w)
    | false => exact Rs.wp_ok (q2 rfl)) fun _ _ w => w)) fun _ _ w => w)
theorem x_flag' (w : (f e h).wp (fun d h1 => ∃ b, d = .bl b ∧ QB b h1) E) : (dFlag f e h).wp QB E := Rs.wp_bind (Rs.wp_mono w (fun d h1 ⟨b, eb, q⟩ => by subst eb; exact Rs.wp_ok q) fun _ _ w => w)
theorem x_tru' (w : (f e h).wp (fun d h1 => ∃ b, truB d h1 = some b ∧ QB b h1) E) : (dTru f e h).wp QB E := Rs.wp_bind (Rs.wp_mono w (fun d h1 ⟨b, eb, q⟩ => by rw [eb]; exact Rs.wp_ok q) fun _ _ w => w)
theorem x_notT' (w : (t e h).wp (fun b h1 => QB (!b) h1) E) : (dNotT t e h).wp QB E := Rs.wp_bind (Rs.wp_mono w (fun _ _ q => Rs.wp_ok q) fun _ _ w => w)
theorem x_andT' (w : (t e h).wp (fun b h1 => (b = true → (u e h1).wp QB E) ∧ (b = false → QB false h1)) E) : (dAndT t u e h).wp QB E := Rs.wp_bind (Rs.wp_mono w (fun b h1 w => by
  cases b with
  | true => exact w.1 rfl
  | false => exact Rs.wp_ok (w.2 rfl)) fun _ _ w => w)
theorem x_orT' (w : (t e h).wp (fun b h1 => (b = false → (u e h1).wp QB E) ∧ (b = true → QB true h1)) E) : (dOrT t u e h).wp QB E := Rs.wp_bind (Rs.wp_mono w (fun b h1 w => by
  cases b with
  | true => exact Rs.wp_ok (w.2 rfl)
  | false => exact w.1 rfl) fun _ _ w => w)
theorem x_if' (w : (t e h).wp (fun b h1 => (b = true → (f e h1).wp Q E) ∧ (b = false → (g e h1).wp Q E)) E) : (dIf t f g e h).wp Q E := Rs.wp_bind (Rs.wp_mono w (fun b h1 w => by
  cases b with
  | true => exact w.1 rfl
  | false => exact w.2 rfl) fun _ _ w => w)
theorem x_and' (w : (f e h).wp (fun d h1 => ∃ b, truB d h1 = some b ∧ (b = true → (g e h1).wp Q E) ∧ (b = false → Q d h1)) E) : (dAnd f g e h).wp Q E := Rs.wp_bind (Rs.wp_mono w (fun d h1 ⟨b, eb, w⟩ => by
  rw [eb]
  cases b with
  | true => exact w.1 rfl
  | false => exact Rs.wp_ok (w.2 rfl)) fun _ _ w => w)
theorem x_or' (w : (f e h).wp (fun d h1 => ∃ b, truB d h1 = some b ∧ (b = false → (g e h1).wp Q E) ∧ (b = true → Q d h1)) E) : (dOr f g e h).wp Q E := Rs.wp_bind (Rs.wp_mono w (fun d h1 ⟨b, eb, w⟩ => by
  rw [eb]
  cases b with
  | true => exact Rs.wp_ok (w.2 rfl)
  | false => exact w.1 rfl) fun _ _ w => w)
theorem x_not' (w : (f e h).wp (fun d h1 => ∃ b, truB d h1 = some b ∧ Q (.bl (!b)) h1) E) : (dNot f e h).wp Q E := Rs.wp_bind (Rs.wp_mono w (fun d h1 ⟨b, eb, w⟩ => by rw [eb]; exact Rs.wp_ok w) fun _ _ w => w)
theorem x_neg' (w : (f e h).wp (fun d h1 => ∃ i, d = .int i ∧ Q (.int (-i)) h1) E) : (dNeg f e h).wp Q E := Rs.wp_bind (Rs.wp_mono w (fun d h1 ⟨i, ei, w⟩ => by subst ei; exact Rs.wp_ok w) fun _ _ w => w)
theorem x_isi' {c : String} (w : (f e h).wp (fun d h1 => ∃ b, isiB c d h1 = some b ∧ Q (.bl b) h1) E) : (dIsi c f e h).wp Q E := Rs.wp_bind (Rs.wp_mono w (fun d h1 ⟨b, eb, w⟩ => by rw [eb]; exact Rs.wp_ok w) fun _ _ w => w)
theorem x_isiT' {c : List String} (w : (f e h).wp (fun d h1 => ∃ b, isiAny c d h1 = some b ∧ Q (.bl b) h1) E) : (dIsiT c f e h).wp Q E := Rs.wp_bind (Rs.wp_mono w (fun d h1 ⟨b, eb, w⟩ => by rw [eb]; exact Rs.wp_ok w) fun _ _ w => w)
/-- a def: a plain value comes, what was laid is dropped -/
theorem x_fn' {n : Nat} {m : Mf} (w : (fs e h).wp (fun l h1 => l.length = n ∧ ∃ d h2, m l h1 = .ok d h2 ∧ h <+: h2 ∧ d.und h.length = true ∧ Q d h) (fun _ _ => False)) : (dFn n m fs e h).wp Q E := by
  obtain ⟨l, h1, e1, hl, d, h2, e2, p, u, q⟩ := Rs.wp_ex w
  rw [dFn_val e1 hl e2 p u]; exact Rs.wp_ok q
theorem x_fnl' {n : Nat} {m : Mf} (w : (fs e h).wp (fun l h1 => l.length = n ∧ ∃ j h2 r, m l h1 = .ok (.ref j) h2 ∧ h <+: h2 ∧ h.length ≤ j ∧ h2[j]? = some (.lst r) ∧ D.undL h.length r = true ∧ Q (.ref h.length) (h ++ [.lst r])) (fun _ _ => False)) : (dFn n m fs e h).wp Q E := by
  obtain ⟨l, h1, e1, hl, j, h2, r, e2, p, hj, er, u, q⟩ := Rs.wp_ex w
  rw [dFn_lst e1 hl e2 p hj er u]; exact Rs.wp_ok q
theorem x_call' {g : OpN} (w : (fs e h).wp (fun l h1 => ∃ d h2, g l h1 = some (d, h2) ∧ h <+: h2 ∧ d.und h.length = true ∧ Q d h) (fun _ _ => False)) : (dCall g fs e h).wp Q E := by
  obtain ⟨l, h1, e1, d, h2, e2, p, u, q⟩ := Rs.wp_ex w
  rw [dCall_val e1 e2 p u]; exact Rs.wp_ok q
theorem x_calll' {g : OpN} (w : (fs e h).wp (fun l h1 => ∃ j h2 r, g l h1 = some (.ref j, h2) ∧ h <+: h2 ∧ h.length ≤ j ∧ h2[j]? = some (.lst r) ∧ D.undL h.length r = true ∧ Q (.ref h.length) (h ++ [.lst r])) (fun _ _ => False)) : (dCall g fs e h).wp Q E := by
  obtain ⟨l, h1, e1, j, h2, r, e2, p, hj, er, u, q⟩ := Rs.wp_ex w
  rw [dCall_lst e1 e2 p hj er u]; exact Rs.wp_ok q
theorem x_meth' {ty : MT} {g : OpM} (w : (f e h).wp (fun o h1 => tyIs ty o h1 = true ∧ (fs e h1).wp (fun l h2 => ∃ d h3, g o l h2 = some (d, h3) ∧ Q d h3) E) E) : (dMeth ty g f fs e h).wp Q E :=
  Rs.wp_bind (Rs.wp_mono w (fun o h1 ⟨ty, w⟩ => by
    rw [if_pos ty]
    exact Rs.wp_bind (Rs.wp_mono w (fun l h2 ⟨d, h3, e3, q⟩ => by rw [e3]; exact Rs.wp_ok q) fun _ _ w => w)) fun _ _ w => w)
theorem x_meth0' {ty : MT} {g : OpM} (w : (f e h).wp (fun o h1 => tyIs ty o h1 = true ∧ ∃ d h3, g o [] h1 = some (d, h3) ∧ Q d h3) E) : (dMeth0 ty g f e h).wp Q E :=
  Rs.wp_bind (Rs.wp_mono w (fun o h1 ⟨ty, d, h3, e3, q⟩ => by rw [if_pos ty, e3]; exact Rs.wp_ok q) fun _ _ w => w)
theorem x_fld' {x : Str} (w : (f e h).wp (fun o h1 => ∃ n c fs d, o = .ref n ∧ h1[n]? = some (.ins c fs) ∧ fs.lookup x = some d ∧ Q d h1) E) : (dFld x f e h).wp Q E :=
  Rs.wp_bind (Rs.wp_mono w (fun o h1 ⟨n, c, fs, d, eo, en, ed, q⟩ => by
    subst eo
    simp only [insAt, en, ed]
    exact Rs.wp_ok q) fun _ _ w => w)
theorem x_slice' {lo hi : Option Se} (w : (f e h).wp (fun x h1 => (dPart lo e h1).wp (fun l h2 => (dPart hi e h2).wp (fun u h3 => ∃ d h4, sliceD x l u h3 = some (d, h4) ∧ Q d h4) E) E) E) : (dSlice f lo hi e h).wp Q E :=
  Rs.wp_bind (Rs.wp_mono w (fun x h1 w => Rs.wp_bind (Rs.wp_mono w (fun l h2 w => Rs.wp_bind (Rs.wp_mono w (fun u h3 ⟨d, h4, e4, q⟩ => by rw [e4]; exact Rs.wp_ok q) fun _ _ w => w)) fun _ _ w => w)) fun _ _ w => w)
theorem x_partN {QO : Option Int → Hd → Prop} (q : QO none h) : (dPart none e h).wp QO E := Rs.wp_ok q
theorem x_partS {QO : Option Int → Hd → Prop} (w : (f e h).wp (fun d h1 => ∃ i, d = .int i ∧ QO (some i) h1) E) : (dPart (some f) e h).wp QO E := Rs.wp_bind (Rs.wp_mono w (fun d h1 ⟨i, ei, q⟩ => by subst ei; exact Rs.wp_ok q) fun _ _ w => w)
theorem x_rev' (w : (f e h).wp (fun o h1 => ∃ n l, o = .ref n ∧ seqAt h1 n = some l ∧ Q (.ref h1.length) (h1 ++ [.lst l.reverse])) E) : (dRev f e h).wp Q E := Rs.wp_bind (Rs.wp_mono w (fun o h1 ⟨n, l, eo, el, q⟩ => by
  subst eo
  simp only [el]
  exact Rs.wp_ok q) fun _ _ w => w)
/-- a block of plain values, by what it makes of each -/
theorem x_lc' {s : Si} {gt : Sg} {vs : List Nat} (l : List D) (F : D → D) (T : D → Bool) (w : (s e h).wp (fun nx h1 => (∀ j, nx j h1 = some l[j]?) ∧ l.length < BIG ∧ (∀ d ∈ l, (gt d (wipeE e vs) h1).wp (fun e' h' => h' = h1 ∧ (t e' h1).wp (fun b h2 => b = T d ∧ h2 = h1) (fun _ _ => False) ∧ (T d = true → (f e' h1).wp (fun y h2 => y = F d ∧ h2 = h1) (fun _ _ => False))) (fun _ _ => False) L0) ∧
    Q (.ref h1.length) (h1 ++ [.lst ((l.filter T).map F)])) E) : (dLc s gt t f vs e h).wp Q E := by
  unfold dLc
  refine Rs.wp_bind (Rs.wp_mono w (fun nx h1 ⟨hx, hz, hs, q⟩ => ?_) fun _ _ w => w)
  have hE : ∀ d ∈ l, ∃ e', gt d (wipeE e vs) h1 = .nx e' h1 ∧ t e' h1 = .ok (T d) h1 ∧ (T d = true → f e' h1 = .ok (F d) h1) := fun d hd => by
    have w := hs d hd
    cases z : gt d (wipeE e vs) h1 with
    | nx e' h' =>
      rw [z] at w
      obtain ⟨rfl, w1, w2⟩ := nx_w w
      exact ⟨e', rfl, Rs.wp_eq w1, fun ht => Rs.wp_eq (w2 ht)⟩
    | rt a b => rw [z] at w; exact (rt_w w).elim
    | bk a b => rw [z] at w; exact (bk_w w).elim
    | ct a b => rw [z] at w; exact (ct_w w).elim
    | xc a b c => rw [z] at w; exact (xc_w w).elim
    | bad => rw [z] at w; exact (bad_w w).elim
  let Ef : D → Env := fun d => match gt d (wipeE e vs) h1 with
    | .nx e' _ => e'
    | _ => []
  have hEf : ∀ d ∈ l, gt d (wipeE e vs) h1 = .nx (Ef d) h1 ∧ t (Ef d) h1 = .ok (T d) h1 ∧ (T d = true → f (Ef d) h1 = .ok (F d) h1) := fun d hd => by
    obtain ⟨e', z, q1, q2⟩ := hE d hd
    have : Ef d = e' := by show (match gt d (wipeE e vs) h1 with | .nx e' _ => e' | _ => []) = e'; rw [z]
    rw [this]; exact ⟨z, q1, q2⟩
  rw [lcI_map Ef hx (fun d hd => (hEf d hd).1) (fun d hd => (hEf d hd).2.1) (fun d hd => (hEf d hd).2.2) BIG 0 [] (by omega) (by simp; omega)]
  rw [List.nil_append, List.drop_zero]
  exact Rs.wp_ok q
theorem x_lcA' {s : Si} {gt : Sg} {vs : List Nat} (l : List D) (F : D → D) (w : (s e h).wp (fun nx h1 => (∀ j, nx j h1 = some l[j]?) ∧ l.length < BIG ∧ (∀ d ∈ l, (gt d (wipeE e vs) h1).wp (fun e' h' => h' = h1 ∧ (f e' h1).wp (fun y h2 => y = F d ∧ h2 = h1) (fun _ _ => False)) (fun _ _ => False) L0) ∧
    Q (.ref h1.length) (h1 ++ [.lst (l.map F)])) E) : (dLc s gt dYes f vs e h).wp Q E :=
  x_lc' l F (fun _ => true) (Rs.wp_mono w (fun nx h1 ⟨a, b, c, q⟩ => ⟨a, b, fun d hd => Ro.wp_mono (c d hd) (fun e' h' q => ⟨q.1, Rs.wp_ok ⟨rfl, rfl⟩, fun _ => q.2⟩) (fun _ _ q => q) (fun _ _ q => q) (fun _ _ q => q) fun _ _ _ q => q, by rw [List.filter_eq_self.mpr fun _ _ => rfl]; exact q⟩) fun _ _ w => w)
/-! ### sources -/
variable {QN : Nx → Hd → Prop}
theorem n_seq (w : (f e h).wp (fun d h1 => ∃ nx, seqN d h1 = some nx ∧ QN nx h1) E) : (dSeqI f e h).wp QN E := Rs.wp_bind (Rs.wp_mono w (fun d h1 ⟨nx, en, q⟩ => by rw [en]; exact Rs.wp_ok q) fun _ _ w => w)
theorem n_rng {r : List D → Option Nx} (w : (fs e h).wp (fun l h1 => ∃ nx, r l = some nx ∧ QN nx h1) E) : (dRngI r fs e h).wp QN E := Rs.wp_bind (Rs.wp_mono w (fun d h1 ⟨nx, en, q⟩ => by rw [en]; exact Rs.wp_ok q) fun _ _ w => w)
theorem n_arg {r : List D → Hd → Option Nx} (w : (fs e h).wp (fun l h1 => ∃ nx, r l h1 = some nx ∧ QN nx h1) E) : (dArgI r fs e h).wp QN E := Rs.wp_bind (Rs.wp_mono w (fun d h1 ⟨nx, en, q⟩ => by rw [en]; exact Rs.wp_ok q) fun _ _ w => w)
end
/-! ## loops -/
section
variable {N : Env → Hd → Prop} {R : D → Hd → Prop} {L : Lx} {h : Hd} {e : Env} {b : Ss} {c : St'}
theorem fo_wp {nx : Nx} {g : Sg} (l : List D) (P : Nat → Env → Hd → Prop) (hx : ∀ j e h, P j e h → nx j h = some l[j]?)
    (step : ∀ j d e h, l[j]? = some d → P j e h → (g d e h).wp (fun e1 h1 => (b e1 h1).wp (P (j + 1)) R ⟨N, P (j + 1), L.xc⟩) R L) (fin : ∀ e h, P l.length e h → N e h)
    (hl : ∀ d e h, match g d e h with | .rt _ _ => False | .bk _ _ => False | .ct _ _ => False | _ => True) :
    ∀ n j e h, j ≤ l.length → l.length - j < n → P j e h → (dFo nx g b n j e h).wp N R L
  | 0, j, e, h, _, hn, _ => absurd hn (by omega)
  | n + 1, j, e, h, hle, hn, p => by
    unfold dFo
    rw [hx j e h p]
    by_cases hj : j < l.length
    · have ej := List.getElem?_eq_getElem hj
      rw [ej]
      have w := step j _ e h ej p
      have hl' := hl l[j] e h
      simp only
      cases z : g l[j] e h with
      | nx e1 h1 =>
        rw [z] at w
        have w' : (b e1 h1).wp (P (j + 1)) R ⟨N, P (j + 1), L.xc⟩ := nx_w w
        rw [Ro.sg_nx]
        cases y : b e1 h1 with
        | nx e2 h2 => rw [y] at w'; exact fo_wp l P hx step fin hl n (j + 1) e2 h2 (by omega) (by omega) (nx_w w')
        | ct e2 h2 => rw [y] at w'; exact fo_wp l P hx step fin hl n (j + 1) e2 h2 (by omega) (by omega) (ct_w w')
        | bk e2 h2 => rw [y] at w'; exact w_nx (bk_w w')
        | rt d h2 => rw [y] at w'; exact w_rt (rt_w w')
        | xc x e2 h2 => rw [y] at w'; exact w_xc (show L.xc x e2 h2 from by unfold Ro.wp at w'; exact w')
        | bad => rw [y] at w'; exact (bad_w w').elim
      | xc x e1 h1 => rw [z] at w; exact w_xc (xc_w w)
      | rt d h1 => rw [z] at hl'; exact hl'.elim
      | bk d h1 => rw [z] at hl'; exact hl'.elim
      | ct d h1 => rw [z] at hl'; exact hl'.elim
      | bad => rw [z] at w; exact (bad_w w).elim
    · have : j = l.length := by omega
      subst this
      rw [List.getElem?_eq_none (Nat.le_refl _)]
      exact w_nx (fin e h p)
def Sgo (g : Sg) : Prop := ∀ d e h, match g d e h with | .rt _ _ => False | .bk _ _ => False | .ct _ _ => False | _ => True
def SgoS (g : Sgs) : Prop := ∀ d e h, match g d e h with | .rt _ _ => False | .bk _ _ => False | .ct _ _ => False | _ => True
theorem sgo_n {i : Nat} : Sgo (dGn i) := fun d e h => trivial
theorem sgo_nil : SgoS dGnil := fun d e h => by cases d <;> exact trivial
theorem sgo_cons {g : Sg} {gs : Sgs} (a : Sgo g) (b : SgoS gs) : SgoS (dGcons g gs) := fun d e h => by
  cases d with
  | nil => exact trivial
  | cons d r =>
    show match (g d e h).sg (gs r) with | .rt _ _ => False | .bk _ _ => False | .ct _ _ => False | _ => True
    cases z : g d e h with
    | nx e1 h1 => exact b r e1 h1
    | _ => exact trivial
theorem sgo_tup {n : Nat} {gs : Sgs} (b : SgoS gs) : Sgo (dGtup n gs) := fun d e h => by
  cases d <;> first | exact trivial | skip
  rename_i l
  show match (if l.length = n then gs l e h else .bad) with | .rt _ _ => False | .bk _ _ => False | .ct _ _ => False | _ => True
  by_cases c : l.length = n
  · rw [if_pos c]; exact b l e h
  · rw [if_neg c]; exact trivial
theorem w_for {s : Si} {g : Sg} (l : List D) (P : Nat → Env → Hd → Prop) (hl : Sgo g) (w : (s e h).wp (fun nx h1 => P 0 e h1 ∧ l.length < BIG ∧ ∀ j e h, P j e h → nx j h = some l[j]?) (fun x h1 => L.xc x e h1))
    (step : ∀ j d e h, l[j]? = some d → P j e h → (g d e h).wp (fun e1 h1 => (b e1 h1).wp (P (j + 1)) R ⟨N, P (j + 1), L.xc⟩) R L) (fin : ∀ e h, P l.length e h → N e h) : (dFor s g b e h).wp N R L :=
  Rs.wp_to (Rs.wp_mono w (fun nx h1 ⟨p, hz, hx⟩ => fo_wp l P hx step fin hl BIG 0 e h1 (Nat.zero_le _) (by omega) p) fun _ _ w => w)
theorem wh_wp (P : Nat → Env → Hd → Prop) (step : ∀ m e h, P m e h → (c e h).wp (fun t h1 => (t = true → (b e h1).wp (fun e2 h2 => ∃ m', m' < m ∧ P m' e2 h2) R ⟨N, fun e2 h2 => ∃ m', m' < m ∧ P m' e2 h2, L.xc⟩) ∧ (t = false → N e h1)) (fun x h1 => L.xc x e h1)) :
    ∀ n m e h, m < n → P m e h → (dWh c b n e h).wp N R L
  | 0, m, e, h, hn, _ => absurd hn (by omega)
  | n + 1, m, e, h, hn, p => by
    unfold dWh
    refine Rs.wp_to (Rs.wp_mono (step m e h p) (fun t h1 w => ?_) fun _ _ w => w)
    cases t with
    | false => exact w_nx (w.2 rfl)
    | true =>
      have w' := w.1 rfl
      rw [if_pos rfl]
      have go : ∀ e2 h2, (∃ m', m' < m ∧ P m' e2 h2) → (dWh c b n e2 h2).wp N R L := fun e2 h2 ⟨m', hm, q⟩ => wh_wp P step n m' e2 h2 (by omega) q
      cases y : b e h1 with
      | nx e2 h2 => rw [y] at w'; exact go e2 h2 (nx_w w')
      | ct e2 h2 => rw [y] at w'; exact go e2 h2 (ct_w w')
      | bk e2 h2 => rw [y] at w'; exact w_nx (bk_w w')
      | rt d h2 => rw [y] at w'; exact w_rt (rt_w w')
      | xc x e2 h2 => rw [y] at w'; exact w_xc (show L.xc x e2 h2 from by unfold Ro.wp at w'; exact w')
      | bad => rw [y] at w'; exact (bad_w w').elim
theorem w_while (P : Nat → Env → Hd → Prop) (m : Nat) (h0 : P m e h) (hm : m < BIG) (step : ∀ m e h, P m e h → (c e h).wp (fun t h1 => (t = true → (b e h1).wp (fun e2 h2 => ∃ m', m' < m ∧ P m' e2 h2) R ⟨N, fun e2 h2 => ∃ m', m' < m ∧ P m' e2 h2, L.xc⟩) ∧ (t = false → N e h1)) (fun x h1 => L.xc x e h1)) :
    (dWhile c b e h).wp N R L := wh_wp P step BIG m e h hm h0
theorem m_wp {N : Nat} {b : Ss} {ds : List D} {h : Hd} {Q : D → Hd → Prop} (w : (b (ds.map some ++ List.replicate (N - ds.length) none) h).wp (fun _ h1 => Q .non h1) Q L0) : ∃ d h1, mOf N b ds h = .ok d h1 ∧ Q d h1 := by
  unfold mOf
  cases y : b (ds.map some ++ List.replicate (N - ds.length) none) h <;> rw [y] at w
  · exact ⟨_, _, rfl, nx_w w⟩
  · exact ⟨_, _, rfl, rt_w w⟩
  · exact (bk_w w).elim
  · exact (ct_w w).elim
  · exact (xc_w w).elim
  · exact (bad_w w).elim
theorem m_wpE {N : Nat} {b : Ss} {ds : List D} {h : Hd} {Q : D → Hd → Prop} (e : Env) (he : ds.map some ++ List.replicate (N - ds.length) none = e) (w : (b e h).wp (fun _ h1 => Q .non h1) Q L0) : ∃ d h1, mOf N b ds h = .ok d h1 ∧ Q d h1 := m_wp (by subst he; exact w)
end
end PN
namespace PN
open PySem L2 PyProof.Rows
/-! # more rules from the end backwards: blocks with an invariant, own classes -/
section
variable {N : Env → Hd → Prop} {R : D → Hd → Prop} {L : Lx} {Q : D → Hd → Prop} {QL : List D → Hd → Prop} {E : Ex → Hd → Prop} {h : Hd} {e : Env} {f g : Se} {fs : Sa} {t : St'}
theorem Rs.wp_of' {α : Type} {Q : α → Hd → Prop} {r : Rs α} {a : α} {h1 : Hd} (e : r = .ok a h1) (q : Q a h1) : r.wp Q E := by rw [e]; exact Rs.wp_ok q
theorem Ro.wp_nx' {r : Ro} (w : r.wp N (fun _ _ => False) L0) : ∃ e1 h1, r = .nx e1 h1 ∧ N e1 h1 := by
  unfold Ro.wp at w
  cases r with
  | nx e1 h1 => exact ⟨e1, h1, rfl, w⟩
  | _ => exact w.elim
theorem lcI_wp {nx : Nx} {g : Sg} {f : Se} {env : Env} (l : List D) (P : Nat → List D → Hd → Prop) (hz : l.length < BIG) (hx : ∀ j acc h, P j acc h → nx j h = some l[j]?)
    (step : ∀ j d acc h, l[j]? = some d → P j acc h → (g d env h).wp (fun e1 h1 => (t e1 h1).wp (fun b h2 => (b = true → (f e1 h2).wp (fun y h3 => P (j + 1) (acc ++ [y]) h3) (fun _ _ => False)) ∧ (b = false → P (j + 1) acc h2)) (fun _ _ => False)) (fun _ _ => False) L0) :
    ∀ n j acc h, j ≤ l.length → l.length - j < n → acc.length ≤ j → P j acc h → ∃ acc' h', dLcI nx g t f env n j acc h = .ok acc' h' ∧ P l.length acc' h' ∧ acc'.length ≤ l.length
  | 0, j, acc, h, _, hn, _, _ => absurd hn (by omega)
  | n + 1, j, acc, h, hj', hn, ha, p => by
    unfold dLcI
    rw [hx j acc h p]
    by_cases hj : j < l.length
    · have ej := List.getElem?_eq_getElem hj
      rw [ej]
      obtain ⟨e1, h1, z, w⟩ := Ro.wp_nx' (step j _ acc h ej p)
      obtain ⟨b, h2, y, w⟩ := Rs.wp_ex w
      simp only [z, y, Rs.ne_ok, Rs.bind_ok]
      cases b with
      | true =>
        obtain ⟨v, h3, x, w⟩ := Rs.wp_ex (w.1 rfl)
        simp only [if_true, x, Rs.ne_ok, Rs.bind_ok]
        rw [if_pos (by omega)]
        exact lcI_wp l P hz hx step n (j + 1) _ h3 (by omega) (by omega) (by simp; omega) w
      | false =>
        simp only [Bool.false_eq_true, if_false]
        exact lcI_wp l P hz hx step n (j + 1) _ h2 (by omega) (by omega) (by omega) (w.2 rfl)
    · rw [List.getElem?_eq_none (by omega)]
      have : j = l.length := by omega
      subst this
      exact ⟨acc, h, rfl, p, ha⟩
/-- a block by an invariant -/
theorem x_lcP {s : Si} {gt : Sg} {vs : List Nat} (l : List D) (P : Nat → List D → Hd → Prop) (w : (s e h).wp (fun nx h1 => P 0 [] h1 ∧ l.length < BIG ∧ ∀ j acc h, P j acc h → nx j h = some l[j]?) E)
    (step : ∀ j d acc h, l[j]? = some d → P j acc h → (gt d (wipeE e vs) h).wp (fun e1 h1 => (t e1 h1).wp (fun b h2 => (b = true → (f e1 h2).wp (fun y h3 => P (j + 1) (acc ++ [y]) h3) (fun _ _ => False)) ∧ (b = false → P (j + 1) acc h2)) (fun _ _ => False)) (fun _ _ => False) L0)
    (fin : ∀ acc h, P l.length acc h → acc.length ≤ l.length → Q (.ref h.length) (h ++ [.lst acc])) : (dLc s gt t f vs e h).wp Q E := by
  unfold dLc
  refine Rs.wp_bind (Rs.wp_mono w (fun nx h1 ⟨p, hz, hx⟩ => ?_) fun _ _ w => w)
  obtain ⟨acc, h', e', p', q⟩ := lcI_wp l P hz hx step BIG 0 [] h1 (Nat.zero_le _) (by omega) (Nat.zero_le _) p
  rw [e']
  exact Rs.wp_ok (fin acc h' p' q)
theorem x_yes {QB : Bool → Hd → Prop} (q : QB true h) : (dYes e h).wp QB E := Rs.wp_ok q
/-- two clauses, plain: what each thing of the first gives -/
theorem lcI_app {nx : Nx} {g : Sg} {t : St'} {f : Se} {env : Env} {h : Hd} {l : List D} {F : D → D} {T : D → Bool} (En : D → Env) (hx : ∀ j, nx j h = some l[j]?) (hg : ∀ d ∈ l, g d env h = .nx (En d) h) (ht : ∀ d ∈ l, t (En d) h = .ok (T d) h)
    (hf : ∀ d ∈ l, T d = true → f (En d) h = .ok (F d) h) (acc : List D) (hz : acc.length + l.length < BIG) : dLcI nx g t f env BIG 0 acc h = .ok (acc ++ (l.filter T).map F) h := by
  have := lcI_map En hx hg ht hf BIG 0 acc (by omega) (by omega)
  rw [this, List.drop_zero]
/-! ## own classes -/
theorem x_fldL' {cs : List Str} {x : Str} (w : (f e h).wp (fun o h1 => ∃ n c fs d, o = .ref n ∧ h1[n]? = some (.ins c fs) ∧ cs.contains c = true ∧ fs.lookup x = some d ∧ Q d h1) E) : (dFldL cs x f e h).wp Q E := by
  unfold dFldL
  refine Rs.wp_bind (Rs.wp_mono w (fun o h1 ⟨n, c, fs, d, eo, en, hc, ed, q⟩ => ?_) fun _ _ w => w)
  subst eo
  simp only [insAt, en, hc, ed, if_true]
  exact Rs.wp_ok q
end
end PN
namespace K47
open PySem L2 PyProof.Rows PN
/-! ## the text of the law, by places -/
def topS (i : Nat) : Stmt := PySem.Challenge.pw_pairnets_k47_whole_partitions_that_meet.main.body.getD i (.Pass ⟨0, 0, 0, 0⟩)
def gB : List Str := ["abs", "all", "any", "bool", "enumerate", "int", "isinstance", "len", "list", "range", "sorted", "sum", "tuple", "zip"]
def gG : List (Str × D) := [("MOST_MEETING", (.int 7))]
def t_0 : List (Str × FT) := []
def ct_0 : List (Str × CI) := []
/-! ### _law_tape -/
abbrev s_law_tape : Stmt := topS 19
def p_law_tape : List Str := ["script"]
def n_law_tape : List Str := ["script", "seed", "cell"]
def f_law_tape : Ss :=
  (dSeq (dAsg (dBin dAdd (dBin dAdd (dBin dMod (dCall cInt (dCons (dCall cSumA (dCons (dSlice (dVar 0) none (some (dC (.int 1)))) dNil)) dNil)) (dC (.int 1000003))) (dCall cLen (dCons (dVar 0) dNil))) (dC (.int 1))) (dGn 1)) <|
  dSeq (dFor (dSeqI (dSlice (dVar 0) none (some (dC (.int 63))))) (dGn 2)
    (dSeq (dAsg (dBin dMod (dCall cInt (dCons (dBin dAdd (dBin dAdd (dBin dMul (dVar 1) (dC (.int 48271))) (dBin dMod (dCall cInt (dCons (dVar 2) dNil)) (dC (.int 2147483629)))) (dC (.int 11))) dNil)) (dC (.int 2147483647))) (dGn 1)) <|
     dSkip)) <|
  dSeq (dRet (dLst (dCons (dVar 1) (dCons (dC (.int 0)) (dCons (dLc (dSeqI (dSlice (dVar 0) none (some (dC (.int 63))))) (dGn 2) (dFlag (dBin dGe (dCall cAbs (dCons (dVar 2) dNil)) (dBin dPow (dC (.int 10)) (dC (.int 18))))) (dCall cAbs (dCons (dVar 2) dNil)) [2]) dNil))))) <|
  dSkip)
def m_law_tape : Mf := mOf 3 f_law_tape
def t_1 : List (Str × FT) := ("_law_tape", ⟨1, m_law_tape⟩) :: t_0
/-! ### _law_parted -/
abbrev s_law_parted : Stmt := topS 22
def p_law_parted : List Str := ["numbers"]
def n_law_parted : List Str := ["numbers", "found", "number", "longer", "row", "at"]
def f_law_parted : Ss :=
  (dSeq (dAsg (dLst (dCons (dTup dNil) dNil)) (dGn 1)) <|
  dSeq (dFor (dSeqI (dVar 0)) (dGn 2)
    (dSeq (dAsg (dLst dNil) (dGn 3)) <|
     dSeq (dFor (dSeqI (dVar 1)) (dGn 4)
       (dSeq (dDrop (dMeth .list mAppend (dVar 3) (dCons (dBin dAdd (dVar 4) (dTup (dCons (dTup (dCons (dVar 2) dNil)) dNil))) dNil))) <|
        dSeq (dDrop (dMeth .list mExtend (dVar 3) (dCons (dLc (dRngI rng1 (dCons (dCall cLen (dCons (dVar 4) dNil)) dNil)) (dGn 5) dYes (dBin dAdd (dBin dAdd (dSlice (dVar 4) none (some (dVar 5))) (dTup (dCons (dBin dAdd (dBin dItem (dVar 4) (dVar 5)) (dTup (dCons (dVar 2) dNil))) dNil))) (dSlice (dVar 4) (some (dBin dAdd (dVar 5) (dC (.int 1)))) none)) [5]) dNil))) <|
        dSkip)) <|
     dSeq (dAsg (dVar 3) (dGn 1)) <|
     dSkip)) <|
  dSeq (dRet (dCall cSort (dCons (dVar 1) dNil))) <|
  dSkip)
def m_law_parted : Mf := mOf 6 f_law_parted
def t_2 : List (Str × FT) := ("_law_parted", ⟨1, m_law_parted⟩) :: t_1
/-! ### is_integer -/
abbrev s_is_integer : Stmt := topS 1
def p_is_integer : List Str := ["thing"]
def n_is_integer : List Str := ["thing"]
def f_is_integer : Ss :=
  (dSeq (dRet (dAnd (dIsi "int" (dVar 0)) (dNot (dIsi "bool" (dVar 0))))) <|
  dSkip)
def m_is_integer : Mf := mOf 1 f_is_integer
def t_3 : List (Str × FT) := ("is_integer", ⟨1, m_is_integer⟩) :: t_2
/-! ### is_within -/
abbrev s_is_within : Stmt := topS 2
def p_is_within : List Str := ["thing", "least", "most"]
def n_is_within : List Str := ["thing", "least", "most"]
def f_is_within : Ss :=
  (dSeq (dRet (dAnd (dFn 1 m_is_integer (dCons (dVar 0) dNil)) (dChain dLe dLe (dVar 1) (dVar 0) (dVar 2)))) <|
  dSkip)
def m_is_within : Mf := mOf 3 f_is_within
def t_4 : List (Str × FT) := ("is_within", ⟨3, m_is_within⟩) :: t_3
/-! ### check_many -/
abbrev s_check_many : Stmt := topS 16
def p_check_many : List Str := ["many"]
def n_check_many : List Str := ["many"]
def f_check_many : Ss :=
  (dSeq (dIfS (dNotT (dTru (dFn 3 m_is_within (dCons (dVar 0) (dCons (dC (.int 1)) (dCons (dC (.int 7)) dNil))))))
    (dSeq dNever <|
     dSkip)
    dSkip) <|
  dSkip)
def m_check_many : Mf := mOf 1 f_check_many
def t_5 : List (Str × FT) := ("check_many", ⟨1, m_check_many⟩) :: t_4
/-! ### root_of -/
abbrev s_root_of : Stmt := topS 13
def p_root_of : List Str := ["above", "one"]
def n_root_of : List Str := ["above", "one"]
def f_root_of : Ss :=
  (dSeq (dWhile (dFlag (dBin dNe (dBin dItem (dVar 0) (dVar 1)) (dVar 1)))
    (dSeq (dAsg (dBin dItem (dVar 0) (dVar 1)) (dGn 1)) <|
     dSkip)) <|
  dSeq (dRet (dVar 1)) <|
  dSkip)
def m_root_of : Mf := mOf 2 f_root_of
def t_6 : List (Str × FT) := ("root_of", ⟨2, m_root_of⟩) :: t_5
/-! ### is_tree -/
abbrev s_is_tree : Stmt := topS 14
def p_is_tree : List Str := ["knots", "ties"]
def n_is_tree : List Str := ["knots", "ties", "above", "one", "other", "knot"]
def f_is_tree : Ss :=
  (dSeq (dAsg (dDc (dSeqI (dVar 0)) (dGn 5) dYes (dVar 5) (dVar 5) [5]) (dGn 2)) <|
  dSeq (dIfS (dFlag (dBin dNe (dBin dAdd (dCall cLen (dCons (dVar 1) dNil)) (dC (.int 1))) (dCall cLen (dCons (dVar 2) dNil))))
    (dSeq (dRet (dC (.bl false))) <|
     dSkip)
    dSkip) <|
  dSeq (dFor (dSeqI (dVar 1)) (dGtup 2 (dGcons (dGn 3) (dGcons (dGn 4) dGnil)))
    (dSeq (dPar 3 4 (dCons (dFn 2 m_root_of (dCons (dVar 2) (dCons (dVar 3) dNil))) (dCons (dFn 2 m_root_of (dCons (dVar 2) (dCons (dVar 4) dNil))) dNil))) <|
     dSeq (dIfS (dFlag (dBin dEq (dVar 3) (dVar 4)))
       (dSeq (dRet (dC (.bl false))) <|
        dSkip)
       dSkip) <|
     dSeq (dAsg (dVar 4) (gOnly (dGsub (dVar 2) (dVar 3)))) <|
     dSkip)) <|
  dSeq (dRet (dC (.bl true))) <|
  dSkip)
def m_is_tree : Mf := mOf 6 f_is_tree
def t_7 : List (Str × FT) := ("is_tree", ⟨2, m_is_tree⟩) :: t_6
/-! ### meet -/
abbrev s_meet : Stmt := topS 15
def p_meet : List Str := ["many", "one", "other"]
def n_meet : List Str := ["many", "one", "other", "here", "there", "knots", "at", "block", "number"]
def f_meet : Ss :=
  (dSeq (dAsg (dDc2 (dArgI enumN (dCons (dVar 1) dNil)) (dGtup 2 (dGcons (dGn 6) (dGcons (dGn 7) dGnil))) dYes (dSeqI (dVar 7)) (dGn 8) dYes (dVar 8) (dTup (dCons (dC (.int 0)) (dCons (dVar 6) dNil))) [6, 7, 8] [8]) (dGn 3)) <|
  dSeq (dAsg (dDc2 (dArgI enumN (dCons (dVar 2) dNil)) (dGtup 2 (dGcons (dGn 6) (dGcons (dGn 7) dGnil))) dYes (dSeqI (dVar 7)) (dGn 8) dYes (dVar 8) (dTup (dCons (dC (.int 1)) (dCons (dVar 6) dNil))) [6, 7, 8] [8]) (dGn 4)) <|
  dSeq (dAsg (dBin dAdd (dLc (dRngI rng1 (dCons (dCall cLen (dCons (dVar 1) dNil)) dNil)) (dGn 6) dYes (dTup (dCons (dC (.int 0)) (dCons (dVar 6) dNil))) [6]) (dLc (dRngI rng1 (dCons (dCall cLen (dCons (dVar 2) dNil)) dNil)) (dGn 6) dYes (dTup (dCons (dC (.int 1)) (dCons (dVar 6) dNil))) [6])) (dGn 5)) <|
  dSeq (dRet (dFn 2 m_is_tree (dCons (dVar 5) (dCons (dLc (dRngI rng1 (dCons (dVar 0) dNil)) (dGn 8) dYes (dTup (dCons (dBin dItem (dVar 3) (dVar 8)) (dCons (dBin dItem (dVar 4) (dVar 8)) dNil))) [8]) dNil)))) <|
  dSkip)
def m_meet : Mf := mOf 9 f_meet
def t_8 : List (Str × FT) := ("meet", ⟨3, m_meet⟩) :: t_7
/-! ### are_ascending -/
abbrev s_are_ascending : Stmt := topS 4
def p_are_ascending : List Str := ["items"]
def n_are_ascending : List Str := ["items", "one", "other"]
def f_are_ascending : Ss :=
  (dSeq (dRet (dCall cAll (dCons (dLc (dArgI zip2N (dCons (dVar 0) (dCons (dSlice (dVar 0) (some (dC (.int 1))) none) dNil))) (dGtup 2 (dGcons (dGn 1) (dGcons (dGn 2) dGnil))) dYes (dBin dLt (dVar 1) (dVar 2)) [1, 2]) dNil))) <|
  dSkip)
def m_are_ascending : Mf := mOf 3 f_are_ascending
def t_9 : List (Str × FT) := ("are_ascending", ⟨1, m_are_ascending⟩) :: t_8
/-! ### is_tuple -/
abbrev s_is_tuple : Stmt := topS 3
def p_is_tuple : List Str := ["thing", "least", "most"]
def n_is_tuple : List Str := ["thing", "least", "most"]
def f_is_tuple : Ss :=
  (dSeq (dRet (dAnd (dIsi "tuple" (dVar 0)) (dChain dLe dLe (dVar 1) (dCall cLen (dCons (dVar 0) dNil)) (dVar 2)))) <|
  dSkip)
def m_is_tuple : Mf := mOf 3 f_is_tuple
def t_10 : List (Str × FT) := ("is_tuple", ⟨3, m_is_tuple⟩) :: t_9
/-! ### is_block -/
abbrev s_is_block : Stmt := topS 11
def p_is_block : List Str := ["many", "thing"]
def n_is_block : List Str := ["many", "thing", "item"]
def f_is_block : Ss :=
  (dSeq (dRet (dAnd (dFn 3 m_is_tuple (dCons (dVar 1) (dCons (dC (.int 1)) (dCons (dVar 0) dNil)))) (dAnd (dCall cAll (dCons (dLc (dSeqI (dVar 1)) (dGn 2) dYes (dFn 3 m_is_within (dCons (dVar 2) (dCons (dC (.int 0)) (dCons (dBin dSub (dVar 0) (dC (.int 1))) dNil)))) [2]) dNil)) (dFn 1 m_are_ascending (dCons (dVar 1) dNil))))) <|
  dSkip)
def m_is_block : Mf := mOf 3 f_is_block
def t_11 : List (Str × FT) := ("is_block", ⟨2, m_is_block⟩) :: t_10
/-! ### is_partition -/
abbrev s_is_partition : Stmt := topS 12
def p_is_partition : List Str := ["many", "thing"]
def n_is_partition : List Str := ["many", "thing", "block"]
def f_is_partition : Ss :=
  (dSeq (dIfS (dOrT (dNotT (dTru (dFn 3 m_is_tuple (dCons (dVar 1) (dCons (dC (.int 0)) (dCons (dVar 0) dNil)))))) (dNotT (dTru (dCall cAll (dCons (dLc (dSeqI (dVar 1)) (dGn 2) dYes (dFn 2 m_is_block (dCons (dVar 0) (dCons (dVar 2) dNil))) [2]) dNil)))))
    (dSeq (dRet (dC (.bl false))) <|
     dSkip)
    dSkip) <|
  dSeq (dRet (dAnd (dBin dEq (dCall cSort (dCons (dCall cSumA (dCons (dVar 1) (dCons (dTup dNil) dNil))) dNil)) (dLRg (dVar 0))) (dFn 1 m_are_ascending (dCons (dVar 1) dNil)))) <|
  dSkip)
def m_is_partition : Mf := mOf 3 f_is_partition
def t_12 : List (Str × FT) := ("is_partition", ⟨2, m_is_partition⟩) :: t_11
/-! ### do_meet -/
abbrev s_do_meet : Stmt := topS 17
def p_do_meet : List Str := ["many", "one", "other"]
def n_do_meet : List Str := ["many", "one", "other", "thing"]
def f_do_meet : Ss :=
  (dSeq (dDrop (dFn 1 m_check_many (dCons (dVar 0) dNil))) <|
  dSeq (dFor (dSeqI (dTup (dCons (dVar 1) (dCons (dVar 2) dNil)))) (dGn 3)
    (dSeq (dIfS (dNotT (dTru (dFn 2 m_is_partition (dCons (dVar 0) (dCons (dVar 3) dNil)))))
       (dSeq dNever <|
        dSkip)
       dSkip) <|
     dSkip)) <|
  dSeq (dRet (dFn 3 m_meet (dCons (dVar 0) (dCons (dVar 1) (dCons (dVar 2) dNil))))) <|
  dSkip)
def m_do_meet : Mf := mOf 4 f_do_meet
def t_13 : List (Str × FT) := ("do_meet", ⟨3, m_do_meet⟩) :: t_12
/-! ### _law_draw -/
abbrev s_law_draw : Stmt := topS 20
def p_law_draw : List Str := ["tape", "many"]
def n_law_draw : List Str := ["tape", "many", "cells", "digit", "mixed"]
def f_law_draw : Ss :=
  (dSeq (dAsg (dBin dAdd (dBin dItem (dVar 0) (dC (.int 1))) (dC (.int 1))) (gOnly (dGsub (dVar 0) (dC (.int 1))))) <|
  dSeq (dAsg (dBin dItem (dVar 0) (dC (.int 2))) (dGn 2)) <|
  dSeq (dIfS (dFlag (dBin dGt (dCall cLen (dCons (dVar 2) dNil)) (dC (.int 0))))
    (dSeq (dAsg (dBin dMod (dCall cInt (dCons (dBin dItem (dVar 2) (dC (.int 0))) dNil)) (dVar 1)) (dGn 3)) <|
     dSeq (dAsg (dBin dFdiv (dBin dItem (dVar 2) (dC (.int 0))) (dVar 1)) (gOnly (dGsub (dVar 2) (dC (.int 0))))) <|
     dSeq (dIfS (dFlag (dBin dEq (dBin dItem (dVar 2) (dC (.int 0))) (dC (.int 0))))
       (dSeq (dDrop (dMeth .list mPop (dVar 2) (dCons (dC (.int 0)) dNil))) <|
        dSkip)
       dSkip) <|
     dSeq (dRet (dVar 3)) <|
     dSkip)
    dSkip) <|
  dSeq (dAsg (dBin dMod (dCall cInt (dCons (dBin dMul (dBin dAdd (dBin dItem (dVar 0) (dC (.int 0))) (dBin dMul (dC (.int 7919)) (dBin dItem (dVar 0) (dC (.int 1))))) (dC (.int 48271))) dNil)) (dC (.int 2147483647))) (dGn 4)) <|
  dSeq (dAsg (dBin dMod (dCall cInt (dCons (dBin dMul (dVar 4) (dBin dAdd (dBin dFdiv (dVar 4) (dC (.int 1009))) (dC (.int 69621)))) dNil)) (dC (.int 2147483647))) (dGn 4)) <|
  dSeq (dAsg (dBin dMod (dCall cInt (dCons (dBin dMul (dVar 4) (dBin dAdd (dBin dFdiv (dVar 4) (dC (.int 2003))) (dC (.int 40692)))) dNil)) (dC (.int 2147483399))) (dGn 4)) <|
  dSeq (dRet (dBin dMod (dCall cInt (dCons (dBin dFdiv (dVar 4) (dC (.int 16))) dNil)) (dVar 1))) <|
  dSkip)
def m_law_draw : Mf := mOf 5 f_law_draw
def t_14 : List (Str × FT) := ("_law_draw", ⟨2, m_law_draw⟩) :: t_13
/-! ### _law_drawn -/
abbrev s_law_drawn : Stmt := topS 25
def p_law_drawn : List Str := ["tape", "many"]
def n_law_drawn : List Str := ["tape", "many", "lots", "number", "at"]
def f_law_drawn : Ss :=
  (dSeq (dAsg (dLst dNil) (dGn 2)) <|
  dSeq (dFor (dRngI rng1 (dCons (dVar 1) dNil)) (dGn 3)
    (dSeq (dAsg (dFn 2 m_law_draw (dCons (dVar 0) (dCons (dBin dAdd (dBin dAdd (dCall cLen (dCons (dVar 2) dNil)) (dC (.int 1))) (dCall cInt (dCons (dBin dEq (dFn 2 m_law_draw (dCons (dVar 0) (dCons (dC (.int 2)) dNil))) (dC (.int 0))) dNil))) dNil))) (dGn 4)) <|
     dSeq (dIfS (dFlag (dBin dLt (dVar 4) (dCall cLen (dCons (dVar 2) dNil))))
       (dSeq (dAsg (dBin dAdd (dBin dItem (dVar 2) (dVar 4)) (dTup (dCons (dVar 3) dNil))) (gOnly (dGsub (dVar 2) (dVar 4)))) <|
        dSkip)
       (dSeq (dDrop (dMeth .list mAppend (dVar 2) (dCons (dTup (dCons (dVar 3) dNil)) dNil))) <|
        dSkip)) <|
     dSkip)) <|
  dSeq (dRet (dCall cTuple (dCons (dCall cSort (dCons (dVar 2) dNil)) dNil))) <|
  dSkip)
def m_law_drawn : Mf := mOf 5 f_law_drawn
def t_15 : List (Str × FT) := ("_law_drawn", ⟨2, m_law_drawn⟩) :: t_14
/-! ### _law_any -/
abbrev s_law_any : Stmt := topS 21
def p_law_any : List Str := ["tape", "things"]
def n_law_any : List Str := ["tape", "things"]
def f_law_any : Ss :=
  (dSeq (dRet (dBin dItem (dVar 1) (dFn 2 m_law_draw (dCons (dVar 0) (dCons (dCall cLen (dCons (dVar 1) dNil)) dNil))))) <|
  dSkip)
def m_law_any : Mf := mOf 2 f_law_any
def t_16 : List (Str × FT) := ("_law_any", ⟨2, m_law_any⟩) :: t_15
/-! ### _law_meeting -/
abbrev s_law_meeting : Stmt := topS 26
def p_law_meeting : List Str := ["tape", "many", "one"]
def n_law_meeting : List Str := ["tape", "many", "one", "other", "turn", "first", "last", "some", "lots", "number", "lot", "block", "blocks"]
def f_law_meeting : Ss :=
  (dSeq (dAsg (dCall cTuple (dCons (dLc (dRngI rng1 (dCons (dVar 1) dNil)) (dGn 9) dYes (dTup (dCons (dVar 9) dNil)) [9]) dNil)) (dGn 3)) <|
  dSeq (dFor (dRngI rng1 (dCons (dBin dMul (dC (.int 4)) (dVar 1)) dNil)) (dGn 4)
    (dSeq (dAsg (dTup (dCons (dFn 2 m_law_any (dCons (dVar 0) (dCons (dVar 3) dNil))) (dCons (dFn 2 m_law_any (dCons (dVar 0) (dCons (dVar 3) dNil))) dNil))) (gOnly (dGtup 2 (dGcons (dGn 5) (dGcons (dGn 6) dGnil))))) <|
     dSeq (dIfS (dAndT (dFlag (dBin dNe (dVar 5) (dVar 6))) (dFlag (dBin dGt (dBin dAdd (dCall cLen (dCons (dVar 2) dNil)) (dCall cLen (dCons (dVar 3) dNil))) (dBin dAdd (dVar 1) (dC (.int 1))))))
       (dSeq (dAsg (dCall cTuple (dCons (dCall cSort (dCons (dBin dAdd (dLc (dSeqI (dVar 3)) (dGn 10) (dFlag (dBin dNotIn (dVar 10) (dTup (dCons (dVar 5) (dCons (dVar 6) dNil))))) (dVar 10) [10]) (dLst (dCons (dCall cTuple (dCons (dCall cSort (dCons (dBin dAdd (dVar 5) (dVar 6)) dNil)) dNil)) dNil))) dNil)) dNil)) (dGn 7)) <|
        dSeq (dAsg (dLc (dSeqI (dVar 7)) (dGn 10) dYes (dLc (dSeqI (dVar 2)) (dGn 11) (dTru (dCall cAny (dCons (dLc (dSeqI (dVar 10)) (dGn 9) dYes (dBin dIn (dVar 9) (dVar 11)) [9]) dNil))) (dVar 11) [11]) [10]) (dGn 8)) <|
        dSeq (dIfS (dTru (dCall cAll (dCons (dLc (dArgI zip2N (dCons (dVar 7) (dCons (dVar 8) dNil))) (dGtup 2 (dGcons (dGn 10) (dGcons (dGn 12) dGnil))) dYes (dBin dEq (dCall cLen (dCons (dVar 10) dNil)) (dCall cLen (dCons (dVar 12) dNil))) [10, 12]) dNil)))
          (dSeq (dAsg (dVar 7) (dGn 3)) <|
           dSkip)
          dSkip) <|
        dSkip)
       dSkip) <|
     dSkip)) <|
  dSeq (dRet (dVar 3)) <|
  dSkip)
def m_law_meeting : Mf := mOf 13 f_law_meeting
def t_17 : List (Str × FT) := ("_law_meeting", ⟨3, m_law_meeting⟩) :: t_16
/-! ### _law_do_meet -/
abbrev s_law_do_meet : Stmt := topS 23
def p_law_do_meet : List Str := ["many", "one", "other"]
def n_law_do_meet : List Str := ["many", "one", "other", "waiting", "numbers", "block", "number", "more", "lot"]
def f_law_do_meet : Ss :=
  (dSeq (dIfS (dFlag (dBin dNe (dBin dAdd (dCall cLen (dCons (dVar 1) dNil)) (dCall cLen (dCons (dVar 2) dNil))) (dBin dAdd (dVar 0) (dC (.int 1)))))
    (dSeq (dRet (dC (.bl false))) <|
     dSkip)
    dSkip) <|
  dSeq (dPar 3 4 (dCons (dLst (dCons (dBin dItem (dVar 1) (dC (.int 0))) dNil)) (dCons (dLst dNil) dNil))) <|
  dSeq (dWhile (dFlag (dBin dGt (dCall cLen (dCons (dVar 3) dNil)) (dC (.int 0))))
    (dSeq (dAsg (dMeth0 .list mPop (dVar 3)) (dGn 5)) <|
     dSeq (dFor (dSeqI (dVar 5)) (dGn 6)
       (dSeq (dIfS (dFlag (dBin dNotIn (dVar 6) (dVar 4)))
          (dSeq (dDrop (dMeth .list mAppend (dVar 4) (dCons (dVar 6) dNil))) <|
           dSeq (dAsg (dLc (dSeqI (dBin dAdd (dVar 1) (dVar 2))) (dGn 8) (dFlag (dBin dIn (dVar 6) (dVar 8))) (dVar 8) [8]) (dGn 7)) <|
           dSeq (dDrop (dMeth .list mExtend (dVar 3) (dCons (dLc (dSeqI (dVar 7)) (dGn 8) (dFlag (dBin dNe (dVar 8) (dVar 5))) (dVar 8) [8]) dNil))) <|
           dSkip)
          dSkip) <|
        dSkip)) <|
     dSkip)) <|
  dSeq (dRet (dBin dEq (dCall cLen (dCons (dVar 4) dNil)) (dVar 0))) <|
  dSkip)
def m_law_do_meet : Mf := mOf 9 f_law_do_meet
def t_18 : List (Str × FT) := ("_law_do_meet", ⟨3, m_law_do_meet⟩) :: t_17
/-! ### _law_mixed -/
abbrev s_law_mixed : Stmt := topS 24
def p_law_mixed : List Str := ["tape", "things"]
def n_law_mixed : List Str := ["tape", "things", "left", "found"]
def f_law_mixed : Ss :=
  (dSeq (dPar 2 3 (dCons (dCall cList (dCons (dVar 1) dNil)) (dCons (dLst dNil) dNil))) <|
  dSeq (dWhile (dFlag (dBin dGt (dCall cLen (dCons (dVar 2) dNil)) (dC (.int 0))))
    (dSeq (dDrop (dMeth .list mAppend (dVar 3) (dCons (dMeth .list mPop (dVar 2) (dCons (dFn 2 m_law_draw (dCons (dVar 0) (dCons (dCall cLen (dCons (dVar 2) dNil)) dNil))) dNil)) dNil))) <|
     dSkip)) <|
  dSeq (dRet (dVar 3)) <|
  dSkip)
def m_law_mixed : Mf := mOf 4 f_law_mixed
def t_19 : List (Str × FT) := ("_law_mixed", ⟨2, m_law_mixed⟩) :: t_18
/-! ### _law_renamed -/
abbrev s_law_renamed : Stmt := topS 27
def p_law_renamed : List Str := ["row", "names"]
def n_law_renamed : List Str := ["row", "names", "block", "number"]
def f_law_renamed : Ss :=
  (dSeq (dRet (dCall cTuple (dCons (dCall cSort (dCons (dLc (dSeqI (dVar 0)) (dGn 2) dYes (dCall cTuple (dCons (dCall cSort (dCons (dLc (dSeqI (dVar 2)) (dGn 3) dYes (dBin dItem (dVar 1) (dVar 3)) [3]) dNil)) dNil)) [2]) dNil)) dNil))) <|
  dSkip)
def m_law_renamed : Mf := mOf 4 f_law_renamed
def t_20 : List (Str × FT) := ("_law_renamed", ⟨2, m_law_renamed⟩) :: t_19
/-! ### _law_pair_right -/
abbrev s_law_pair_right : Stmt := topS 28
def p_law_pair_right : List Str := ["tape", "many", "one", "other"]
def n_law_pair_right : List Str := ["tape", "many", "one", "other", "due", "names", "told"]
def f_law_pair_right : Ss :=
  (dSeq (dPar 4 5 (dCons (dFn 3 m_law_do_meet (dCons (dVar 1) (dCons (dVar 2) (dCons (dVar 3) dNil)))) (dCons (dFn 2 m_law_mixed (dCons (dVar 0) (dCons (dLRg (dVar 1)) dNil))) dNil))) <|
  dSeq (dFor (dSeqI (dTup (dCons (dFn 3 m_do_meet (dCons (dVar 1) (dCons (dVar 2) (dCons (dVar 3) dNil)))) (dCons (dFn 3 m_do_meet (dCons (dVar 1) (dCons (dVar 3) (dCons (dVar 2) dNil)))) dNil)))) (dGn 6)
    (dSeq (dIfS (dOrT (dNotT (dTru (dIsi "bool" (dVar 6)))) (dFlag (dBin dNe (dVar 6) (dVar 4))))
       (dSeq (dRet (dC (.bl false))) <|
        dSkip)
       dSkip) <|
     dSkip)) <|
  dSeq (dRet (dBin dEq (dFn 3 m_do_meet (dCons (dVar 1) (dCons (dFn 2 m_law_renamed (dCons (dVar 2) (dCons (dVar 5) dNil))) (dCons (dFn 2 m_law_renamed (dCons (dVar 3) (dCons (dVar 5) dNil))) dNil)))) (dVar 4))) <|
  dSkip)
def m_law_pair_right : Mf := mOf 7 f_law_pair_right
def t_21 : List (Str × FT) := ("_law_pair_right", ⟨4, m_law_pair_right⟩) :: t_20
/-! ### law -/
abbrev s_law : Stmt := topS 29
def p_law : List Str := ["script"]
def n_law : List Str := ["script", "tape", "many", "every", "turn", "one", "single", "other", "number"]
def f_law : Ss :=
  (dSeq (dAsg (dFn 1 m_law_tape (dCons (dVar 0) dNil)) (dGn 1)) <|
  dSeq (dIfS (dOrT (dFlag (dBin dIsNot (dFn 3 m_do_meet (dCons (dC (.int 3)) (dCons (dTup (dCons (dTup (dCons (dC (.int 0)) (dCons (dC (.int 1)) dNil))) (dCons (dTup (dCons (dC (.int 2)) dNil)) dNil))) (dCons (dTup (dCons (dTup (dCons (dC (.int 0)) dNil)) (dCons (dTup (dCons (dC (.int 1)) (dCons (dC (.int 2)) dNil))) dNil))) dNil)))) (dC (.bl true)))) (dFlag (dBin dIsNot (dFn 3 m_do_meet (dCons (dC (.int 4)) (dCons (dTup (dCons (dTup (dCons (dC (.int 0)) (dCons (dC (.int 1)) dNil))) (dCons (dTup (dCons (dC (.int 2)) (dCons (dC (.int 3)) dNil))) dNil))) (dCons (dTup (dCons (dTup (dCons (dC (.int 0)) (dCons (dC (.int 1)) dNil))) (dCons (dTup (dCons (dC (.int 2)) dNil)) (dCons (dTup (dCons (dC (.int 3)) dNil)) dNil)))) dNil)))) (dC (.bl false)))))
    (dSeq (dRet (dC (.bl false))) <|
     dSkip)
    dSkip) <|
  dSeq (dIfS (dOrT (dFlag (dBin dIsNot (dFn 3 m_do_meet (dCons (dC (.int 1)) (dCons (dTup (dCons (dTup (dCons (dC (.int 0)) dNil)) dNil)) (dCons (dTup (dCons (dTup (dCons (dC (.int 0)) dNil)) dNil)) dNil)))) (dC (.bl true)))) (dFlag (dBin dIsNot (dFn 3 m_do_meet (dCons (dC (.int 2)) (dCons (dTup (dCons (dTup (dCons (dC (.int 0)) (dCons (dC (.int 1)) dNil))) dNil)) (dCons (dTup (dCons (dTup (dCons (dC (.int 0)) (dCons (dC (.int 1)) dNil))) dNil)) dNil)))) (dC (.bl false)))))
    (dSeq (dRet (dC (.bl false))) <|
     dSkip)
    dSkip) <|
  dSeq (dFor (dSeqI (dTup (dCons (dC (.int 1)) (dCons (dC (.int 2)) (dCons (dC (.int 3)) dNil))))) (dGn 2)
    (dSeq (dAsg (dFn 1 m_law_parted (dCons (dLRg (dVar 2)) dNil)) (dGn 3)) <|
     dSeq (dIfS (dNotT (dTru (dCall cAll (dCons (dLc (dSeqI (dVar 3)) (dGn 5) dYes (dCall cAll (dCons (dLc (dSeqI (dVar 3)) (dGn 7) dYes (dBin dEq (dFn 3 m_do_meet (dCons (dVar 2) (dCons (dVar 5) (dCons (dVar 7) dNil)))) (dFn 3 m_law_do_meet (dCons (dVar 2) (dCons (dVar 5) (dCons (dVar 7) dNil))))) [7]) dNil)) [5]) dNil))))
       (dSeq (dRet (dC (.bl false))) <|
        dSkip)
       dSkip) <|
     dSkip)) <|
  dSeq (dFor (dRngI rng1 (dCons (dC (.int 6)) dNil)) (dGn 4)
    (dSeq (dAsg (dBin dAdd (dC (.int 2)) (dFn 2 m_law_draw (dCons (dVar 1) (dCons (dC (.int 6)) dNil)))) (dGn 2)) <|
     dSeq (dPar 5 6 (dCons (dFn 2 m_law_drawn (dCons (dVar 1) (dCons (dVar 2) dNil))) (dCons (dCall cTuple (dCons (dLc (dRngI rng1 (dCons (dVar 2) dNil)) (dGn 8) dYes (dTup (dCons (dVar 8) dNil)) [8]) dNil)) dNil))) <|
     dSeq (dFor (dSeqI (dTup (dCons (dFn 2 m_law_drawn (dCons (dVar 1) (dCons (dVar 2) dNil))) (dCons (dFn 3 m_law_meeting (dCons (dVar 1) (dCons (dVar 2) (dCons (dVar 5) dNil)))) (dCons (dFn 3 m_law_meeting (dCons (dVar 1) (dCons (dVar 2) (dCons (dVar 5) dNil)))) dNil))))) (dGn 7)
       (dSeq (dIfS (dNotT (dTru (dFn 4 m_law_pair_right (dCons (dVar 1) (dCons (dVar 2) (dCons (dVar 5) (dCons (dVar 7) dNil)))))))
          (dSeq (dRet (dC (.bl false))) <|
           dSkip)
          dSkip) <|
        dSkip)) <|
     dSeq (dIfS (dOrT (dFlag (dBin dNe (dFn 3 m_do_meet (dCons (dVar 2) (dCons (dTup (dCons (dTRg (dVar 2)) dNil)) (dCons (dVar 5) dNil)))) (dBin dEq (dVar 5) (dVar 6)))) (dFlag (dBin dNe (dFn 3 m_do_meet (dCons (dVar 2) (dCons (dVar 5) (dCons (dVar 6) dNil)))) (dBin dEq (dCall cLen (dCons (dVar 5) dNil)) (dC (.int 1))))))
       (dSeq (dRet (dC (.bl false))) <|
        dSkip)
       dSkip) <|
     dSkip)) <|
  dSeq (dRet (dC (.bl true))) <|
  dSkip)
def m_law : Mf := mOf 9 f_law
def t_22 : List (Str × FT) := ("law", ⟨1, m_law⟩) :: t_21
/-! ### checks -/
theorem c_law_tape : FnScope n_law_tape p_law_tape (defScope s_law_tape) := ⟨rfl, rfl, rfl, by decide +kernel, rfl, by decide +kernel, by decide +kernel⟩
theorem b_law_tape : bodyD (cfgOf n_law_tape s_law_tape t_0 ct_0 gG gB) (defBody s_law_tape) = some f_law_tape := by kernel_rfl
theorem c_law_parted : FnScope n_law_parted p_law_parted (defScope s_law_parted) := ⟨rfl, rfl, rfl, by decide +kernel, rfl, by decide +kernel, by decide +kernel⟩
theorem b_law_parted : bodyD (cfgOf n_law_parted s_law_parted t_1 ct_0 gG gB) (defBody s_law_parted) = some f_law_parted := by kernel_rfl
theorem c_is_integer : FnScope n_is_integer p_is_integer (defScope s_is_integer) := ⟨rfl, rfl, rfl, by decide +kernel, rfl, by decide +kernel, by decide +kernel⟩
theorem b_is_integer : bodyD (cfgOf n_is_integer s_is_integer t_2 ct_0 gG gB) (defBody s_is_integer) = some f_is_integer := by kernel_rfl
theorem c_is_within : FnScope n_is_within p_is_within (defScope s_is_within) := ⟨rfl, rfl, rfl, by decide +kernel, rfl, by decide +kernel, by decide +kernel⟩
theorem b_is_within : bodyD (cfgOf n_is_within s_is_within t_3 ct_0 gG gB) (defBody s_is_within) = some f_is_within := by kernel_rfl
theorem c_check_many : FnScope n_check_many p_check_many (defScope s_check_many) := ⟨rfl, rfl, rfl, by decide +kernel, rfl, by decide +kernel, by decide +kernel⟩
theorem b_check_many : bodyD (cfgOf n_check_many s_check_many t_4 ct_0 gG gB) (defBody s_check_many) = some f_check_many := by kernel_rfl
theorem c_root_of : FnScope n_root_of p_root_of (defScope s_root_of) := ⟨rfl, rfl, rfl, by decide +kernel, rfl, by decide +kernel, by decide +kernel⟩
theorem b_root_of : bodyD (cfgOf n_root_of s_root_of t_5 ct_0 gG gB) (defBody s_root_of) = some f_root_of := by kernel_rfl
theorem c_is_tree : FnScope n_is_tree p_is_tree (defScope s_is_tree) := ⟨rfl, rfl, rfl, by decide +kernel, rfl, by decide +kernel, by decide +kernel⟩
theorem b_is_tree : bodyD (cfgOf n_is_tree s_is_tree t_6 ct_0 gG gB) (defBody s_is_tree) = some f_is_tree := by kernel_rfl
theorem c_meet : FnScope n_meet p_meet (defScope s_meet) := ⟨rfl, rfl, rfl, by decide +kernel, rfl, by decide +kernel, by decide +kernel⟩
theorem b_meet : bodyD (cfgOf n_meet s_meet t_7 ct_0 gG gB) (defBody s_meet) = some f_meet := by kernel_rfl
theorem c_are_ascending : FnScope n_are_ascending p_are_ascending (defScope s_are_ascending) := ⟨rfl, rfl, rfl, by decide +kernel, rfl, by decide +kernel, by decide +kernel⟩
theorem b_are_ascending : bodyD (cfgOf n_are_ascending s_are_ascending t_8 ct_0 gG gB) (defBody s_are_ascending) = some f_are_ascending := by kernel_rfl
theorem c_is_tuple : FnScope n_is_tuple p_is_tuple (defScope s_is_tuple) := ⟨rfl, rfl, rfl, by decide +kernel, rfl, by decide +kernel, by decide +kernel⟩
theorem b_is_tuple : bodyD (cfgOf n_is_tuple s_is_tuple t_9 ct_0 gG gB) (defBody s_is_tuple) = some f_is_tuple := by kernel_rfl
theorem c_is_block : FnScope n_is_block p_is_block (defScope s_is_block) := ⟨rfl, rfl, rfl, by decide +kernel, rfl, by decide +kernel, by decide +kernel⟩
theorem b_is_block : bodyD (cfgOf n_is_block s_is_block t_10 ct_0 gG gB) (defBody s_is_block) = some f_is_block := by kernel_rfl
theorem c_is_partition : FnScope n_is_partition p_is_partition (defScope s_is_partition) := ⟨rfl, rfl, rfl, by decide +kernel, rfl, by decide +kernel, by decide +kernel⟩
theorem b_is_partition : bodyD (cfgOf n_is_partition s_is_partition t_11 ct_0 gG gB) (defBody s_is_partition) = some f_is_partition := by kernel_rfl
theorem c_do_meet : FnScope n_do_meet p_do_meet (defScope s_do_meet) := ⟨rfl, rfl, rfl, by decide +kernel, rfl, by decide +kernel, by decide +kernel⟩
theorem b_do_meet : bodyD (cfgOf n_do_meet s_do_meet t_12 ct_0 gG gB) (defBody s_do_meet) = some f_do_meet := by kernel_rfl
theorem c_law_draw : FnScope n_law_draw p_law_draw (defScope s_law_draw) := ⟨rfl, rfl, rfl, by decide +kernel, rfl, by decide +kernel, by decide +kernel⟩
theorem b_law_draw : bodyD (cfgOf n_law_draw s_law_draw t_13 ct_0 gG gB) (defBody s_law_draw) = some f_law_draw := by kernel_rfl
theorem c_law_drawn : FnScope n_law_drawn p_law_drawn (defScope s_law_drawn) := ⟨rfl, rfl, rfl, by decide +kernel, rfl, by decide +kernel, by decide +kernel⟩
theorem b_law_drawn : bodyD (cfgOf n_law_drawn s_law_drawn t_14 ct_0 gG gB) (defBody s_law_drawn) = some f_law_drawn := by kernel_rfl
theorem c_law_any : FnScope n_law_any p_law_any (defScope s_law_any) := ⟨rfl, rfl, rfl, by decide +kernel, rfl, by decide +kernel, by decide +kernel⟩
theorem b_law_any : bodyD (cfgOf n_law_any s_law_any t_15 ct_0 gG gB) (defBody s_law_any) = some f_law_any := by kernel_rfl
theorem c_law_meeting : FnScope n_law_meeting p_law_meeting (defScope s_law_meeting) := ⟨rfl, rfl, rfl, by decide +kernel, rfl, by decide +kernel, by decide +kernel⟩
theorem b_law_meeting : bodyD (cfgOf n_law_meeting s_law_meeting t_16 ct_0 gG gB) (defBody s_law_meeting) = some f_law_meeting := by kernel_rfl
theorem c_law_do_meet : FnScope n_law_do_meet p_law_do_meet (defScope s_law_do_meet) := ⟨rfl, rfl, rfl, by decide +kernel, rfl, by decide +kernel, by decide +kernel⟩
theorem b_law_do_meet : bodyD (cfgOf n_law_do_meet s_law_do_meet t_17 ct_0 gG gB) (defBody s_law_do_meet) = some f_law_do_meet := by kernel_rfl
theorem c_law_mixed : FnScope n_law_mixed p_law_mixed (defScope s_law_mixed) := ⟨rfl, rfl, rfl, by decide +kernel, rfl, by decide +kernel, by decide +kernel⟩
theorem b_law_mixed : bodyD (cfgOf n_law_mixed s_law_mixed t_18 ct_0 gG gB) (defBody s_law_mixed) = some f_law_mixed := by kernel_rfl
theorem c_law_renamed : FnScope n_law_renamed p_law_renamed (defScope s_law_renamed) := ⟨rfl, rfl, rfl, by decide +kernel, rfl, by decide +kernel, by decide +kernel⟩
theorem b_law_renamed : bodyD (cfgOf n_law_renamed s_law_renamed t_19 ct_0 gG gB) (defBody s_law_renamed) = some f_law_renamed := by kernel_rfl
theorem c_law_pair_right : FnScope n_law_pair_right p_law_pair_right (defScope s_law_pair_right) := ⟨rfl, rfl, rfl, by decide +kernel, rfl, by decide +kernel, by decide +kernel⟩
theorem b_law_pair_right : bodyD (cfgOf n_law_pair_right s_law_pair_right t_20 ct_0 gG gB) (defBody s_law_pair_right) = some f_law_pair_right := by kernel_rfl
theorem c_law : FnScope n_law p_law (defScope s_law) := ⟨rfl, rfl, rfl, by decide +kernel, rfl, by decide +kernel, by decide +kernel⟩
theorem b_law : bodyD (cfgOf n_law s_law t_21 ct_0 gG gB) (defBody s_law) = some f_law := by kernel_rfl
end K47
namespace K47
open PySem L2 PyProof.Rows PN
/-! # the plain law -/
theorem big_ge : 1000000 ≤ BIG := by decide
theorem is_integer_int (i : Int) (h : Hd) : m_is_integer [.int i] h = .ok (.bl true) h := by
  simp [m_is_integer, mOf, f_is_integer, dSeq, dRet, dAnd, dIsi, dVar, isiB, tyOfD, isiOne, dNot, truB, fnEnd, ofO, dSkip]
theorem is_within_int (i a b : Int) (h : Hd) : m_is_within [.int i, .int a, .int b] h = .ok (.bl (decide (a ≤ i) && decide (i ≤ b))) h := by
  have e : dFn 1 m_is_integer (dCons (dVar 0) dNil) [some (.int i), some (.int a), some (.int b)] h = .ok (.bl true) h := dFn_val (dCons_ok rfl dNil_ok) rfl (is_integer_int i h) (List.prefix_refl h) rfl
  simp [m_is_within, mOf, f_is_within, dSeq, dRet, dAnd, dChain, dVar, truB, fnEnd, ofO, dSkip, e, dLe, dLess]
  by_cases c : a ≤ i <;> simp [c]
theorem is_tuple_tup (l : List D) (a b : Int) (h : Hd) (hz : l.length ≤ BIG) : m_is_tuple [.tup l, .int a, .int b] h = .ok (.bl (decide (a ≤ l.length) && decide ((l.length : Int) ≤ b))) h := by
  have e : dCall cLen (dCons (dVar 0) dNil) [some (.tup l), some (.int a), some (.int b)] h = .ok (.int l.length) h := len_tup rfl (List.prefix_refl h) hz
  simp [m_is_tuple, mOf, f_is_tuple, dSeq, dRet, dAnd, dIsi, isiB, tyOfD, isiOne, dChain, dVar, truB, fnEnd, ofO, dSkip, e, dLe, dLess]
  by_cases c : a ≤ l.length <;> simp [c]
theorem asc_ok (l : List D) (lt : D → D → Bool) (h : Hd) (hlt : ∀ x ∈ l, ∀ y ∈ l, ∀ h', dLt x y h' = some (.bl (lt x y), h')) (hz : l.length < BIG) : m_are_ascending [.tup l] h = .ok (.bl ((List.zipWith lt l (l.drop 1)).all id)) h := by
  have s : dArgI zip2N (dCons (dVar 0) (dCons (dSlice (dVar 0) (some (dC (.int 1))) none) dNil)) [some (.tup l), none, none] h = .ok (nxZip (nxOf l) (nxOf (l.drop 1))) h := by
    simp [dArgI, dCons, dVar, dSlice, dPart, dC, sliceD, ofO, dNil, zip2N, ofN]
    rw [show (1 : Int) = ((1 : Nat) : Int) from rfl, cut_from]
    simp
  have c : dLc (dArgI zip2N (dCons (dVar 0) (dCons (dSlice (dVar 0) (some (dC (.int 1))) none) dNil))) (dGtup 2 (dGcons (dGn 1) (dGcons (dGn 2) dGnil))) dYes (dBin dLt (dVar 1) (dVar 2)) [1, 2] [some (.tup l), none, none] h =
      .ok (.ref h.length) (h ++ [.lst (((List.zipWith lt l (l.drop 1)).map D.bl))]) := by
    rw [lc_all (F := fun d => match d with
      | .tup [x, y] => .bl (lt x y)
      | _ => .non) (fun d => match d with
      | .tup [x, y] => [some (.tup l), some x, some y]
      | _ => []) s nxZip_at (by simp only [List.length_zipWith, List.length_drop]; omega) ?_ ?_]
    · congr 4
      rw [List.map_zipWith, List.map_zipWith]
    · intro d hd
      obtain ⟨x, hx, y, hy, rfl⟩ := mem_zipWith hd
      rfl
    · intro d hd
      obtain ⟨x, hx, y, hy, rfl⟩ := mem_zipWith hd
      exact bin_ok rfl rfl (hlt x hx y (List.mem_of_mem_drop hy) h)
  exact mOf_rt (seq_rt (ret_ok (dAll_ok c (List.prefix_refl h))))
/-! ## partitions as rows of rows of numbers -/
def nd (n : Nat) : D := .int n
def bk (b : List Nat) : D := .tup (b.map nd)
def pt (r : List (List Nat)) : D := .tup (r.map bk)
theorem nd_it (n : Nat) : (nd n).it = true := rfl
theorem bk_itL (b : List Nat) : D.itL (b.map nd) = true := itL_mem.mpr fun d hd => by
  obtain ⟨n, _, rfl⟩ := List.mem_map.mp hd; rfl
theorem bk_it (b : List Nat) : (bk b).it = true := by simp only [bk, D.it]; exact bk_itL b
theorem pt_itL (r : List (List Nat)) : D.itL (r.map bk) = true := itL_mem.mpr fun d hd => by
  obtain ⟨n, _, rfl⟩ := List.mem_map.mp hd; exact bk_it n
theorem pt_it (r : List (List Nat)) : (pt r).it = true := by simp only [pt, D.it]; exact pt_itL r
theorem nd_depth (n : Nat) : (nd n).depth = 0 := by simp [nd, D.depth]
theorem bk_depth (b : List Nat) : (bk b).depth ≤ 1 := by
  simp only [bk, D.depth]
  have : D.depthL (b.map nd) ≤ 0 := depthL_le fun d hd => by
    obtain ⟨n, _, rfl⟩ := List.mem_map.mp hd; rw [nd_depth]; exact Nat.le_refl _
  omega
theorem pt_depth (r : List (List Nat)) : (pt r).depth ≤ 2 := by
  simp only [pt, D.depth]
  have : D.depthL (r.map bk) ≤ 1 := depthL_le fun d hd => by
    obtain ⟨n, _, rfl⟩ := List.mem_map.mp hd; exact bk_depth n
  omega
theorem nd_inj {a b : Nat} (e : nd a = nd b) : a = b := by
  have e' : (a : Int) = (b : Int) := by simpa only [nd, D.int.injEq] using e
  omega
theorem map_inj {α β : Type} {f : α → β} (hf : ∀ a b, f a = f b → a = b) : ∀ {l m : List α}, l.map f = m.map f → l = m
  | [], [], _ => rfl
  | [], _ :: _, h => by simp at h
  | _ :: _, [], h => by simp at h
  | x :: l, y :: m, h => by
    simp only [List.map_cons, List.cons.injEq] at h
    rw [hf _ _ h.1, map_inj hf h.2]
theorem bk_inj {a b : List Nat} (e : bk a = bk b) : a = b := map_inj (fun _ _ => nd_inj) (by simpa [bk] using e)
theorem pt_inj {a b : List (List Nat)} (e : pt a = pt b) : a = b := map_inj (fun _ _ => bk_inj) (by simpa [pt] using e)
/-- a partition of the numbers below n, in the order asked for -/
def okBlk (n : Nat) (b : List Nat) : Bool := !b.isEmpty && decide (b.length ≤ n) && b.all (fun i => decide (i < n)) && (List.zipWith (fun x y => decide (x < y)) b (b.drop 1)).all id
def okPart (n : Nat) (p : List (List Nat)) : Bool := decide (p.length ≤ n) && p.all (okBlk n) && (List.zipWith (fun x y => decide (x.headD 0 < y.headD 0)) p (p.drop 1)).all id && p.flatten.isPerm (List.range n)
def grow1 (n : Nat) (row : List (List Nat)) : List (List (List Nat)) := (row ++ [[n]]) :: (List.range row.length).map fun i => row.take i ++ [row.getD i [] ++ [n]] ++ row.drop (i + 1)
def parts : Nat → List (List (List Nat))
  | 0 => [[]]
  | n + 1 => (parts n).flatMap (grow1 n)
theorem parts_ok : ∀ n, 1 ≤ n → n ≤ 7 → (parts n).all (okPart n) = true
  | 1, _, _ => by decide +kernel
  | 2, _, _ => by decide +kernel
  | 3, _, _ => by decide +kernel
  | 4, _, _ => by decide +kernel
  | 5, _, _ => by decide +kernel
  | 6, _, _ => by decide +kernel
  | 7, _, _ => by decide +kernel
  | 0, h, _ => absurd h (by omega)
  | n + 8, _, h => absurd h (by omega)
theorem parts_len : ∀ n, n ≤ 7 → (parts n).length ≤ 877
  | 0, _ => by decide +kernel
  | 1, _ => by decide +kernel
  | 2, _ => by decide +kernel
  | 3, _ => by decide +kernel
  | 4, _ => by decide +kernel
  | 5, _ => by decide +kernel
  | 6, _ => by decide +kernel
  | 7, _ => by decide +kernel
  | n + 8, h => absurd h (by omega)
/-! ## is_block, is_partition -/
theorem zipall_mono {α : Type} {f g : α → α → Bool} : ∀ {a b : List α}, (∀ x ∈ a, ∀ y ∈ b, f x y = true → g x y = true) → (List.zipWith f a b).all id = true → (List.zipWith g a b).all id = true
  | [], _, _, _ => by simp
  | _ :: _, [], _, _ => by simp
  | x :: a, y :: b, h, e => by
    simp only [List.zipWith_cons_cons, List.all_cons, id_eq, Bool.and_eq_true] at e ⊢
    exact ⟨h x List.mem_cons_self y List.mem_cons_self e.1, zipall_mono (fun u hu v hv => h u (List.mem_cons_of_mem _ hu) v (List.mem_cons_of_mem _ hv)) e.2⟩
theorem zipall_map {α β : Type} {f : α → α → Bool} {g : β → β → Bool} {k : α → β} (hk : ∀ x y, f x y = true → g (k x) (k y) = true) : ∀ {a b : List α}, (List.zipWith f a b).all id = true → (List.zipWith g (a.map k) (b.map k)).all id = true
  | [], _, _ => by simp
  | _ :: _, [], _ => by simp
  | x :: a, y :: b, e => by
    simp only [List.zipWith_cons_cons, List.map_cons, List.all_cons, id_eq, Bool.and_eq_true] at e ⊢
    exact ⟨hk x y e.1, zipall_map hk e.2⟩
theorem asc_nums (b : List Nat) (h : Hd) (hz : b.length < BIG) (ha : (List.zipWith (fun x y => decide (x < y)) b (b.drop 1)).all id = true) : m_are_ascending [bk b] h = .ok (.bl true) h := by
  have q := asc_ok (b.map nd) (fun x y => match x, y with
    | .int i, .int j => decide (i < j)
    | _, _ => false) h (fun x hx y hy h' => by
      obtain ⟨i, _, rfl⟩ := List.mem_map.mp hx
      obtain ⟨j, _, rfl⟩ := List.mem_map.mp hy
      rfl) (by simpa using hz)
  rw [show D.tup (b.map nd) = bk b from rfl] at q
  rw [q, ← List.map_drop, zipall_map (fun x y e => by simpa [nd] using e) ha]
theorem is_block_ok (n : Nat) (b : List Nat) (h : Hd) (hn : n ≤ 7) (ok : okBlk n b = true) : m_is_block [nd n, bk b] h = .ok (.bl true) h := by
  simp only [okBlk, Bool.and_eq_true, decide_eq_true_eq, Bool.not_eq_true', List.all_eq_true] at ok
  obtain ⟨⟨⟨o1, o2⟩, o3⟩, o4⟩ := ok
  have hb := big_ge
  have e1 : dFn 3 m_is_tuple (dCons (dVar 1) (dCons (dC (.int 1)) (dCons (dVar 0) dNil))) [some (nd n), some (bk b), none] h = .ok (.bl true) h := by
    refine dFn_val (dCons_ok rfl (dCons_ok rfl (dCons_ok rfl dNil_ok))) rfl (is_tuple_tup _ _ _ h (by simp; omega)) (List.prefix_refl h) rfl |>.trans ?_
    have : 1 ≤ b.length := by
      cases b with
      | nil => simp at o1
      | cons => simp
    simp; omega
  have e2 : dCall cAll (dCons (dLc (dSeqI (dVar 1)) (dGn 2) dYes (dFn 3 m_is_within (dCons (dVar 2) (dCons (dC (.int 0)) (dCons (dBin dSub (dVar 0) (dC (.int 1))) dNil)))) [2]) dNil) [some (nd n), some (bk b), none] h = .ok (.bl true) h := by
    have c := lc_all (s := dSeqI (dVar 1)) (g := dGn 2) (f := dFn 3 m_is_within (dCons (dVar 2) (dCons (dC (.int 0)) (dCons (dBin dSub (dVar 0) (dC (.int 1))) dNil)))) (vs := [2]) (env := [some (nd n), some (bk b), none]) (h := h) (F := fun _ => D.bl true)
      (fun d => [some (nd n), some (bk b), some d]) (seqI_tup rfl) nxOf_at (by simp; omega) (fun d hd => rfl) (fun d hd => by
        obtain ⟨i, hi, rfl⟩ := List.mem_map.mp hd
        have := o3 i hi
        refine (dFn_val (dCons_ok rfl (dCons_ok rfl (dCons_ok (bin_ok rfl rfl rfl) dNil_ok))) rfl (is_within_int _ _ _ h) (List.prefix_refl h) rfl).trans ?_
        simp; omega)
    rw [show ((b.map nd).map fun _ => D.bl true) = (b.map fun _ => true).map D.bl by simp] at c
    refine (dAll_ok c (List.prefix_refl h)).trans ?_
    simp
  have e3 : dFn 1 m_are_ascending (dCons (dVar 1) dNil) [some (nd n), some (bk b), none] h = .ok (.bl true) h := dFn_val (dCons_ok rfl dNil_ok) rfl (asc_nums b h (by omega) (by simpa [List.all_eq_true] using o4)) (List.prefix_refl h) rfl
  exact mOf_rt (seq_rt (ret_ok ((and_t e1).trans ((and_t e2).trans e3))))
theorem bk_lt (a b : List Nat) (h : Hd) : dLt (bk a) (bk b) h = some (.bl (PySem.W.dataLt (bk a).py (bk b).py), h) := by
  have al : ∀ x y : List Nat, PySem.W.alikeAll (D.pyL (x.map nd)) (D.pyL (y.map nd)) = true := fun x => by
    induction x with
    | nil => intro y; simp [D.pyL, PySem.W.alikeAll]
    | cons i x ih =>
      intro y
      cases y with
      | nil => simp [D.pyL, PySem.W.alikeAll]
      | cons j y => simp [D.pyL, PySem.W.alikeAll, nd, D.py, PySem.W.alike]; exact ih y
  have r1 : ∀ x : List Nat, rd h 3 (bk x) = some (bk x).py := fun x => rd_it 3 (bk_it x)
  have dp : (bk a).py.depth ≤ 50 := by rw [depth_py]; have := bk_depth a; omega
  have ak : PySem.W.alike (bk a).py (bk b).py = true := by simp only [bk, D.py, PySem.W.alike]; exact al a b
  show ((rd h 3 (bk a)).bind fun p => (rd h 3 (bk b)).bind fun q => if PySem.W.alike p q = true ∧ notNone p = true ∧ p.depth ≤ 50 then some (D.bl (PySem.W.dataLt p q), h) else none) = _
  rw [r1, r1, Option.bind_some, Option.bind_some, if_pos ⟨ak, by simp [bk, D.py, notNone], dp⟩]
theorem bk_lt_head {a b : List Nat} (ha : a ≠ []) (hb : b ≠ []) (hd : a.headD 0 < b.headD 0) : PySem.W.dataLt (bk a).py (bk b).py = true := by
  cases a with
  | nil => exact absurd rfl ha
  | cons i a =>
    cases b with
    | nil => exact absurd rfl hb
    | cons j b =>
      simp only [List.headD_cons] at hd
      simp only [bk, D.py, List.map_cons, D.pyL]
      rw [PySem.W.dataLt_tuple, PySem.W.dataLt_all_no (by simp [nd, D.py, PySem.W.alike]) (by simp [nd, D.py, PyData.eqv]; omega)]
      simp only [nd, D.py, PySem.W.dataLt_int]
      simp; omega
theorem asc_blocks (p : List (List Nat)) (h : Hd) (hz : p.length < BIG) (hne : ∀ b ∈ p, b ≠ []) (ha : (List.zipWith (fun x y => decide (x.headD 0 < y.headD 0)) p (p.drop 1)).all id = true) : m_are_ascending [pt p] h = .ok (.bl true) h := by
  have q := asc_ok (p.map bk) (fun x y => PySem.W.dataLt x.py y.py) h (fun x hx y hy h' => by
      obtain ⟨i, _, rfl⟩ := List.mem_map.mp hx
      obtain ⟨j, _, rfl⟩ := List.mem_map.mp hy
      exact bk_lt i j h') (by simpa using hz)
  rw [show D.tup (p.map bk) = pt p from rfl] at q
  rw [q, ← List.map_drop]
  rw [show (List.zipWith (fun x y => PySem.W.dataLt x.py y.py) (p.map bk) ((p.drop 1).map bk)).all id = true by
    rw [List.zipWith_map_left, List.zipWith_map_right]
    exact zipall_mono (fun x hx y hy e => bk_lt_head (hne x hx) (hne y (List.mem_of_mem_drop hy)) (by simpa using e)) ha]
theorem rows_pt : ∀ p : List (List Nat), rowsOf (p.map bk) = some (p.map fun b => b.map nd)
  | [] => rfl
  | b :: p => by simp [rowsOf, bk, rows_pt p]
theorem flat_nd (p : List (List Nat)) : (p.map fun b => b.map nd).flatten = p.flatten.map nd := List.map_flatten.symm
theorem leD_nd (a b : Nat) : leD (nd a) (nd b) = decide (a ≤ b) := by
  unfold leD
  rw [PySem.W.dataLe_eq]
  simp only [nd, D.py, PySem.W.dataLt_int, cond_false]
  by_cases c : a ≤ b <;> simp [c] <;> omega
theorem le_trans' (a b c : D) (h1 : leD a b = true) (h2 : leD b c = true) : leD a c = true := (PySem.W.sortLe_total (listOrd itemOrd) false fun b : D => PySem.W.keyToks b.py).trans a b c h1 h2
theorem le_total' (a b : D) : (leD a b || leD b a) = true := by
  rw [Bool.or_eq_true]
  exact (PySem.W.sortLe_total (listOrd itemOrd) false fun b : D => PySem.W.keyToks b.py).total a b
theorem sort_nums {l : List Nat} {n : Nat} (p : l.Perm (List.range n)) : (l.map nd).mergeSort leD = (List.range n).map nd := by
  refine List.Perm.eq_of_pairwise (le := fun a b => leD a b = true) ?_ (List.pairwise_mergeSort le_trans' le_total' _) ?_ ((List.mergeSort_perm _ _).trans (p.map nd))
  · intro a b ha hb h1 h2
    have ha' := (List.mergeSort_perm _ _).mem_iff.mp ha
    obtain ⟨i, _, rfl⟩ := List.mem_map.mp ha'
    obtain ⟨j, _, rfl⟩ := List.mem_map.mp hb
    rw [leD_nd, decide_eq_true_eq] at h1 h2
    rw [show i = j by omega]
  · rw [List.pairwise_map]
    exact List.pairwise_lt_range.imp fun {a b} e => by rw [leD_nd, decide_eq_true_eq]; omega
theorem lrg_ok {f : Se} {env : PN.Env} {h h1 : Hd} {n : Nat} (e : f env h = .ok (nd n) h1) (hn : n ≤ 1000) : dLRg f env h = .ok (.ref h1.length) (h1 ++ [.lst ((List.range n).map nd)]) := by
  have c := lrg_raw (i := (n : Int)) e (rg_ok hn)
  rw [rgD_nat] at c
  exact c
theorem is_partition_ok (n : Nat) (p : List (List Nat)) (h : Hd) (hn : n ≤ 7) (ok : okPart n p = true) : m_is_partition [nd n, pt p] h = .ok (.bl true) (h ++ [.lst ((List.range n).map nd)] ++ [.lst ((List.range n).map nd)]) := by
  simp only [okPart, Bool.and_eq_true, decide_eq_true_eq, List.all_eq_true (p := okBlk n)] at ok
  obtain ⟨⟨⟨o1, o2⟩, o3⟩, o4⟩ := ok
  have hb := big_ge
  have hf := (List.isPerm_iff.mp o4)
  have hfl : p.flatten.length = n := by simpa using hf.length_eq
  have hne : ∀ b ∈ p, b ≠ [] := fun b hb e => by
    have := o2 b hb
    rw [e] at this
    simp [okBlk] at this
  have e1 : dFn 3 m_is_tuple (dCons (dVar 1) (dCons (dC (.int 0)) (dCons (dVar 0) dNil))) [some (nd n), some (pt p), none] h = .ok (.bl true) h := by
    refine dFn_val (dCons_ok rfl (dCons_ok rfl (dCons_ok rfl dNil_ok))) rfl (is_tuple_tup _ _ _ h (by simp; omega)) (List.prefix_refl h) rfl |>.trans ?_
    simp; omega
  have e2 : dCall cAll (dCons (dLc (dSeqI (dVar 1)) (dGn 2) dYes (dFn 2 m_is_block (dCons (dVar 0) (dCons (dVar 2) dNil))) [2]) dNil) [some (nd n), some (pt p), none] h = .ok (.bl true) h := by
    have c := lc_all (s := dSeqI (dVar 1)) (g := dGn 2) (f := dFn 2 m_is_block (dCons (dVar 0) (dCons (dVar 2) dNil))) (vs := [2]) (env := [some (nd n), some (pt p), none]) (h := h) (F := fun _ => D.bl true)
      (fun d => [some (nd n), some (pt p), some d]) (seqI_tup rfl) nxOf_at (by simp; omega) (fun d hd => rfl) (fun d hd => by
        obtain ⟨b, hi, rfl⟩ := List.mem_map.mp hd
        exact dFn_val (dCons_ok rfl (dCons_ok rfl dNil_ok)) rfl (is_block_ok n b h hn (o2 b hi)) (List.prefix_refl h) rfl)
    rw [show ((p.map bk).map fun _ => D.bl true) = (p.map fun _ => true).map D.bl by simp] at c
    refine (dAll_ok c (List.prefix_refl h)).trans ?_
    simp
  have c1 : dIfS (dOrT (dNotT (dTru (dFn 3 m_is_tuple (dCons (dVar 1) (dCons (dC (.int 0)) (dCons (dVar 0) dNil)))))) (dNotT (dTru (dCall cAll (dCons (dLc (dSeqI (dVar 1)) (dGn 2) dYes (dFn 2 m_is_block (dCons (dVar 0) (dCons (dVar 2) dNil))) [2]) dNil)))))
    (dSeq (dRet (dC (.bl false))) <| dSkip) dSkip [some (nd n), some (pt p), none] h = .nx [some (nd n), some (pt p), none] h :=
    if_f ((orT_f (notT_ok (tru_bl e1))).trans (notT_ok (tru_bl e2)))
  have es : dCall cSumA (dCons (dVar 1) (dCons (dTup dNil) dNil)) [some (nd n), some (pt p), none] h = .ok (.tup (p.flatten.map nd)) h := by
    refine dCall_val (dCons_ok rfl (dCons_ok (tup_ok dNil_ok (by simp)) dNil_ok)) (h2 := h) ?_ (List.prefix_refl h) (by rw [und_tup]; exact it_undL _ (bk_itL _))
    show (Option.bind (some (p.map bk)) fun l => (rowsOf l).bind fun rows => if ([] : List D).length + rows.flatten.length ≤ BIG then some (D.tup ([] ++ rows.flatten), h) else none) = _
    rw [Option.bind_some, rows_pt, Option.bind_some, flat_nd, if_pos (by rw [List.length_nil, Nat.zero_add, List.length_map, hfl]; omega), List.nil_append]
  have ec : dCall cSort (dCons (dCall cSumA (dCons (dVar 1) (dCons (dTup dNil) dNil))) dNil) [some (nd n), some (pt p), none] h = .ok (.ref h.length) (h ++ [.lst ((List.range n).map nd)]) := by
    rw [← sort_nums hf]
    refine dCall_lst (dCons_ok es dNil_ok) (h2 := h ++ [.lst ((p.flatten.map nd).mergeSort leD)]) (j := h.length) ?_ (List.prefix_append _ _) (Nat.le_refl _) new_at (by rw [sort_nums hf]; exact it_undL _ (bk_itL _))
    have s : sortableB (p.flatten.map nd) = true := by
      simp only [sortableB, Bool.and_eq_true, decide_eq_true_eq, Bool.or_eq_true]
      refine ⟨⟨⟨it_undL _ (bk_itL _), ?_⟩, .inr ?_⟩, ?_⟩
      · simp only [alikeB, List.all_eq_true, List.mem_map]
        rintro _ ⟨i, _, rfl⟩ _ ⟨j, _, rfl⟩
        rfl
      · simp only [List.all_eq_true, List.mem_map]
        rintro _ ⟨i, _, rfl⟩
        rfl
      · exact Nat.le_trans (depthL_le (b := 0) fun d hd => by obtain ⟨i, _, rfl⟩ := List.mem_map.mp hd; rw [nd_depth]; exact Nat.le_refl _) (by omega)
    show (if sortableB (p.flatten.map nd) = true ∧ (p.flatten.map nd).length ≤ BIG then some (D.ref h.length, h ++ [.lst ((p.flatten.map nd).mergeSort leD)]) else none) = _
    rw [if_pos ⟨s, by rw [List.length_map, hfl]; omega⟩]
  have ea : dFn 1 m_are_ascending (dCons (dVar 1) dNil) [some (nd n), some (pt p), none] (h ++ [.lst ((List.range n).map nd)] ++ [.lst ((List.range n).map nd)]) = .ok (.bl true) (h ++ [.lst ((List.range n).map nd)] ++ [.lst ((List.range n).map nd)]) :=
    dFn_val (dCons_ok rfl dNil_ok) rfl (asc_blocks p _ (by omega) hne (by simpa [List.all_eq_true] using o3)) (List.prefix_refl _) rfl
  have dl : D.depthL ((List.range n).map nd) ≤ 60 := Nat.le_trans (depthL_le (b := 0) fun d hd => by obtain ⟨i, _, rfl⟩ := List.mem_map.mp hd; rw [nd_depth]; exact Nat.le_refl _) (by omega)
  have eq : dBin dEq (dCall cSort (dCons (dCall cSumA (dCons (dVar 1) (dCons (dTup dNil) dNil))) dNil)) (dLRg (dVar 0)) [some (nd n), some (pt p), none] h = .ok (.bl true) (h ++ [.lst ((List.range n).map nd)] ++ [.lst ((List.range n).map nd)]) := by
    have el : dLRg (dVar 0) [some (nd n), some (pt p), none] (h ++ [Ob.lst ((List.range n).map nd)]) = .ok (.ref (h ++ [Ob.lst ((List.range n).map nd)]).length) (h ++ [.lst ((List.range n).map nd)] ++ [.lst ((List.range n).map nd)]) := lrg_ok (n := n) (h1 := h ++ [Ob.lst ((List.range n).map nd)]) rfl (by omega)
    refine bin_ok ec el ?_
    refine (dEq_lst (seqAt_of (app_at new_at)) (seqAt_of new_at) (bk_itL _) (bk_itL _) dl dl).trans ?_
    simp
  exact mOf_rt ((seq_nx c1).trans (seq_rt (ret_ok ((and_t eq).trans ea))))
end K47
namespace K47
open PySem L2 PyProof.Rows PN
/-! ## all_partitions -/
def szPart (p : List (List Nat)) : Bool := decide (p.length ≤ 7) && p.all fun b => decide (b.length ≤ 7)
theorem parts_sz : ∀ n, n ≤ 7 → (parts n).all szPart = true
  | 0, _ => by decide +kernel
  | 1, _ => by decide +kernel
  | 2, _ => by decide +kernel
  | 3, _ => by decide +kernel
  | 4, _ => by decide +kernel
  | 5, _ => by decide +kernel
  | 6, _ => by decide +kernel
  | 7, _ => by decide +kernel
  | n + 8, h => absurd h (by omega)
def ins1 (j : Nat) (row : List (List Nat)) (i : Nat) : List (List Nat) := row.take i ++ [row.getD i [] ++ [j]] ++ row.drop (i + 1)
theorem grow1_eq (j : Nat) (row : List (List Nat)) : grow1 j row = (row ++ [[j]]) :: (List.range row.length).map (ins1 j row) := rfl
def enumD (l : List D) : List D := (List.range l.length).map fun m : Nat => D.tup [D.int (m : Int), l.getD m .non]
theorem nxEnum_at {l : List D} {h : Hd} (j : Nat) : nxEnum (nxOf l) j h = some (enumD l)[j]? := by
  unfold nxEnum nxOf enumD
  by_cases hj : j < l.length
  · simp [hj]
  · simp [hj]
theorem dAdd_tup {a b : List D} {h : Hd} (hz : a.length + b.length ≤ BIG) : dAdd (.tup a) (.tup b) h = some (.tup (a ++ b), h) := by simp [dAdd, hz]
theorem add_row (row : List (List Nat)) (j : Nat) (h : Hd) (hz : row.length ≤ 7) : dAdd (pt row) (.tup [.tup [nd j]]) h = some (pt (row ++ [[j]]), h) := by
  have := big_ge
  rw [pt, dAdd_tup (by simp; omega)]
  simp [pt, bk]
theorem add_blk (b : List Nat) (j : Nat) (h : Hd) (hz : b.length ≤ 7) : dAdd (bk b) (.tup [nd j]) h = some (bk (b ++ [j]), h) := by
  have := big_ge
  rw [bk, dAdd_tup (by simp; omega)]
  simp [bk]
/-- the term that puts a number into a block -/
def tIns (blk : Se) (i : Nat) (row : Nat) (num : Nat) : Se := dBin dAdd (dBin dAdd (dSlice (dVar row) none (some (dVar i))) (dTup (dCons (dBin dAdd blk (dTup (dCons (dVar num) dNil))) dNil))) (dSlice (dVar row) (some (dBin dAdd (dVar i) (dC (.int 1)))) none)
theorem tIns_ok {blk : Se} {i rw' num : Nat} {env : PN.Env} {h : Hd} {row : List (List Nat)} {j m : Nat} (hr : env[rw']? = some (some (pt row))) (hi : env[i]? = some (some (nd m))) (hn : env[num]? = some (some (nd j))) (hb : blk env h = .ok (bk (row.getD m [])) h) (hm : m < row.length)
    (hz : szPart row = true) : tIns blk i rw' num env h = .ok (pt (ins1 j row m)) h := by
  have hB := big_ge
  simp only [szPart, Bool.and_eq_true, decide_eq_true_eq, List.all_eq_true] at hz
  have eg : row.getD m [] = row[m] := by simp [hm]
  have hl : (row.getD m []).length ≤ 7 := by rw [eg]; exact hz.2 _ (List.getElem_mem hm)
  have vr : ∀ h', dVar rw' env h' = .ok (pt row) h' := fun h' => by simp [dVar, hr]
  have vi : ∀ h', dVar i env h' = .ok (nd m) h' := fun h' => by simp [dVar, hi]
  have vn : ∀ h', dVar num env h' = .ok (nd j) h' := fun h' => by simp [dVar, hn]
  have s1 : dSlice (dVar rw') none (some (dVar i)) env h = .ok (.tup ((row.take m).map bk)) h := by
    simp only [dSlice, vr, Rs.bind_ok, dPart, vi]
    simp only [nd, Rs.bind_ok, pt, sliceD, ofO]
    rw [cut_to, List.map_take]
  have s2 : dSlice (dVar rw') (some (dBin dAdd (dVar i) (dC (.int 1)))) none env h = .ok (.tup ((row.drop (m + 1)).map bk)) h := by
    have e : dBin dAdd (dVar i) (dC (.int 1)) env h = .ok (nd (m + 1)) h := bin_ok (vi h) rfl (by simp [dAdd, nd])
    simp only [dSlice, vr, Rs.bind_ok, dPart, e]
    simp only [nd, Rs.bind_ok, pt, sliceD, ofO]
    rw [cut_from, List.map_drop]
  have s3 : dTup (dCons (dBin dAdd blk (dTup (dCons (dVar num) dNil))) dNil) env h = .ok (.tup [bk (row.getD m [] ++ [j])]) h :=
    tup_ok (dCons_ok (bin_ok hb (tup_ok (dCons_ok (vn h) dNil_ok) (by simp; omega)) (add_blk _ _ _ hl)) dNil_ok) (by simp; omega)
  refine bin_ok (bin_ok s1 s3 (dAdd_tup (by simp; omega))) s2 ((dAdd_tup (by simp; omega)).trans ?_)
  simp [pt, ins1]
def acc (j i : Nat) : List (List (List Nat)) := ((parts j).take i).flatMap (grow1 j)
theorem acc_succ {j i : Nat} {row : List (List Nat)} (e : (parts j)[i]? = some row) : acc j (i + 1) = acc j i ++ grow1 j row := by
  unfold acc
  rw [List.take_add_one, e]
  simp
theorem acc_all (j : Nat) : acc j (parts j).length = parts (j + 1) := by simp [acc, parts]
theorem acc_len {j i : Nat} (hj : j < 7) : (acc j i).length ≤ 877 := by
  have h1 := parts_len (j + 1) (by omega)
  have : (acc j i).length ≤ (parts (j + 1)).length := by
    rw [show parts (j + 1) = ((parts j).take i ++ (parts j).drop i).flatMap (grow1 j) by rw [List.take_append_drop]; rfl]
    rw [List.flatMap_append, List.length_append]
    exact Nat.le_add_right _ _
  omega
/-- the state within the loop over what was found -/
structure Mid (h : Hd) (k q : Nat) (f l : List D) (h' : Hd) : Prop where
  pre : h <+: h'
  hk : h.length ≤ k
  hq : h.length ≤ q
  ne : q ≠ k
  fk : h'[k]? = some (.lst f)
  lq : h'[q]? = some (.lst l)
theorem Mid.set {h h' : Hd} {k q : Nat} {f l : List D} (m : Mid h k q f l h') (l' : List D) : Mid h k q f l' (h'.set q (.lst l')) :=
  ⟨pre_set m.pre m.hq, m.hk, m.hq, m.ne, set_ne m.ne m.fk, set_at m.lq⟩
theorem Mid.app {h h' t : Hd} {k q : Nat} {f l : List D} (m : Mid h k q f l h') : Mid h k q f l (h' ++ t) :=
  ⟨pre_app m.pre, m.hk, m.hq, m.ne, app_at m.fk, app_at m.lq⟩
theorem put_ok {h h' : Hd} {k q : Nat} {f l : List D} (m : Mid h k q f l h') {env : PN.Env} {i : Nat} {fx : Se} {d : D} (e1 : env[i]? = some (some (.ref q))) (e2 : fx env h' = .ok d h') (hz : l.length < BIG) :
    dDrop (dMeth .list mAppend (dVar i) (dCons fx dNil)) env h' = .nx env (h'.set q (.lst (l ++ [d]))) :=
  drop_ok (meth_ok (by simp [dVar, e1]) (ty_lst m.lq) (dCons_ok e2 dNil_ok) (append_ok m.lq hz))
/-- what a loop over what was found does, in both -/
def bodyFind (inner : Ss) : Ss := dSeq (dAsg (dLst dNil) (dGn 3)) <| dSeq (dFor (dSeqI (dVar 1)) (dGn 4) inner) <| dSeq (dAsg (dVar 3) (dGn 1)) <| dSkip
def InnerOk (N : Nat) (inner : Ss) : Prop := ∀ (h : Hd) (a0 : D) (k q i j : Nat) (row : List (List Nat)) (rest : PN.Env) (h' : Hd), j < 7 → (parts j)[i]? = some row → rest.length = N →
  Mid h k q ((parts j).map pt) ((acc j i).map pt) h' → ∃ rest' h2, inner ([some a0, some (.ref k), some (nd j), some (.ref q), some (pt row)] ++ rest) h' = .nx ([some a0, some (.ref k), some (nd j), some (.ref q), some (pt row)] ++ rest') h2 ∧ rest'.length = N ∧
    Mid h k q ((parts j).map pt) ((acc j (i + 1)).map pt) h2
theorem find_step {N : Nat} {inner : Ss} (ok : InnerOk N inner) {h : Hd} {a0 : D} {k j : Nat} {x3 x4 : Option D} {rest : PN.Env} {h' : Hd} (hj : j < 7) (hN : rest.length = N) (pre : h <+: h') (hk : h.length ≤ k) (fk : h'[k]? = some (.lst ((parts j).map pt))) :
    ∃ k' y3 y4 rest' h2, bodyFind inner ([some a0, some (.ref k), some (nd j), x3, x4] ++ rest) h' = .nx ([some a0, some (.ref k'), some (nd j), y3, y4] ++ rest') h2 ∧ rest'.length = N ∧ h <+: h2 ∧ h.length ≤ k' ∧ h2[k']? = some (.lst ((parts (j + 1)).map pt)) := by
  have hB := big_ge
  have hl := parts_len j (by omega)
  have s1 : dAsg (dLst dNil) (dGn 3) ([some a0, some (.ref k), some (nd j), x3, x4] ++ rest) h' = .nx ([some a0, some (.ref k), some (nd j), some (.ref h'.length), x4] ++ rest) (h' ++ [.lst []]) := asg_n (lst_ok dNil_ok (by simp))
  have kl := lt_at fk
  obtain ⟨e', h2, s2, x4', rest', ee, hN', m⟩ := for_inv (s := dSeqI (dVar 1)) (g := dGn 4) (b := inner) (env := [some a0, some (.ref k), some (nd j), some (.ref h'.length), x4] ++ rest) (h := h' ++ [.lst []]) (l := (parts j).map pt)
    (P := fun i e h2 => ∃ x4 rest', e = [some a0, some (.ref k), some (nd j), some (.ref h'.length), x4] ++ rest' ∧ rest'.length = N ∧ Mid h k h'.length ((parts j).map pt) ((acc j i).map pt) h2)
    (seqI_ref rfl (seqAt_of (app_at fk))) ⟨x4, rest, rfl, hN, pre_app pre, hk, pre.length_le, by omega, app_at fk, by simp [acc]⟩
    (fun i e h2 ⟨_, _, _, _, m⟩ => nxLst_at (seqAt_of m.fk) i) (by simp; omega) (fun i d e h2 ed ⟨x4, rest', ee, hN', m⟩ => by
      rw [List.getElem?_map, Option.map_eq_some_iff] at ed
      obtain ⟨row, er, rfl⟩ := ed
      obtain ⟨r2, h3, s, hN2, m2⟩ := ok h a0 k h'.length i j row rest' h2 hj er hN' m
      subst ee
      exact ⟨_, _, rfl, _, h3, s, some (pt row), r2, rfl, hN2, m2⟩)
  subst ee
  refine ⟨h'.length, some (.ref h'.length), x4', rest', h2, ?_, hN', m.pre, m.hq, ?_⟩
  · refine (seq_nx s1).trans ((seq_nx s2).trans ((seq_nx (asg_n (f := dVar 3) (d := .ref h'.length) rfl)).trans rfl))
  · rw [← acc_all]
    have := m.lq
    rwa [List.length_map] at this
def inA : Ss :=
       (dSeq (dDrop (dMeth .list mAppend (dVar 3) (dCons (dBin dAdd (dVar 4) (dTup (dCons (dTup (dCons (dVar 2) dNil)) dNil))) dNil))) <|
        dSeq (dFor (dArgI enumN (dCons (dVar 4) dNil)) (dGtup 2 (dGcons (dGn 5) (dGcons (dGn 6) dGnil)))
          (dSeq (dDrop (dMeth .list mAppend (dVar 3) (dCons (tIns (dVar 6) 5 4 2) dNil))) <|
           dSkip)) <|
        dSkip)
def inB : Ss :=
       (dSeq (dDrop (dMeth .list mAppend (dVar 3) (dCons (dBin dAdd (dVar 4) (dTup (dCons (dTup (dCons (dVar 2) dNil)) dNil))) dNil))) <|
        dSeq (dDrop (dMeth .list mExtend (dVar 3) (dCons (dLc (dRngI rng1 (dCons (dCall cLen (dCons (dVar 4) dNil)) dNil)) (dGn 5) dYes (tIns (dBin dItem (dVar 4) (dVar 5)) 5 4 2) [5]) dNil))) <|
        dSkip)
theorem sz_of {j i : Nat} {row : List (List Nat)} (hj : j < 7) (e : (parts j)[i]? = some row) : szPart row = true := List.all_eq_true.mp (parts_sz j (by omega)) row (List.mem_of_getElem? e)
theorem first_ok {h h' : Hd} {a0 : D} {k q j i : Nat} {row : List (List Nat)} {rest : PN.Env} (hj : j < 7) (e : (parts j)[i]? = some row) (m : Mid h k q ((parts j).map pt) ((acc j i).map pt) h') :
    dDrop (dMeth .list mAppend (dVar 3) (dCons (dBin dAdd (dVar 4) (dTup (dCons (dTup (dCons (dVar 2) dNil)) dNil))) dNil)) ([some a0, some (.ref k), some (nd j), some (.ref q), some (pt row)] ++ rest) h' =
      .nx ([some a0, some (.ref k), some (nd j), some (.ref q), some (pt row)] ++ rest) (h'.set q (.lst ((acc j i ++ [row ++ [[j]]]).map pt))) := by
  have hB := big_ge
  have hz := sz_of hj e
  simp only [szPart, Bool.and_eq_true, decide_eq_true_eq] at hz
  have hl := acc_len (i := i) hj
  refine (put_ok m (d := pt (row ++ [[j]])) rfl (bin_ok rfl (tup_ok (dCons_ok (tup_ok (dCons_ok rfl dNil_ok) (by simp; omega)) dNil_ok) (by simp; omega)) (add_row row j _ hz.1)) (by simp; omega)).trans ?_
  rw [List.map_append]
  rfl
theorem inB_ok : InnerOk 1 inB := by
  intro h a0 k q i j row rest h' hj e hN m
  have hB := big_ge
  have hz := sz_of hj e
  have hz' := hz
  simp only [szPart, Bool.and_eq_true, decide_eq_true_eq] at hz'
  have hl1 : (acc j (i + 1)).length ≤ 877 := acc_len hj
  have ea := acc_succ e
  rw [ea, List.length_append, grow1_eq, List.length_cons, List.length_map, List.length_range] at hl1
  have s1 := first_ok (a0 := a0) (rest := rest) hj e m
  have m1 := m.set ((acc j i ++ [row ++ [[j]]]).map pt)
  match rest, hN with
  | [x5], _ =>
  generalize hh : h'.set q (.lst ((acc j i ++ [row ++ [[j]]]).map pt)) = h1 at *
  have el : dCall cLen (dCons (dVar 4) dNil) [some a0, some (.ref k), some (nd j), some (.ref q), some (pt row), x5] h1 = .ok (.int (row.length : Int)) h1 := by
    have := len_tup (f := dVar 4) (env := [some a0, some (.ref k), some (nd j), some (.ref q), some (pt row), x5]) (l := row.map bk) rfl (List.prefix_refl h1) (by simp; omega)
    rwa [List.length_map] at this
  have c := lc_all (s := dRngI rng1 (dCons (dCall cLen (dCons (dVar 4) dNil)) dNil)) (g := dGn 5) (f := tIns (dBin dItem (dVar 4) (dVar 5)) 5 4 2) (vs := [5]) (env := [some a0, some (.ref k), some (nd j), some (.ref q), some (pt row), x5]) (h := h1) (h1 := h1)
    (l := (List.range row.length).map fun i => D.int (0 + (i : Nat))) (F := fun d => match d with
      | .int t => pt (ins1 j row t.toNat)
      | _ => .non) (fun d => [some a0, some (.ref k), some (nd j), some (.ref q), some (pt row), some d]) (rngI_1 el (rb_lt (by omega))) nxRng_at (by simp; omega) (fun d hd => rfl) (fun d hd => by
        obtain ⟨t, ht, rfl⟩ := List.mem_map.mp hd
        have ht' := List.mem_range.mp ht
        rw [Int.zero_add]
        refine (tIns_ok (j := j) (m := t) (row := row) rfl rfl rfl ?_ ht' hz).trans ?_
        · refine bin_ok rfl rfl ?_
          simp [pt, dItem, L2.atI, ixN, ht']
        · rfl)
  have c' : ((List.range row.length).map fun i => D.int (0 + (i : Nat))).map (fun d => match d with
      | .int t => pt (ins1 j row t.toNat)
      | _ => .non) = ((List.range row.length).map (ins1 j row)).map pt := by
    rw [List.map_map, List.map_map]
    exact List.map_congr_left fun t _ => by simp
  rw [c'] at c
  have m2 := m1.app (t := [Ob.lst (((List.range row.length).map (ins1 j row)).map pt)])
  have s2 : dDrop (dMeth .list mExtend (dVar 3) (dCons (dLc (dRngI rng1 (dCons (dCall cLen (dCons (dVar 4) dNil)) dNil)) (dGn 5) dYes (tIns (dBin dItem (dVar 4) (dVar 5)) 5 4 2) [5]) dNil)) [some a0, some (.ref k), some (nd j), some (.ref q), some (pt row), x5] h1 =
      .nx [some a0, some (.ref k), some (nd j), some (.ref q), some (pt row), x5] ((h1 ++ [Ob.lst (((List.range row.length).map (ins1 j row)).map pt)]).set q (.lst ((acc j i ++ [row ++ [[j]]]).map pt ++ ((List.range row.length).map (ins1 j row)).map pt))) :=
    drop_ok (meth_ok rfl (ty_lst m1.lq) (dCons_ok c dNil_ok) (extend_ok m2.lq new_at (by simp; omega)))
  refine ⟨[x5], _, (seq_nx s1).trans ((seq_nx s2).trans rfl), rfl, ?_⟩
  rw [ea, grow1_eq]
  have := m2.set ((acc j i ++ [row ++ [[j]]]).map pt ++ ((List.range row.length).map (ins1 j row)).map pt)
  rw [← List.map_append] at this
  rw [show acc j i ++ (row ++ [[j]]) :: (List.range row.length).map (ins1 j row) = acc j i ++ [row ++ [[j]]] ++ (List.range row.length).map (ins1 j row) by simp]
  rw [List.map_append (f := pt)] at this ⊢
  exact this
theorem alike_bk : ∀ x y : List Nat, PySem.W.alikeAll (D.pyL (x.map nd)) (D.pyL (y.map nd)) = true
  | [], y => by simp [D.pyL, PySem.W.alikeAll]
  | i :: x, [] => by simp [D.pyL, PySem.W.alikeAll]
  | i :: x, j :: y => by simp [D.pyL, PySem.W.alikeAll, nd, D.py, PySem.W.alike]; exact alike_bk x y
theorem alike_pt : ∀ x y : List (List Nat), PySem.W.alikeAll (D.pyL (x.map bk)) (D.pyL (y.map bk)) = true
  | [], y => by simp [D.pyL, PySem.W.alikeAll]
  | i :: x, [] => by simp [D.pyL, PySem.W.alikeAll]
  | i :: x, j :: y => by
    have h1 := alike_bk i j
    have h2 := alike_pt x y
    simp only [List.map_cons, D.pyL, PySem.W.alikeAll, Bool.and_eq_true]
    exact ⟨by simpa [bk, D.py, PySem.W.alike] using h1, h2⟩
theorem sortable_pts (l : List (List (List Nat))) (hne : ∀ p ∈ l, p ≠ []) : sortableB (l.map pt) = true := by
  simp only [sortableB, Bool.and_eq_true, decide_eq_true_eq, Bool.or_eq_true]
  refine ⟨⟨⟨it_undL _ (itL_mem.mpr fun d hd => ?_), ?_⟩, .inl ?_⟩, ?_⟩
  · obtain ⟨p, _, rfl⟩ := List.mem_map.mp hd; exact pt_it p
  · simp only [alikeB, List.all_eq_true, List.mem_map]
    rintro _ ⟨i, _, rfl⟩ _ ⟨j, _, rfl⟩
    simp only [pt, D.py, PySem.W.alike]
    exact alike_pt i j
  · simp only [List.all_eq_true, List.mem_map]
    rintro _ ⟨i, hi, rfl⟩
    have := hne i hi
    cases i with
    | nil => exact absurd rfl this
    | cons => rfl
  · exact Nat.le_trans (depthL_le (b := 2) fun d hd => by obtain ⟨i, _, rfl⟩ := List.mem_map.mp hd; exact pt_depth i) (by omega)
/-- all partitions, ascending -/
def sp (n : Nat) : List D := ((parts n).map pt).mergeSort leD
theorem sp_perm (n : Nat) : (sp n).Perm ((parts n).map pt) := List.mergeSort_perm _ _
theorem sp_mem {n : Nat} {d : D} : d ∈ sp n ↔ ∃ p ∈ parts n, pt p = d := by rw [(sp_perm n).mem_iff, List.mem_map]
theorem sp_itL (n : Nat) : D.itL (sp n) = true := itL_mem.mpr fun d hd => by
  obtain ⟨p, _, rfl⟩ := sp_mem.mp hd; exact pt_it p
theorem sp_len (n : Nat) : (sp n).length = (parts n).length := by rw [(sp_perm n).length_eq, List.length_map]
theorem parts_ne {n : Nat} (h1 : 1 ≤ n) (h7 : n ≤ 7) : ∀ p ∈ parts n, p ≠ [] := fun p hp e => by
  have := List.all_eq_true.mp (parts_ok n h1 h7) p hp
  subst e
  simp only [okPart, Bool.and_eq_true, List.flatten_nil] at this
  have := (List.isPerm_iff.mp this.2).length_eq
  simp at this
  omega
theorem sort_found {n k : Nat} {env : PN.Env} {h' : Hd} (h1 : 1 ≤ n) (h7 : n ≤ 7) (e1 : env[1]? = some (some (.ref k))) (fk : h'[k]? = some (.lst ((parts n).map pt))) :
    dSeq (dRet (dCall cSort (dCons (dVar 1) dNil))) dSkip env h' = .rt (.ref h'.length) (h' ++ [.lst (sp n)]) := by
  have hB := big_ge
  have := parts_len n h7
  exact seq_rt (ret_ok (sort_lst (by simp [dVar, e1]) (List.prefix_refl h') fk (sortable_pts _ (parts_ne h1 h7)) (by simp; omega) (it_undL _ (sp_itL n))))
theorem f_parted_eq : f_law_parted = dSeq (dAsg (dLst (dCons (dTup dNil) dNil)) (dGn 1)) (dSeq (dFor (dSeqI (dVar 0)) (dGn 2) (bodyFind inB)) (dSeq (dRet (dCall cSort (dCons (dVar 1) dNil))) dSkip)) := rfl
theorem parted_ok {n r : Nat} (h1 : 1 ≤ n) (h7 : n ≤ 7) (h : Hd) (er : h[r]? = some (.lst ((List.range n).map nd))) : ∃ h', m_law_parted [.ref r] h = .ok (.ref h'.length) (h' ++ [.lst (sp n)]) ∧ h <+: h' := by
  have hB := big_ge
  have s1 : dAsg (dLst (dCons (dTup dNil) dNil)) (dGn 1) [some (.ref r), none, none, none, none, none] h = .nx [some (.ref r), some (.ref h.length), none, none, none, none] (h ++ [.lst [pt []]]) :=
    asg_n (lst_ok (dCons_ok (tup_ok dNil_ok (by simp)) dNil_ok) (by simp; omega))
  obtain ⟨e', h2, s2, k, x2, x3, x4, rest, ee, hN, pre, hk, fk⟩ := for_inv (s := dSeqI (dVar 0)) (g := dGn 2) (b := bodyFind inB) (env := [some (.ref r), some (.ref h.length), none, none, none, none]) (h := h ++ [.lst [pt []]])
    (l := (List.range n).map nd) (P := fun j e h2 => ∃ k x2 x3 x4 rest, e = [some (.ref r), some (.ref k), x2, x3, x4] ++ rest ∧ rest.length = 1 ∧ h <+: h2 ∧ h.length ≤ k ∧ h2[k]? = some (.lst ((parts j).map pt)))
    (seqI_ref rfl (seqAt_of (app_at er))) ⟨h.length, none, none, none, [none], rfl, rfl, List.prefix_append _ _, Nat.le_refl _, new_at⟩ (fun j e h2 ⟨_, _, _, _, _, _, _, pre, _⟩ => nxLst_at (seqAt_of (pre_at pre er)) j) (by simp; omega)
    (fun j d e h2 ed ⟨k, x2, x3, x4, rest, ee, hN, pre, hk, fk⟩ => by
      subst ee
      rw [List.getElem?_map, Option.map_eq_some_iff] at ed
      obtain ⟨t, et, rfl⟩ := ed
      obtain ⟨a, b⟩ := List.getElem?_eq_some_iff.mp et
      simp at a b
      subst b
      obtain ⟨k', y3, y4, r', h3, s, hN', pre', hk', fk'⟩ := find_step inB_ok (a0 := .ref r) (x3 := x3) (x4 := x4) (show j < 7 by omega) hN pre hk fk
      exact ⟨[some (.ref r), some (.ref k), some (nd j), x3, x4] ++ rest, h2, rfl, _, h3, s, k', some (nd j), y3, y4, r', rfl, hN', pre', hk', fk'⟩)
  subst ee
  simp only [List.length_map, List.length_range] at fk
  refine ⟨h2, ?_, pre⟩
  unfold m_law_parted
  rw [f_parted_eq]
  exact mOf_rt ((seq_nx s1).trans ((seq_nx s2).trans (sort_found h1 h7 rfl fk)))
end K47
namespace K47
/-! ## one tree: labels merged, edge by edge -/
section
variable {V : Type} [DecidableEq V]
def mrg (L : V → V) (x y : V) : V → V := fun v => if L v = x then y else L v
def uf : List (V × V) → (V → V) → Option (V → V)
  | [], L => some L
  | (u, v) :: es, L => if L u = L v then none else uf es (mrg L (L u) (L v))
def fin : List (V × V) → (V → V) → V → V
  | [], L => L
  | (u, v) :: es, L => fin es (mrg L (L u) (L v))
def roots (K : List V) (L : V → V) : List V := K.filter fun v => decide (L v = v)
def Idem (L : V → V) : Prop := ∀ v, L (L v) = L v
theorem mrg_idem {L : V → V} (h : Idem L) (u v : V) : Idem (mrg L (L u) (L v)) := by
  intro w
  have hu := h u
  have hv := h v
  have hw := h w
  unfold mrg
  by_cases c : L w = L u
  · simp only [c, if_true, hv]
    by_cases c2 : L v = L u <;> simp [c2]
  · simp only [c, if_false, hw]
theorem mrg_same {L : V → V} {x : V} : mrg L x x = L := by
  funext w
  unfold mrg
  by_cases c : L w = x <;> simp [c]
theorem filter_ne_len {x : V} : ∀ {l : List V}, l.Nodup → x ∈ l → (l.filter fun v => decide (v ≠ x)).length + 1 = l.length
  | [], _, h => by simp at h
  | a :: l, hn, h => by
    have hn' := List.nodup_cons.mp hn
    by_cases c : a = x
    · subst c
      have : l.filter (fun v => decide (v ≠ a)) = l := List.filter_eq_self.mpr fun v hv => by
        simp only [decide_eq_true_eq]
        intro e
        subst e
        exact hn'.1 hv
      simp [List.filter_cons, this]
      simpa using congrArg List.length this
    · have h' : x ∈ l := by
        rcases List.mem_cons.mp h with e | e
        · exact absurd e.symm c
        · exact e
      have := filter_ne_len hn'.2 h'
      simp only [List.filter_cons, ne_eq, c, not_false_eq_true, decide_true, if_true, List.length_cons]
      simp only [ne_eq] at this
      omega
/-- a merge of two unlike roots: one root less -/
theorem roots_mrg {K : List V} {L : V → V} (hK : K.Nodup) (h : Idem L) {u v : V} (ne : L u ≠ L v) (hu : L u ∈ K) : (roots K (mrg L (L u) (L v))).length + 1 = (roots K L).length := by
  have e : roots K (mrg L (L u) (L v)) = (roots K L).filter fun w => decide (w ≠ L u) := by
    unfold roots
    rw [List.filter_filter]
    apply List.filter_congr
    intro w _
    unfold mrg
    have hu' := h u
    have hv' := h v
    by_cases c : L w = L u
    · simp only [c, if_true]
      by_cases c2 : L v = w
      · subst c2
        rw [hv'] at c
        exact absurd c.symm ne
      · by_cases c3 : w = L u
        · have : ¬ L v = L u := fun e => ne e.symm
          simp [c3, this]
        · have : ¬ L u = w := fun e => c3 e.symm
          simp [c2, c3, this]
    · simp only [c, if_false]
      by_cases c3 : w = L u
      · subst c3
        exact absurd hu' c
      · simp [c3]
  rw [e]
  exact filter_ne_len (List.Pairwise.filter _ hK) (by
    unfold roots
    rw [List.mem_filter]
    exact ⟨hu, by simpa using h u⟩)
theorem mrg_in {K : List V} {L : V → V} (hL : ∀ v ∈ K, L v ∈ K) {u v : V} (hv : v ∈ K) : ∀ w ∈ K, mrg L (L u) (L v) w ∈ K := by
  intro w hw
  unfold mrg
  by_cases c : L w = L u
  · simp only [c, if_true]; exact hL v hv
  · simp only [c, if_false]; exact hL w hw
theorem fin_len {K : List V} (hK : K.Nodup) : ∀ (es : List (V × V)) (L : V → V), Idem L → (∀ v ∈ K, L v ∈ K) → (∀ e ∈ es, e.1 ∈ K ∧ e.2 ∈ K) → (roots K L).length ≤ (roots K (fin es L)).length + es.length
  | [], L, _, _, _ => by simp [fin]
  | (u, v) :: es, L, h, hL, hE => by
    have q := hE (u, v) List.mem_cons_self
    have ih := fin_len hK es (mrg L (L u) (L v)) (mrg_idem h u v) (mrg_in hL q.2) fun e he => hE e (List.mem_cons_of_mem _ he)
    simp only [fin, List.length_cons]
    by_cases c : L u = L v
    · rw [c, mrg_same] at ih ⊢
      omega
    · have := roots_mrg hK h c (hL u q.1)
      omega
theorem uf_len {K : List V} (hK : K.Nodup) : ∀ (es : List (V × V)) (L : V → V), Idem L → (∀ v ∈ K, L v ∈ K) → (∀ e ∈ es, e.1 ∈ K ∧ e.2 ∈ K) →
    (uf es L = some (fin es L) ∧ (roots K L).length = (roots K (fin es L)).length + es.length) ∨ (uf es L = none ∧ (roots K L).length < (roots K (fin es L)).length + es.length)
  | [], L, _, _, _ => by simp [uf, fin]
  | (u, v) :: es, L, h, hL, hE => by
    have q := hE (u, v) List.mem_cons_self
    have hE' : ∀ e ∈ es, e.1 ∈ K ∧ e.2 ∈ K := fun e he => hE e (List.mem_cons_of_mem _ he)
    simp only [uf, fin, List.length_cons]
    by_cases c : L u = L v
    · right
      have := fin_len hK es (mrg L (L u) (L v)) (mrg_idem h u v) (mrg_in hL q.2) hE'
      rw [c, mrg_same] at this ⊢
      simp only [if_true, true_and]
      omega
    · simp only [c, if_false]
      have r := roots_mrg hK h c (hL u q.1)
      rcases uf_len hK es (mrg L (L u) (L v)) (mrg_idem h u v) (mrg_in hL q.2) hE' with ⟨a, b⟩ | ⟨a, b⟩
      · exact .inl ⟨a, by omega⟩
      · exact .inr ⟨a, by omega⟩
theorem fin_congr : ∀ (es : List (V × V)) (L : V → V) {a b : V}, L a = L b → fin es L a = fin es L b
  | [], _, _, _, e => e
  | (u, v) :: es, L, a, b, e => fin_congr es _ (by unfold mrg; rw [e])
theorem fin_edge : ∀ (es : List (V × V)) (L : V → V), Idem L → ∀ e ∈ es, fin es L e.1 = fin es L e.2
  | (u, v) :: es, L, h, e, he => by
    rcases List.mem_cons.mp he with rfl | he
    · refine fin_congr es _ ?_
      unfold mrg
      by_cases c : L v = L u <;> simp [c]
    · exact fin_edge es _ (mrg_idem h u v) e he
theorem fin_keeps (P : V → Prop) : ∀ (es : List (V × V)) (L : V → V), (∀ e ∈ es, P e.1 ↔ P e.2) → (∀ v, P (L v) ↔ P v) → ∀ v, P (fin es L v) ↔ P v
  | [], _, _, h, v => h v
  | (a, b) :: es, L, hE, h, v => fin_keeps P es _ (fun e he => hE e (List.mem_cons_of_mem _ he)) (fun w => by
      have q := hE (a, b) List.mem_cons_self
      unfold mrg
      by_cases c : L w = L a
      · simp only [c, if_true]
        rw [h b, ← q, ← h a, ← c, h w]
      · simp only [c, if_false]
        exact h w) v
theorem fin_idem : ∀ (es : List (V × V)) (L : V → V), Idem L → Idem (fin es L)
  | [], _, h => h
  | (a, b) :: es, L, h => fin_idem es _ (mrg_idem h a b)
theorem fin_in {K : List V} : ∀ (es : List (V × V)) (L : V → V), (∀ v ∈ K, L v ∈ K) → (∀ e ∈ es, e.1 ∈ K ∧ e.2 ∈ K) → ∀ v ∈ K, fin es L v ∈ K
  | [], _, h, _ => h
  | (a, b) :: es, L, h, hE => fin_in es _ (mrg_in h (hE (a, b) List.mem_cons_self).2) fun e he => hE e (List.mem_cons_of_mem _ he)
/-- no ring of ties, with as many as one fewer than knots: just where all hangs together -/
theorem tree_iff {K : List V} (hK : K.Nodup) {es : List (V × V)} (hE : ∀ e ∈ es, e.1 ∈ K ∧ e.2 ∈ K) (hn : es.length + 1 = K.length) {r : V} (hr : r ∈ K) :
    (uf es id).isSome = true ↔ ∀ P : V → Prop, (∀ e ∈ es, P e.1 ↔ P e.2) → P r → ∀ v ∈ K, P v := by
  have hid : Idem (id : V → V) := fun _ => rfl
  have rl : (roots K (id : V → V)).length = K.length := by
    unfold roots
    rw [List.filter_eq_self.mpr fun v _ => by simp]
  have hin := fin_in es id (fun v hv => hv) hE
  constructor
  · intro hs P hP hr' v hv
    rcases uf_len hK es id hid (fun v hv => hv) hE with ⟨a, b⟩ | ⟨a, b⟩
    · rw [rl] at b
      have one : (roots K (fin es id)).length = 1 := by omega
      obtain ⟨c, hc⟩ := List.length_eq_one_iff.mp one
      have all : ∀ w ∈ K, fin es id w = c := fun w hw => by
        have : fin es id w ∈ roots K (fin es id) := by
          unfold roots
          rw [List.mem_filter]
          exact ⟨hin w hw, by simpa using fin_idem es id hid w⟩
        rw [hc] at this
        simpa using this
      have k := fin_keeps P es id hP fun _ => Iff.rfl
      rw [← k v, all v hv, ← all r hr, k r]
      exact hr'
    · rw [a] at hs; simp at hs
  · intro hP
    rcases uf_len hK es id hid (fun v hv => hv) hE with ⟨a, b⟩ | ⟨a, b⟩
    · rw [a]; rfl
    · exfalso
      rw [rl] at b
      have all := hP (fun w => fin es id w = fin es id r) (fun e he => by rw [fin_edge es id hid e he]) rfl
      have two : 2 ≤ (roots K (fin es id)).length := by omega
      have nd : (K.filter fun v => decide (fin es id v = v)).Nodup := List.Pairwise.filter _ hK
      have q : ∀ w ∈ roots K (fin es id), w = fin es id r := fun w hw => by
        unfold roots at hw
        rw [List.mem_filter, decide_eq_true_eq] at hw
        rw [← hw.2]; exact all w hw.1
      change (roots K (fin es id)).Nodup at nd
      match roots K (fin es id), two, q, nd with
      | x :: y :: l, _, q, nd =>
        have h1 := q x List.mem_cons_self
        have h2 := q y (List.mem_cons_of_mem _ List.mem_cons_self)
        rw [h1, h2] at nd
        simp at nd
      | [_], h, _, _ => simp at h
      | [], h, _, _ => simp at h
end
end K47
namespace K47
open PySem L2 PyProof.Rows PN
/-! ## root_of, is_tree -/
/-- what stands above and the labels -/
structure Uf (K : List D) (A L : D → D) (r : D → Nat) (B : Nat) : Prop where
  inA : ∀ v ∈ K, A v ∈ K
  inL : ∀ v ∈ K, L v ∈ K
  idem : Idem L
  top : ∀ v, A (L v) = L v
  lab : ∀ v, L (A v) = L v
  low : ∀ v, A v ≠ v → r (A v) < r v
  end_ : ∀ v, A v = v → L v = v
  bnd : ∀ v, r v ≤ B
theorem Uf.start (K : List D) : Uf K id id (fun _ => 0) 0 := ⟨fun _ h => h, fun _ h => h, fun _ => rfl, fun _ => rfl, fun _ => rfl, fun v h => absurd rfl h, fun _ _ => rfl, fun _ => Nat.le_refl _⟩
theorem Uf.merge {K : List D} {A L : D → D} {r : D → Nat} {B : Nat} (m : Uf K A L r B) {u v : D} (hu : u ∈ K) (hv : v ∈ K) (ne : L u ≠ L v) : ∃ r', Uf K (upd1 A (L u) (L v)) (mrg L (L u) (L v)) r' (2 * B + 1) := by
  have iu := m.idem u
  have iv := m.idem v
  have tu := m.top u
  have tv := m.top v
  have ne' : L v ≠ L u := fun e => ne e.symm
  refine ⟨fun w => if L w = L u then r w + (r (L v) + 1) else r w, ?_, mrg_in m.inL hv, mrg_idem m.idem u v, ?_, ?_, ?_, ?_, ?_⟩
  · intro w hw
    unfold upd1
    by_cases c : w = L u
    · simp only [c, if_true]; exact m.inL v hv
    · simp only [c, if_false]; exact m.inA w hw
  · intro w
    unfold mrg upd1
    by_cases c : L w = L u
    · simp only [c, if_true, ne', if_false]; exact tv
    · simp only [c, if_false]; exact m.top w
  · intro w
    unfold mrg upd1
    by_cases c : w = L u
    · simp only [c, if_true, iu, iv, ne', if_false]
    · simp only [c, if_false, m.lab w]
  · intro w
    unfold upd1
    by_cases c : w = L u
    · subst c
      simp only [if_true, iu, iv, ne', if_false]
      intro _; omega
    · simp only [c, if_false, m.lab w]
      intro hn
      have := m.low w hn
      by_cases c2 : L w = L u
      · simp only [c2, if_true]; omega
      · simp only [c2, if_false]; exact this
  · intro w
    unfold upd1 mrg
    by_cases c : w = L u
    · subst c
      simp only [if_true, iu]
      intro e; exact e
    · simp only [c, if_false]
      intro e
      have := m.end_ w e
      rw [this]
      simp only [c, if_false]
  · intro w
    have h1 := m.bnd w
    have h2 := m.bnd (L v)
    by_cases c : L w = L u
    · simp only [c, if_true]; omega
    · simp only [c, if_false]; omega
/-- knots: flat tuples -/
structure Kn (K : List D) : Prop where
  it : ∀ v ∈ K, v.it = true
  key : ∀ v ∈ K, (tkeyOf v).isSome = true
  dep : ∀ v ∈ K, v.depth ≤ 60
  nd : K.Nodup
  few : K.length ≤ 1000
theorem root_ok {K : List D} {A L : D → D} {r : D → Nat} {B : Nat} (kn : Kn K) (m : Uf K A L r B) (hB : B < BIG) {h : Hd} {a : Nat} (ea : h[a]? = some (.dic (mp K A))) {x : D} (hx : x ∈ K) : m_root_of [.ref a, x] h = .ok (L x) h := by
  have it : ∀ y ∈ K, dBin dItem (dVar 0) (dVar 1) [some (.ref a), some y] h = .ok (A y) h := fun y hy => bin_ok rfl rfl (item_dic ea (fits_t (kn.key y hy) kn.key) hy)
  obtain ⟨e', h', s, q⟩ := while_inv (c := dFlag (dBin dNe (dBin dItem (dVar 0) (dVar 1)) (dVar 1))) (b := dSeq (dAsg (dBin dItem (dVar 0) (dVar 1)) (dGn 1)) dSkip) (m := r x) (env := [some (.ref a), some x]) (h := h)
    (P := fun k e h' => h' = h ∧ ∃ y ∈ K, e = [some (.ref a), some y] ∧ r y = k ∧ L y = L x) (Q := fun e h' => h' = h ∧ e = [some (.ref a), some (L x)])
    ⟨rfl, x, hx, rfl, rfl, rfl⟩ (Nat.lt_of_le_of_lt (m.bnd x) hB) (by
      rintro k e h' ⟨rfl, y, hy, rfl, rfl, el⟩
      have c : dFlag (dBin dNe (dBin dItem (dVar 0) (dVar 1)) (dVar 1)) [some (.ref a), some y] h' = .ok (!decide (A y = y)) h' :=
        flag_ok (bin_ok (it y hy) rfl (dNe_it (kn.it _ (m.inA y hy)) (kn.it y hy) (kn.dep _ (m.inA y hy)) (kn.dep y hy)))
      by_cases q : A y = y
      · left
        refine ⟨h', by rw [c]; simp [q], rfl, ?_⟩
        rw [← el, m.end_ y q]
      · right
        exact ⟨h', [some (.ref a), some (A y)], h', r (A y), by rw [c]; simp [q], (seq_nx (asg_n (it y hy))).trans rfl, m.low y q, rfl, A y, m.inA y hy, rfl, rfl, by rw [m.lab, el]⟩)
  obtain ⟨rfl, rfl⟩ := q
  exact mOf_rt ((seq_nx s).trans (seq_rt (ret_ok rfl)))
def tie (e : D × D) : D := .tup [e.1, e.2]
theorem is_tree_ok {K : List D} (kn : Kn K) {es : List (D × D)} (hE : ∀ e ∈ es, e.1 ∈ K ∧ e.2 ∈ K) (hn : es.length ≤ 20) {h : Hd} {k t : Nat} (ek : h[k]? = some (.lst K)) (et : h[t]? = some (.lst (es.map tie))) :
    ∃ h', m_is_tree [.ref k, .ref t] h = .ok (.bl (decide (es.length + 1 = K.length) && (uf es id).isSome)) h' ∧ h <+: h' := by
  have hB := big_ge
  have hf := kn.few
  have s1 : dAsg (dDc (dSeqI (dVar 0)) (dGn 5) dYes (dVar 5) (dVar 5) [5]) (dGn 2) [some (.ref k), some (.ref t), none, none, none, none] h = .nx [some (.ref k), some (.ref t), some (.ref h.length), none, none, none] (h ++ [.dic (mp K id)]) := by
    have c := dc_run (s := dSeqI (dVar 0)) (g := dGn 5) (fk := dVar 5) (fv := dVar 5) (vs := [5]) (env := [some (.ref k), some (.ref t), none, none, none, none]) (h := h) (l := K) (S := fun j => mp (K.take j) id)
      (fun d => [some (.ref k), some (.ref t), none, none, none, some d]) id id (seqI_ref rfl (seqAt_of ek)) (nxLst_at (seqAt_of ek)) (by omega) (fun d _ => rfl) (fun d _ => rfl) (fun d _ => rfl) rfl (fun j d ed => by
        have hd := List.mem_of_getElem? ed
        refine ⟨fits_t (kn.key d hd) fun v hv => kn.key v (List.mem_of_mem_take hv), by rw [mp_len, List.length_take]; omega, ?_⟩
        have nin : d ∉ K.take j := by
          intro hm
          have nd := kn.nd
          obtain ⟨hj, ej⟩ := List.getElem?_eq_some_iff.mp ed
          rw [← List.take_append_drop j K] at nd
          have := (List.nodup_append.mp nd).2.2 d hm d (by rw [List.drop_eq_getElem_cons hj, ej]; exact List.mem_cons_self)
          exact this rfl
        have q := mp_new (A := id) nin
        simp only [id] at q ⊢
        rw [q, List.take_add_one, ed]
        rfl)
    rw [List.take_of_length_le (Nat.le_refl _)] at c
    exact asg_n c
  have l1 : dCall cLen (dCons (dVar 1) dNil) [some (.ref k), some (.ref t), some (.ref h.length), none, none, none] (h ++ [.dic (mp K id)]) = .ok (.int ((es.map tie).length : Int)) (h ++ [.dic (mp K id)]) :=
    len_lst rfl (List.prefix_refl _) (app_at et) (by simp; omega)
  have l2 : dCall cLen (dCons (dVar 2) dNil) [some (.ref k), some (.ref t), some (.ref h.length), none, none, none] (h ++ [.dic (mp K id)]) = .ok (.int ((mp K id).length : Int)) (h ++ [.dic (mp K id)]) :=
    len_dic rfl (List.prefix_refl _) new_at
  have c1 : dFlag (dBin dNe (dBin dAdd (dCall cLen (dCons (dVar 1) dNil)) (dC (.int 1))) (dCall cLen (dCons (dVar 2) dNil))) [some (.ref k), some (.ref t), some (.ref h.length), none, none, none] (h ++ [.dic (mp K id)]) = .ok (!decide (es.length + 1 = K.length)) (h ++ [.dic (mp K id)]) := by
    refine flag_ok (bin_ok (bin_ok l1 rfl rfl) l2 ((dNe_it rfl rfl (by simp [D.depth]) (by simp [D.depth])).trans ?_))
    rw [mp_len, List.length_map]
    congr 4
    simp only [D.int.injEq, decide_eq_decide]
    omega
  by_cases hl : es.length + 1 = K.length
  · have s2 : dIfS (dFlag (dBin dNe (dBin dAdd (dCall cLen (dCons (dVar 1) dNil)) (dC (.int 1))) (dCall cLen (dCons (dVar 2) dNil)))) (dSeq (dRet (dC (.bl false))) dSkip) dSkip [some (.ref k), some (.ref t), some (.ref h.length), none, none, none] (h ++ [.dic (mp K id)]) =
        .nx [some (.ref k), some (.ref t), some (.ref h.length), none, none, none] (h ++ [.dic (mp K id)]) := if_f (by rw [c1]; simp [hl])
    have fr := for_ret (s := dSeqI (dVar 1)) (g := dGtup 2 (dGcons (dGn 3) (dGcons (dGn 4) dGnil)))
      (b := dSeq (dPar 3 4 (dCons (dFn 2 m_root_of (dCons (dVar 2) (dCons (dVar 3) dNil))) (dCons (dFn 2 m_root_of (dCons (dVar 2) (dCons (dVar 4) dNil))) dNil))) <|
     dSeq (dIfS (dFlag (dBin dEq (dVar 3) (dVar 4)))
       (dSeq (dRet (dC (.bl false))) <|
        dSkip)
       dSkip) <|
     dSeq (dAsg (dVar 4) (gOnly (dGsub (dVar 2) (dVar 3)))) <|
     dSkip) (env := [some (.ref k), some (.ref t), some (.ref h.length), none, none, none]) (h := h ++ [.dic (mp K id)]) (l := es.map tie)
      (P := fun j e h' => ∃ A L r x3 x4, h <+: h' ∧ h'[h.length]? = some (.dic (mp K A)) ∧ Uf K A L r (2 ^ j - 1) ∧ uf (es.drop j) L = uf es id ∧ e = [some (.ref k), some (.ref t), some (.ref h.length), x3, x4, none])
      (R := fun d h' => d = .bl false ∧ h <+: h' ∧ uf es id = none)
      (seqI_ref rfl (seqAt_of (app_at et))) ⟨id, id, fun _ => 0, none, none, List.prefix_append _ _, new_at, Uf.start K, rfl, rfl⟩ (fun j e h' ⟨_, _, _, _, _, pre, _⟩ => nxLst_at (seqAt_of (pre_at pre et)) j) (by simp; omega)
      (by
        rintro j d e h' ed ⟨A, L, r, x3, x4, pre, ea, m, eu, rfl⟩
        rw [List.getElem?_map, Option.map_eq_some_iff] at ed
        obtain ⟨⟨u, v⟩, ee, rfl⟩ := ed
        obtain ⟨hj, ej⟩ := List.getElem?_eq_some_iff.mp ee
        have hm := hE (u, v) (List.mem_of_getElem? ee)
        have b : 2 ^ j - 1 < BIG := by
          have : 2 ^ j ≤ 2 ^ 20 := Nat.pow_le_pow_right (by omega) (by omega)
          unfold BIG
          omega
        refine ⟨[some (.ref k), some (.ref t), some (.ref h.length), some u, some v, none], h', rfl, ?_⟩
        have r1 : dFn 2 m_root_of (dCons (dVar 2) (dCons (dVar 3) dNil)) [some (.ref k), some (.ref t), some (.ref h.length), some u, some v, none] h' = .ok (L u) h' :=
          dFn_val (dCons_ok rfl (dCons_ok rfl dNil_ok)) rfl (root_ok kn m b ea hm.1) (List.prefix_refl _) (it_und _ (kn.it _ (m.inL u hm.1)))
        have r2 : dFn 2 m_root_of (dCons (dVar 2) (dCons (dVar 4) dNil)) [some (.ref k), some (.ref t), some (.ref h.length), some u, some v, none] h' = .ok (L v) h' :=
          dFn_val (dCons_ok rfl (dCons_ok rfl dNil_ok)) rfl (root_ok kn m b ea hm.2) (List.prefix_refl _) (it_und _ (kn.it _ (m.inL v hm.2)))
        have p1 : dPar 3 4 (dCons (dFn 2 m_root_of (dCons (dVar 2) (dCons (dVar 3) dNil))) (dCons (dFn 2 m_root_of (dCons (dVar 2) (dCons (dVar 4) dNil))) dNil)) [some (.ref k), some (.ref t), some (.ref h.length), some u, some v, none] h' =
            .nx [some (.ref k), some (.ref t), some (.ref h.length), some (L u), some (L v), none] h' := by
          simp only [dPar, dCons_ok r1 (dCons_ok r2 dNil_ok), Rs.to_ok]
          rfl
        have c2 : dFlag (dBin dEq (dVar 3) (dVar 4)) [some (.ref k), some (.ref t), some (.ref h.length), some (L u), some (L v), none] h' = .ok (decide (L u = L v)) h' :=
          flag_ok (bin_ok rfl rfl (dEq_it (kn.it _ (m.inL u hm.1)) (kn.it _ (m.inL v hm.2)) (kn.dep _ (m.inL u hm.1)) (kn.dep _ (m.inL v hm.2))))
        have dr : es.drop j = (u, v) :: es.drop (j + 1) := by rw [List.drop_eq_getElem_cons hj, ej]
        rw [dr, uf] at eu
        by_cases q : L u = L v
        · right
          rw [if_pos q] at eu
          exact ⟨.bl false, h', (seq_nx p1).trans (seq_rt ((if_t (by rw [c2]; simp [q])).trans (seq_rt (ret_ok rfl)))), rfl, pre, eu.symm⟩
        · left
          rw [if_neg q] at eu
          obtain ⟨r', m'⟩ := m.merge hm.1 hm.2 q
          have w : dAsg (dVar 4) (gOnly (dGsub (dVar 2) (dVar 3))) [some (.ref k), some (.ref t), some (.ref h.length), some (L u), some (L v), none] h' = .nx [some (.ref k), some (.ref t), some (.ref h.length), some (L u), some (L v), none] (h'.set h.length (.dic (mp K (upd1 A (L u) (L v))))) := by
            have sd := set_dic (y := L v) ea (fits_t (kn.key _ (m.inL u hm.1)) kn.key) (m.inL u hm.1) (by omega)
            simp only [dAsg, gOnly, dGsub, dVar, List.getElem?_cons_succ, List.getElem?_cons_zero, Rs.to_ok, sd, Ro.sg_nx, dSkip]
          refine ⟨_, _, (seq_nx p1).trans ((seq_nx (if_f (by rw [c2]; simp [q]))).trans ((seq_nx w).trans rfl)), upd1 A (L u) (L v), mrg L (L u) (L v), r', some (L u), some (L v), pre_set pre (Nat.le_refl _), set_at ea, ?_, eu, rfl⟩
          have : 2 * (2 ^ j - 1) + 1 = 2 ^ (j + 1) - 1 := by
            have := Nat.one_le_two_pow (n := j)
            rw [Nat.pow_succ]
            omega
          rwa [this] at m')
    rcases fr with ⟨e', h', s3, A, L, r, x3, x4, pre, ea, m, eu, rfl⟩ | ⟨d, h', s3, rfl, pre, eu⟩
    · refine ⟨h', ?_, pre⟩
      have : (uf es id).isSome = true := by
        rw [← eu, List.length_map, List.drop_eq_nil_of_le (Nat.le_refl _)]
        rfl
      rw [this, decide_eq_true hl]
      exact mOf_rt ((seq_nx s1).trans ((seq_nx s2).trans ((seq_nx s3).trans (seq_rt (ret_ok rfl)))))
    · refine ⟨h', ?_, pre⟩
      rw [eu, decide_eq_true hl]
      exact mOf_rt ((seq_nx s1).trans ((seq_nx s2).trans (seq_rt s3)))
  · refine ⟨h ++ [.dic (mp K id)], ?_, List.prefix_append _ _⟩
    rw [decide_eq_false hl]
    exact mOf_rt ((seq_nx s1).trans (seq_rt ((if_t (by rw [c1]; simp [hl])).trans (seq_rt (ret_ok rfl)))))
end K47
namespace K47
open PySem L2 PyProof.Rows PN
/-! ## meet -/
/-- what a partition is for these -/
structure Pa (n : Nat) (p : List (List Nat)) : Prop where
  perm : p.flatten.Perm (List.range n)
  ne : ∀ b ∈ p, b ≠ []
  len : p.length ≤ 7
  blen : ∀ b ∈ p, b.length ≤ 7
  hn : n ≤ 7
  h1 : 1 ≤ n
theorem pa_of {n : Nat} {p : List (List Nat)} (h1 : 1 ≤ n) (hn : n ≤ 7) (ok : okPart n p = true) : Pa n p := by
  simp only [okPart, Bool.and_eq_true, decide_eq_true_eq, List.all_eq_true (p := okBlk n)] at ok
  obtain ⟨⟨⟨o1, o2⟩, o3⟩, o4⟩ := ok
  refine ⟨List.isPerm_iff.mp o4, fun b hb e => ?_, by omega, fun b hb => ?_, hn, h1⟩
  · have := o2 b hb
    rw [e] at this
    simp [okBlk] at this
  · have := o2 b hb
    simp only [okBlk, Bool.and_eq_true, decide_eq_true_eq] at this
    omega
section
variable {n : Nat} {p q : List (List Nat)}
theorem Pa.nd (a : Pa n p) : p.flatten.Nodup := a.perm.nodup_iff.mpr List.nodup_range
theorem Pa.mem (a : Pa n p) {x : Nat} : (∃ b ∈ p, x ∈ b) ↔ x < n := by
  rw [← List.mem_range, ← a.perm.mem_iff, List.mem_flatten]
def idx (p : List (List Nat)) (x : Nat) : Nat := p.findIdx fun b => b.contains x
theorem Pa.apart (a : Pa n p) {i j : Nat} (hi : i < p.length) (hj : j < p.length) {x : Nat} (h1 : x ∈ p[i]) (h2 : x ∈ p[j]) : i = j := by
  have nd := (List.pairwise_flatten.mp a.nd).2
  rw [List.pairwise_iff_getElem] at nd
  rcases Nat.lt_trichotomy i j with c | c | c
  · exact absurd rfl (nd i j hi hj c x h1 x h2)
  · exact c
  · exact absurd rfl (nd j i hj hi c x h2 x h1)
theorem Pa.idx (a : Pa n p) {i : Nat} (hi : i < p.length) {x : Nat} (hx : x ∈ p[i]) : idx p x = i := by
  unfold K47.idx
  rw [List.findIdx_eq hi]
  refine ⟨by simpa using hx, fun j hj => ?_⟩
  have hj' : j < p.length := by omega
  by_cases c : x ∈ p[j]
  · have := a.apart hj' hi c hx; omega
  · simpa using c
theorem Pa.idx_lt (a : Pa n p) {x : Nat} (hx : x < n) : K47.idx p x < p.length := by
  obtain ⟨b, hb, h⟩ := a.mem.mpr hx
  unfold K47.idx
  exact List.findIdx_lt_length_of_exists ⟨b, hb, by simpa using h⟩
theorem Pa.idx_mem (a : Pa n p) {x : Nat} (hx : x < n) : x ∈ p[K47.idx p x]'(a.idx_lt hx) := by
  obtain ⟨b, hb, h⟩ := a.mem.mpr hx
  obtain ⟨i, hi, rfl⟩ := List.mem_iff_getElem.mp hb
  have e := a.idx hi h
  simp only [e]
  exact h
/-- a knot -/
def kt (s i : Nat) : D := .tup [nd s, nd i]
theorem kt_inj {s i s' i' : Nat} (e : kt s i = kt s' i') : s = s' ∧ i = i' := by
  simp only [kt, D.tup.injEq, List.cons.injEq, and_true] at e
  exact ⟨nd_inj e.1, nd_inj e.2⟩
def hereF (s : Nat) (p : List (List Nat)) : D → D
  | .int i => kt s (idx p i.toNat)
  | _ => .non
theorem hereF_nd (s : Nat) (p : List (List Nat)) (x : Nat) : hereF s p (nd x) = kt s (idx p x) := by simp [hereF, nd]
theorem nodup_take {α : Type} {l : List α} (h : l.Nodup) {j : Nat} {x : α} (e : l[j]? = some x) : x ∉ l.take j := by
  intro hm
  obtain ⟨hj, ej⟩ := List.getElem?_eq_some_iff.mp e
  rw [← List.take_append_drop j l] at h
  exact (List.nodup_append.mp h).2.2 x hm x (by rw [List.drop_eq_getElem_cons hj, ej]; exact List.mem_cons_self) rfl
theorem nd_notin {l : List Nat} {x : Nat} (h : x ∉ l) : nd x ∉ l.map nd := by
  intro hm
  obtain ⟨y, hy, e⟩ := List.mem_map.mp hm
  rw [nd_inj e] at hy
  exact h hy
theorem len_flat_take (a : Pa n p) (i : Nat) : (p.take i).flatten.length ≤ 7 := by
  have h1 : (p.take i).flatten.length ≤ p.flatten.length := by
    conv => rhs; rw [← List.take_append_drop i p, List.flatten_append, List.length_append]
    omega
  have h2 := a.perm.length_eq
  have := a.hn
  rw [List.length_range] at h2
  omega
theorem here_ok (a : Pa n p) {env : PN.Env} {h : Hd} {s v : Nat} (hv : env[v]? = some (some (pt p))) {vs : List Nat} (hw : wipeE env vs = env) (he : env.length = 9) (h8 : env[8]? = some none) (hv6 : v < 6) :
    dDc2 (dArgI enumN (dCons (dVar v) dNil)) (dGtup 2 (dGcons (dGn 6) (dGcons (dGn 7) dGnil))) dYes (dSeqI (dVar 7)) (dGn 8) dYes (dVar 8) (dTup (dCons (dC (.int (s : Nat))) (dCons (dVar 6) dNil))) vs [8] env h =
      .ok (.ref h.length) (h ++ [.dic (mp (p.flatten.map nd) (hereF s p))]) := by
  have hB := big_ge
  have hl := a.len
  have hv' : dVar v env h = .ok (pt p) h := by simp [dVar, hv]
  have src : dArgI enumN (dCons (dVar v) dNil) env h = .ok (nxEnum (nxOf (p.map bk))) h := by
    simp only [dArgI, dCons_ok hv' dNil_ok, Rs.bind_ok]
    rfl
  have c := dc2_run (s1 := dSeqI (dVar 7)) (g1 := dGn 8) (fk := dVar 8) (fv := dTup (dCons (dC (.int (s : Nat))) (dCons (dVar 6) dNil))) (vs := vs) (vs1 := [8]) (g := dGtup 2 (dGcons (dGn 6) (dGcons (dGn 7) dGnil))) (l := enumD (p.map bk))
    (S := fun i => mp ((p.take i).flatten.map nd) (hereF s p))
    (fun d => match d with
      | .tup [x, y] => (env.set 6 (some x)).set 7 (some y)
      | _ => []) src nxEnum_at (by simp [enumD]; omega) (fun d hd => by
        unfold enumD at hd
        obtain ⟨i, _, rfl⟩ := List.mem_map.mp hd
        rw [hw]
        rfl) rfl (fun i d ed => by
        unfold enumD at ed
        rw [List.getElem?_map, Option.map_eq_some_iff] at ed
        obtain ⟨t, et, rfl⟩ := ed
        obtain ⟨q1, q2⟩ := List.getElem?_eq_some_iff.mp et
        simp at q1 q2
        subst q2
        have eb : (p.map bk).getD i .non = bk p[i] := by simp [q1]
        rw [eb]
        have hbl := a.blen p[i] (List.getElem_mem q1)
        have e7 : dVar 7 ((env.set 6 (some (.int (i : Int)))).set 7 (some (bk p[i]))) h = .ok (bk p[i]) h := by
          have : ((env.set 6 (some (.int (i : Int)))).set 7 (some (bk p[i])))[7]? = some (some (bk p[i])) := by simp [he]
          simp [dVar, this]
        refine ⟨nxOf (p[i].map nd), seqI_tup e7, ?_⟩
        have w8 : wipeE ((env.set 6 (some (.int (i : Int)))).set 7 (some (bk p[i]))) [8] = (env.set 6 (some (.int (i : Int)))).set 7 (some (bk p[i])) := by
          have : ((env.set 6 (some (.int (i : Int)))).set 7 (some (bk p[i])))[8]? = some none := by simpa using h8
          simp only [wipeE]
          obtain ⟨h8', e8⟩ := List.getElem?_eq_some_iff.mp this
          have := List.set_getElem_self (as := (env.set 6 (some (.int (i : Int)))).set 7 (some (bk p[i]))) h8'
          rw [e8] at this
          exact this
        rw [w8]
        have fl : (p.take (i + 1)).flatten = (p.take i).flatten ++ p[i] := by
          rw [List.take_add_one, List.getElem?_eq_getElem q1, List.flatten_append]
          simp only [Option.toList_some, List.flatten_cons, List.flatten_nil, List.append_nil]
        have r := dcI_run (nx := nxOf (p[i].map nd)) (g := dGn 8) (fk := dVar 8) (fv := dTup (dCons (dC (.int (s : Nat))) (dCons (dVar 6) dNil))) (env := (env.set 6 (some (.int (i : Int)))).set 7 (some (bk p[i]))) (h := h) (l := p[i].map nd)
          (S := fun j => mp (((p.take i).flatten ++ p[i].take j).map nd) (hereF s p)) (fun d => ((env.set 6 (some (.int (i : Int)))).set 7 (some (bk p[i]))).set 8 (some d)) id (fun _ => kt s i) (fun j => rfl) (fun d _ => rfl) (fun d _ => by simp [dVar, he]) (fun d _ => by
            have e6 : dVar 6 (((env.set 6 (some (.int (i : Int)))).set 7 (some (bk p[i]))).set 8 (some d)) h = .ok (nd i) h := by simp [dVar, he, nd]
            exact tup_ok (dCons_ok rfl (dCons_ok e6 dNil_ok)) (by simp; omega)) (fun j d ed => by
            rw [List.getElem?_map, Option.map_eq_some_iff] at ed
            obtain ⟨x, ex, rfl⟩ := ed
            have hx : x ∈ p[i] := List.mem_of_getElem? ex
            have ln := len_flat_take a i
            refine ⟨fits_k rfl fun v hv => ?_, ?_, ?_⟩
            · obtain ⟨y, _, rfl⟩ := List.mem_map.mp hv; rfl
            · rw [mp_len]; simp only [List.length_map, List.length_append, List.length_take]; omega
            · have ni : x ∉ (p.take i).flatten ++ p[i].take j := by
                intro hm
                rcases List.mem_append.mp hm with hm | hm
                · obtain ⟨b, hb, hxb⟩ := List.mem_flatten.mp hm
                  obtain ⟨j', hj', rfl⟩ := List.mem_iff_getElem.mp hb
                  simp at hj'
                  rw [List.getElem_take] at hxb
                  have := a.apart (i := j') (j := i) (by omega) q1 hxb hx
                  omega
                · have nd' : p[i].Nodup := (List.pairwise_flatten.mp a.nd).1 _ (List.getElem_mem q1)
                  exact nodup_take nd' ex hm
              have q := mp_new (A := hereF s p) (nd_notin ni)
              rw [hereF_nd, a.idx q1 hx] at q
              simp only [id]
              rw [q, List.take_add_one, ex]
              simp) BIG 0 (Nat.zero_le _) (by simp; omega)
        rw [List.take_zero, List.append_nil, List.length_map, List.take_of_length_le (Nat.le_refl _), ← fl] at r
        exact r)
  have el : (enumD (p.map bk)).length = p.length := by simp [enumD]
  rw [el, List.take_of_length_le (Nat.le_refl _)] at c
  exact c
/-! ### the knots, the ties -/
def kns (a b : Nat) : List D := (List.range a).map (kt 0) ++ (List.range b).map (kt 1)
theorem kns_mem {a b : Nat} {d : D} : d ∈ kns a b ↔ (∃ i, i < a ∧ d = kt 0 i) ∨ ∃ i, i < b ∧ d = kt 1 i := by
  simp only [kns, List.mem_append, List.mem_map, List.mem_range]
  constructor
  · rintro (⟨i, h, rfl⟩ | ⟨i, h, rfl⟩)
    · exact .inl ⟨i, h, rfl⟩
    · exact .inr ⟨i, h, rfl⟩
  · rintro (⟨i, h, rfl⟩ | ⟨i, h, rfl⟩)
    · exact .inl ⟨i, h, rfl⟩
    · exact .inr ⟨i, h, rfl⟩
theorem kns_kn {a b : Nat} (ha : a ≤ 7) (hb : b ≤ 7) : Kn (kns a b) := by
  have ex : ∀ v ∈ kns a b, ∃ s i, v = kt s i := fun v hv => by
    rcases kns_mem.mp hv with ⟨i, _, rfl⟩ | ⟨i, _, rfl⟩
    · exact ⟨0, i, rfl⟩
    · exact ⟨1, i, rfl⟩
  refine ⟨fun v hv => ?_, fun v hv => ?_, fun v hv => ?_, ?_, by simp [kns]; omega⟩
  · obtain ⟨s, i, rfl⟩ := ex v hv; rfl
  · obtain ⟨s, i, rfl⟩ := ex v hv; rfl
  · obtain ⟨s, i, rfl⟩ := ex v hv
    have := bk_depth [s, i]
    exact Nat.le_trans this (by omega)
  · unfold kns
    rw [List.nodup_append]
    refine ⟨?_, ?_, ?_⟩
    · exact List.pairwise_map.mpr (List.nodup_range.imp fun {x y} h e => h (kt_inj e).2)
    · exact List.pairwise_map.mpr (List.nodup_range.imp fun {x y} h e => h (kt_inj e).2)
    · intro x hx y hy e
      obtain ⟨i, _, rfl⟩ := List.mem_map.mp hx
      obtain ⟨j, _, rfl⟩ := List.mem_map.mp hy
      have := (kt_inj e).1
      omega
def ties (n : Nat) (p q : List (List Nat)) : List (D × D) := (List.range n).map fun x => (kt 0 (idx p x), kt 1 (idx q x))
theorem ties_in (a : Pa n p) (b : Pa n q) : ∀ e ∈ ties n p q, e.1 ∈ kns p.length q.length ∧ e.2 ∈ kns p.length q.length := by
  intro e he
  obtain ⟨x, hx, rfl⟩ := List.mem_map.mp he
  have hx' := List.mem_range.mp hx
  exact ⟨kns_mem.mpr (.inl ⟨_, a.idx_lt hx', rfl⟩), kns_mem.mpr (.inr ⟨_, b.idx_lt hx', rfl⟩)⟩
/-- whether the two meet -/
def meets (n : Nat) (p q : List (List Nat)) : Bool := decide (n + 1 = p.length + q.length) && (uf (ties n p q) id).isSome
theorem kn_list (a : Pa n p) {env : PN.Env} {h : Hd} {v s : Nat} (hv : env[v]? = some (some (pt p))) (he : env.length = 9) (h6 : env[6]? = some none) :
    dLc (dRngI rng1 (dCons (dCall cLen (dCons (dVar v) dNil)) dNil)) (dGn 6) dYes (dTup (dCons (dC (.int (s : Nat))) (dCons (dVar 6) dNil))) [6] env h = .ok (.ref h.length) (h ++ [.lst ((List.range p.length).map (kt s))]) := by
  have hB := big_ge
  have hl := a.len
  have hv' : dVar v env h = .ok (pt p) h := by simp [dVar, hv]
  have el : dCall cLen (dCons (dVar v) dNil) env h = .ok (.int (p.length : Int)) h := by
    have := len_tup (f := dVar v) (env := env) (l := p.map bk) hv' (List.prefix_refl h) (by simp; omega)
    rwa [List.length_map] at this
  have w6 : wipeE env [6] = env := by
    simp only [wipeE]
    obtain ⟨h6', e6⟩ := List.getElem?_eq_some_iff.mp h6
    have := List.set_getElem_self (as := env) h6'
    rw [e6] at this
    exact this
  have c := lc_all (s := dRngI rng1 (dCons (dCall cLen (dCons (dVar v) dNil)) dNil)) (g := dGn 6) (f := dTup (dCons (dC (.int (s : Nat))) (dCons (dVar 6) dNil))) (vs := [6]) (env := env) (h := h) (h1 := h)
    (l := (List.range p.length).map fun i => D.int (0 + (i : Nat))) (F := fun d => .tup [nd s, d]) (fun d => env.set 6 (some d)) (rngI_1 el (rb_lt (by omega))) nxRng_at (by simp; omega) (fun d hd => by rw [w6]; rfl) (fun d hd => by
      have e6 : dVar 6 (env.set 6 (some d)) h = .ok d h := by simp [dVar, he]
      exact tup_ok (dCons_ok rfl (dCons_ok e6 dNil_ok)) (by simp; omega))
  rw [List.map_map] at c
  rw [c]
  congr 4
  exact List.map_congr_left fun i _ => by simp [kt, nd]
theorem meet_ok (a : Pa n p) (b : Pa n q) (h : Hd) : ∃ h', m_meet [nd n, pt p, pt q] h = .ok (.bl (meets n p q)) h' ∧ h <+: h' := by
  have hB := big_ge
  have hl := a.len
  have hlb := b.len
  have hn := a.hn
  have s1 := asg_n (i := 3) (here_ok a (env := [some (nd n), some (pt p), some (pt q), none, none, none, none, none, none]) (h := h) (s := 0) (v := 1) (vs := [6, 7, 8]) rfl rfl rfl rfl (by omega))
  have s2 := asg_n (i := 4) (here_ok b (env := [some (nd n), some (pt p), some (pt q), some (.ref h.length), none, none, none, none, none]) (h := h ++ [.dic (mp (p.flatten.map nd) (hereF 0 p))]) (s := 1) (v := 2) (vs := [6, 7, 8]) rfl rfl rfl rfl (by omega))
  generalize hh1 : h ++ [.dic (mp (p.flatten.map nd) (hereF 0 p))] = H1 at *
  have p1 : h <+: H1 := by rw [← hh1]; exact List.prefix_append _ _
  have a1 : H1[h.length]? = some (.dic (mp (p.flatten.map nd) (hereF 0 p))) := by rw [← hh1]; exact new_at
  generalize hh2 : H1 ++ [.dic (mp (q.flatten.map nd) (hereF 1 q))] = H2 at *
  have p2 : H1 <+: H2 := by rw [← hh2]; exact List.prefix_append _ _
  have a2 : H2[H1.length]? = some (.dic (mp (q.flatten.map nd) (hereF 1 q))) := by rw [← hh2]; exact new_at
  have a1' := pre_at p2 a1
  have k1 := kn_list a (env := [some (nd n), some (pt p), some (pt q), some (.ref h.length), some (.ref H1.length), none, none, none, none]) (h := H2) (v := 1) (s := 0) rfl rfl rfl
  generalize hh3 : H2 ++ [.lst ((List.range p.length).map (kt 0))] = H3 at *
  have p3 : H2 <+: H3 := by rw [← hh3]; exact List.prefix_append _ _
  have a3 : H3[H2.length]? = some (.lst ((List.range p.length).map (kt 0))) := by rw [← hh3]; exact new_at
  have k2 := kn_list b (env := [some (nd n), some (pt p), some (pt q), some (.ref h.length), some (.ref H1.length), none, none, none, none]) (h := H3) (v := 2) (s := 1) rfl rfl rfl
  generalize hh4 : H3 ++ [.lst ((List.range q.length).map (kt 1))] = H4 at *
  have p4 : H3 <+: H4 := by rw [← hh4]; exact List.prefix_append _ _
  have a4 : H4[H3.length]? = some (.lst ((List.range q.length).map (kt 1))) := by rw [← hh4]; exact new_at
  have s3 := asg_n (i := 5) (bin_ok (g := dAdd) k1 k2 (d := .ref H4.length) (h3 := H4 ++ [.lst (kns p.length q.length)]) (by
    simp only [dAdd, lstAt_of (pre_at p4 a3), lstAt_of a4, Option.bind_some]
    rw [if_pos (by simp; omega)]
    rfl))
  generalize hh5 : H4 ++ [.lst (kns p.length q.length)] = H5 at *
  have p5 : H4 <+: H5 := by rw [← hh5]; exact List.prefix_append _ _
  have a5 : H5[H4.length]? = some (.lst (kns p.length q.length)) := by rw [← hh5]; exact new_at
  have p25 : H2 <+: H5 := p3.trans (p4.trans p5)
  have ph5 : h <+: H5 := p1.trans (p2.trans p25)
  have t := lc_all (s := dRngI rng1 (dCons (dVar 0) dNil)) (g := dGn 8) (f := dTup (dCons (dBin dItem (dVar 3) (dVar 8)) (dCons (dBin dItem (dVar 4) (dVar 8)) dNil))) (vs := [8]) (env := [some (nd n), some (pt p), some (pt q), some (.ref h.length), some (.ref H1.length), some (.ref H4.length), none, none, none]) (h := H5) (h1 := H5)
    (l := (List.range n).map fun i => D.int (0 + (i : Nat))) (F := fun d => .tup [hereF 0 p d, hereF 1 q d]) (fun d => [some (nd n), some (pt p), some (pt q), some (.ref h.length), some (.ref H1.length), some (.ref H4.length), none, none, some d]) (rngI_1 (n := n) rfl (rb_lt (by omega))) nxRng_at (by simp; omega) (fun d hd => rfl) (fun d hd => by
      obtain ⟨x, hx, rfl⟩ := List.mem_map.mp hd
      have hx' := List.mem_range.mp hx
      rw [Int.zero_add]
      have kk : ∀ (r : List (List Nat)), ∀ v ∈ r.flatten.map nd, (keyOf v).isSome = true := fun r v hv => by
        obtain ⟨y, _, rfl⟩ := List.mem_map.mp hv; rfl
      have m1 : nd x ∈ p.flatten.map nd := List.mem_map.mpr ⟨x, a.perm.mem_iff.mpr hx, rfl⟩
      have m2 : nd x ∈ q.flatten.map nd := List.mem_map.mpr ⟨x, b.perm.mem_iff.mpr hx, rfl⟩
      have i1 := item_dic (pre_at p25 a1') (fits_k (x := nd x) rfl (kk p)) m1
      have i2 := item_dic (pre_at p25 a2) (fits_k (x := nd x) rfl (kk q)) m2
      exact tup_ok (dCons_ok (bin_ok rfl rfl i1) (dCons_ok (bin_ok rfl rfl i2) dNil_ok)) (by simp; omega))
  have te : ((List.range n).map fun i => D.int (0 + (i : Nat))).map (fun d => D.tup [hereF 0 p d, hereF 1 q d]) = (ties n p q).map tie := by
    unfold ties
    rw [List.map_map, List.map_map]
    exact List.map_congr_left fun x _ => by simp [tie, hereF]
  rw [te] at t
  generalize hh6 : H5 ++ [.lst ((ties n p q).map tie)] = H6 at *
  have p6 : H5 <+: H6 := by rw [← hh6]; exact List.prefix_append _ _
  have a6 : H6[H5.length]? = some (.lst ((ties n p q).map tie)) := by rw [← hh6]; exact new_at
  obtain ⟨h', st, pre⟩ := is_tree_ok (kns_kn hl hlb) (ties_in a b) (by simp [ties]; omega) (pre_at p6 a5) a6
  have e : decide ((ties n p q).length + 1 = (kns p.length q.length).length) = decide (n + 1 = p.length + q.length) := by simp [ties, kns]
  rw [e] at st
  have fin : dFn 2 m_is_tree (dCons (dVar 5) (dCons (dLc (dRngI rng1 (dCons (dVar 0) dNil)) (dGn 8) dYes (dTup (dCons (dBin dItem (dVar 3) (dVar 8)) (dCons (dBin dItem (dVar 4) (dVar 8)) dNil))) [8]) dNil)) [some (nd n), some (pt p), some (pt q), some (.ref h.length), some (.ref H1.length), some (.ref H4.length), none, none, none] H5 = .ok (.bl (meets n p q)) H5 :=
    dFn_val (dCons_ok rfl (dCons_ok t dNil_ok)) rfl st (p6.trans pre) rfl
  exact ⟨H5, mOf_rt ((seq_nx s1).trans ((seq_nx s2).trans ((seq_nx s3).trans (seq_rt (ret_ok fin))))), ph5⟩
end
end K47
namespace K47
open PySem L2 PyProof.Rows PN
/-! ## _law_do_meet: what is reached -/
def Cl (lots : List (List Nat)) (P : List Nat → Prop) : Prop := ∀ b ∈ lots, ∀ b' ∈ lots, ∀ x, x ∈ b → x ∈ b' → P b → P b'
structure Bf (n : Nat) (lots : List (List Nat)) (p0 : List Nat) (X : List (List Nat)) (W : List (List Nat)) (N : List Nat) : Prop where
  wl : ∀ b ∈ W, b ∈ lots
  nn : N.Nodup
  nl : ∀ x ∈ N, x < n
  snd : ∀ P, Cl lots P → P p0 → (∀ b ∈ W, P b) ∧ (∀ b ∈ X, P b) ∧ ∀ x ∈ N, ∀ b ∈ lots, x ∈ b → P b
  cmp : ∀ x ∈ N, ∀ b ∈ lots, x ∈ b → b ∈ W ∨ (∀ y ∈ b, y ∈ N) ∨ b ∈ X
  st : p0 ∈ W ∨ (∀ y ∈ p0, y ∈ N) ∨ p0 ∈ X
section
variable {n : Nat} {lots W : List (List Nat)} {p0 B : List Nat} {N : List Nat}
theorem Bf.start (h : p0 ∈ lots) : Bf n lots p0 [] [p0] [] := ⟨fun b hb => by rw [List.mem_singleton] at hb; rwa [hb], List.nodup_nil, fun x hx => by simp at hx, fun P _ hp => ⟨fun b hb => by rw [List.mem_singleton] at hb; rwa [hb], fun b hb => by simp at hb, fun x hx => by simp at hx⟩, fun x hx => by simp at hx, .inl (List.mem_singleton.mpr rfl)⟩
theorem Bf.pop (b : Bf n lots p0 [] (W ++ [B]) N) : Bf n lots p0 [B] W N := by
  have sw : ∀ {c : List Nat}, c ∈ W ++ [B] → c ∈ W ∨ c ∈ [B] := fun h => List.mem_append.mp h
  refine ⟨fun c hc => b.wl c (List.mem_append_left _ hc), b.nn, b.nl, fun P hP h0 => ?_, fun x hx c hc hxc => ?_, ?_⟩
  · obtain ⟨q1, q2, q3⟩ := b.snd P hP h0
    exact ⟨fun c hc => q1 c (List.mem_append_left _ hc), fun c hc => q1 c (List.mem_append_right _ hc), q3⟩
  · rcases b.cmp x hx c hc hxc with q | q | q
    · rcases sw q with q | q
      · exact .inl q
      · exact .inr (.inr q)
    · exact .inr (.inl q)
    · simp at q
  · rcases b.st with q | q | q
    · rcases sw q with q | q
      · exact .inl q
      · exact .inr (.inr q)
    · exact .inr (.inl q)
    · simp at q
theorem Bf.done (b : Bf n lots p0 [B] W N) (h : ∀ y ∈ B, y ∈ N) : Bf n lots p0 [] W N := by
  refine ⟨b.wl, b.nn, b.nl, fun P hP h0 => ?_, fun x hx c hc hxc => ?_, ?_⟩
  · obtain ⟨q1, q2, q3⟩ := b.snd P hP h0
    exact ⟨q1, fun c hc => by simp at hc, q3⟩
  · rcases b.cmp x hx c hc hxc with q | q | q
    · exact .inl q
    · exact .inr (.inl q)
    · rw [List.mem_singleton] at q; subst q; exact .inr (.inl h)
  · rcases b.st with q | q | q
    · exact .inl q
    · exact .inr (.inl q)
    · rw [List.mem_singleton] at q; subst q; exact .inr (.inl h)
def more (lots : List (List Nat)) (x : Nat) (B : List Nat) : List (List Nat) := (lots.filter fun c => c.contains x).filter fun c => !decide (c = B)
theorem Bf.add (b : Bf n lots p0 [B] W N) (hB : B ∈ lots) {x : Nat} (hx : x ∈ B) (hn : x < n) (hN : x ∉ N) : Bf n lots p0 [B] (W ++ more lots x B) (N ++ [x]) := by
  have mm : ∀ c, c ∈ more lots x B ↔ (c ∈ lots ∧ x ∈ c) ∧ c ≠ B := fun c => by
    simp [more, List.mem_filter]
    exact ⟨fun ⟨a, b, c⟩ => ⟨⟨a, c⟩, b⟩, fun ⟨⟨a, c⟩, b⟩ => ⟨a, b, c⟩⟩
  refine ⟨fun c hc => ?_, ?_, fun y hy => ?_, fun P hP h0 => ?_, fun y hy c hc hyc => ?_, ?_⟩
  · rcases List.mem_append.mp hc with q | q
    · exact b.wl c q
    · exact ((mm c).mp q).1.1
  · rw [List.nodup_append]
    exact ⟨b.nn, by simp, fun y hy z hz e => by rw [List.mem_singleton] at hz; subst hz; subst e; exact hN hy⟩
  · rcases List.mem_append.mp hy with q | q
    · exact b.nl y q
    · rw [List.mem_singleton] at q; rwa [q]
  · obtain ⟨q1, q2, q3⟩ := b.snd P hP h0
    have pB := q2 B (List.mem_singleton.mpr rfl)
    refine ⟨fun c hc => ?_, q2, fun y hy c hc hyc => ?_⟩
    · rcases List.mem_append.mp hc with q | q
      · exact q1 c q
      · have := (mm c).mp q
        exact hP B hB c this.1.1 x hx this.1.2 pB
    · rcases List.mem_append.mp hy with q | q
      · exact q3 y q c hc hyc
      · rw [List.mem_singleton] at q; subst q
        exact hP B hB c hc y hx hyc pB
  · rcases List.mem_append.mp hy with q | q
    · rcases b.cmp y q c hc hyc with r | r | r
      · exact .inl (List.mem_append_left _ r)
      · exact .inr (.inl fun z hz => List.mem_append_left _ (r z hz))
      · exact .inr (.inr r)
    · rw [List.mem_singleton] at q; subst q
      by_cases e : c = B
      · exact .inr (.inr (List.mem_singleton.mpr e))
      · exact .inl (List.mem_append_right _ ((mm c).mpr ⟨⟨hc, hyc⟩, e⟩))
  · rcases b.st with r | r | r
    · exact .inl (List.mem_append_left _ r)
    · exact .inr (.inl fun z hz => List.mem_append_left _ (r z hz))
    · exact .inr (.inr r)
end
theorem len_below : ∀ (m : Nat) (l : List Nat), l.Nodup → (∀ x ∈ l, x < m) → l.length ≤ m
  | 0, l, _, h => by
    cases l with
    | nil => simp
    | cons a l => have := h a List.mem_cons_self; omega
  | m + 1, l, nd, h => by
    by_cases c : m ∈ l
    · have e := filter_ne_len nd c
      have := len_below m (l.filter fun v => decide (v ≠ m)) (List.Pairwise.filter _ nd) fun x hx => by
        rw [List.mem_filter, decide_eq_true_eq] at hx
        have := h x hx.1
        have := hx.2
        omega
      omega
    · have := len_below m l nd fun x hx => by
        have h1 := h x hx
        have h2 : x ≠ m := fun e => by subst e; exact c hx
        omega
      omega
theorem full_of_len {n : Nat} {N : List Nat} (h1 : N.Nodup) (h2 : ∀ x ∈ N, x < n) (h3 : N.length = n) : ∀ x, x < n → x ∈ N := by
  intro x hx
  by_cases c : x ∈ N
  · exact c
  · exfalso
    have nd : (x :: N).Nodup := List.nodup_cons.mpr ⟨c, h1⟩
    have := len_below n (x :: N) nd fun y hy => by
      rcases List.mem_cons.mp hy with rfl | hy
      · exact hx
      · exact h2 y hy
    simp at this
    omega
theorem len_of_full {n : Nat} {N : List Nat} (h1 : N.Nodup) (h2 : ∀ x ∈ N, x < n) (h3 : ∀ x, x < n → x ∈ N) : N.length = n := by
  have p : N.Perm (List.range n) := (List.perm_ext_iff_of_nodup h1 List.nodup_range).mpr fun x => ⟨fun h => List.mem_range.mpr (h2 x h), fun h => h3 x (List.mem_range.mp h)⟩
  have := p.length_eq
  rwa [List.length_range] at this
/-- reached by going from block to block: all just where the ties are one tree -/
theorem reach_iff {n : Nat} {p q : List (List Nat)} (a : Pa n p) (b : Pa n q) (hs : n + 1 = p.length + q.length) {p0 : List Nat} (e0 : p[0]? = some p0) {N : List Nat} (f : Bf n (p ++ q) p0 [] [] N) : decide (N.length = n) = meets n p q := by
  have h0 : 0 < p.length := (List.getElem?_eq_some_iff.mp e0).1
  have e0' : p[0] = p0 := (List.getElem?_eq_some_iff.mp e0).2
  have tr := tree_iff (kns_kn a.len b.len).nd (ties_in a b) (by simp [ties, kns]; omega) (r := kt 0 0) (kns_mem.mpr (.inl ⟨0, h0, rfl⟩))
  have m : meets n p q = (uf (ties n p q) id).isSome := by simp [meets, hs]
  rw [m, Bool.eq_iff_iff, decide_eq_true_eq, tr]
  have lt_p : ∀ {i x : Nat} (hi : i < p.length), x ∈ p[i] → x < n := fun hi hx => a.mem.mp ⟨_, List.getElem_mem hi, hx⟩
  have lt_q : ∀ {i x : Nat} (hi : i < q.length), x ∈ q[i] → x < n := fun hi hx => b.mem.mp ⟨_, List.getElem_mem hi, hx⟩
  constructor
  · intro hl P hP hr
    have full := full_of_len f.nn f.nl hl
    have tP : ∀ x, x < n → (P (kt 0 (idx p x)) ↔ P (kt 1 (idx q x))) := fun x hx => hP (kt 0 (idx p x), kt 1 (idx q x)) (List.mem_map.mpr ⟨x, List.mem_range.mpr hx, rfl⟩)
    have cl : Cl (p ++ q) fun c => ∀ x ∈ c, P (kt 0 (idx p x)) := by
      intro c hc c' hc' x hx hx' hPc y hy
      have qx := hPc x hx
      rcases List.mem_append.mp hc' with hm | hm
      · obtain ⟨i, hi, rfl⟩ := List.mem_iff_getElem.mp hm
        rw [a.idx hi hx'] at qx
        rw [a.idx hi hy]; exact qx
      · obtain ⟨i, hi, rfl⟩ := List.mem_iff_getElem.mp hm
        have k1 := (tP x (lt_q hi hx')).mp qx
        rw [b.idx hi hx'] at k1
        apply (tP y (lt_q hi hy)).mpr
        rw [b.idx hi hy]; exact k1
    have s0 : ∀ x ∈ p0, P (kt 0 (idx p x)) := fun x hx => by
      rw [← e0'] at hx
      rw [a.idx h0 hx]; exact hr
    obtain ⟨_, _, q3⟩ := f.snd _ cl s0
    have all : ∀ x, x < n → P (kt 0 (idx p x)) := fun x hx => q3 x (full x hx) _ (List.mem_append_left _ (List.getElem_mem (a.idx_lt hx))) (a.idx_mem hx) x (a.idx_mem hx)
    intro v hv
    rcases kns_mem.mp hv with ⟨i, hi, rfl⟩ | ⟨i, hi, rfl⟩
    · obtain ⟨x, hx⟩ := List.exists_mem_of_ne_nil _ (a.ne _ (List.getElem_mem hi))
      have := all x (lt_p hi hx)
      rwa [a.idx hi hx] at this
    · obtain ⟨x, hx⟩ := List.exists_mem_of_ne_nil _ (b.ne _ (List.getElem_mem hi))
      have := (tP x (lt_q hi hx)).mp (all x (lt_q hi hx))
      rwa [b.idx hi hx] at this
  · intro hP
    have cm : ∀ x ∈ N, ∀ c ∈ p ++ q, x ∈ c → ∀ y ∈ c, y ∈ N := fun x hx c hc hxc => by
      rcases f.cmp x hx c hc hxc with r | r | r
      · simp at r
      · exact r
      · simp at r
    have st : ∀ y ∈ p0, y ∈ N := by
      rcases f.st with r | r | r
      · simp at r
      · exact r
      · simp at r
    have all := hP (fun d => ∀ x, x < n → (d = kt 0 (idx p x) ∨ d = kt 1 (idx q x)) → x ∈ N) (by
      intro e he
      obtain ⟨x, hx, rfl⟩ := List.mem_map.mp he
      have hx' := List.mem_range.mp hx
      constructor
      · intro h y hy hyd
        have xN := h x hx' (.inl rfl)
        rcases hyd with e | e
        · have := (kt_inj e).1; omega
        · have e' := (kt_inj e).2
          have m1 := b.idx_mem hy
          simp only [← e'] at m1
          exact cm x xN _ (List.mem_append_right _ (List.getElem_mem (b.idx_lt hx'))) (b.idx_mem hx') y m1
      · intro h y hy hyd
        have xN := h x hx' (.inr rfl)
        rcases hyd with e | e
        · have e' := (kt_inj e).2
          have m1 := a.idx_mem hy
          simp only [← e'] at m1
          exact cm x xN _ (List.mem_append_left _ (List.getElem_mem (a.idx_lt hx'))) (a.idx_mem hx') y m1
        · have := (kt_inj e).1; omega) (by
      intro x hx hd
      rcases hd with e | e
      · have e' := (kt_inj e).2
        have m1 := a.idx_mem hx
        simp only [← e', e0'] at m1
        exact st x m1
      · have := (kt_inj e).1; omega)
    exact len_of_full f.nn f.nl fun x hx => all (kt 0 (idx p x)) (kns_mem.mpr (.inl ⟨_, a.idx_lt hx, rfl⟩)) x hx (.inl rfl)
end K47
namespace K47
open PySem L2 PyProof.Rows PN
/-! ## _law_do_meet: the walk -/
theorem bks_itL (l : List (List Nat)) : D.itL (l.map bk) = true := pt_itL l
theorem nds_dep (l : List Nat) : D.depthL (l.map nd) ≤ 0 := depthL_le fun d hd => by
  obtain ⟨i, _, rfl⟩ := List.mem_map.mp hd; rw [nd_depth]; exact Nat.le_refl _
theorem nd_mem {x : Nat} {l : List Nat} : nd x ∈ l.map nd ↔ x ∈ l := ⟨fun h => by
  obtain ⟨y, hy, e⟩ := List.mem_map.mp h
  rwa [← nd_inj e], fun h => List.mem_map.mpr ⟨x, h, rfl⟩⟩
/-- the state -/
structure Dm (h : Hd) (w m : Nat) (W : List (List Nat)) (N : List Nat) (h' : Hd) : Prop where
  pre : h <+: h'
  hw : h.length ≤ w
  hm : h.length ≤ m
  ne : w ≠ m
  ww : h'[w]? = some (.lst (W.map bk))
  mm : h'[m]? = some (.lst (N.map nd))
def tMore : Se := dLc (dSeqI (dBin dAdd (dVar 1) (dVar 2))) (dGn 8) (dFlag (dBin dIn (dVar 6) (dVar 8))) (dVar 8) [8]
def tMore2 : Se := dLc (dSeqI (dVar 7)) (dGn 8) (dFlag (dBin dNe (dVar 8) (dVar 5))) (dVar 8) [8]
section
variable {n : Nat} {p q : List (List Nat)} {B : List Nat} {x : Nat} {w m : Nat} {h h' : Hd}
theorem tMore_ok (hp : p.length ≤ 7) (hq : q.length ≤ 7) {x7 x8 : Option D} : tMore [some (nd n), some (pt p), some (pt q), some (.ref w), some (.ref m), some (bk B), some (nd x), x7, x8] h' =
    .ok (.ref h'.length) (h' ++ [.lst (((p ++ q).filter fun c => c.contains x).map bk)]) := by
  have hB := big_ge
  have s : dSeqI (dBin dAdd (dVar 1) (dVar 2)) [some (nd n), some (pt p), some (pt q), some (.ref w), some (.ref m), some (bk B), some (nd x), x7, x8] h' = .ok (nxOf ((p ++ q).map bk)) h' := by
    refine seqI_tup (bin_ok rfl rfl ?_)
    rw [pt, pt, dAdd_tup (by simp; omega), List.map_append]
  have c := lc_map (s := dSeqI (dBin dAdd (dVar 1) (dVar 2))) (g := dGn 8) (t := dFlag (dBin dIn (dVar 6) (dVar 8))) (f := dVar 8) (vs := [8]) (env := [some (nd n), some (pt p), some (pt q), some (.ref w), some (.ref m), some (bk B), some (nd x), x7, x8]) (h := h')
    (F := id) (T := fun d => match d with
      | .tup l => decide (nd x ∈ l)
      | _ => false) (fun d => [some (nd n), some (pt p), some (pt q), some (.ref w), some (.ref m), some (bk B), some (nd x), x7, some d]) s nxOf_at (by simp; omega) (fun d _ => rfl) (fun d hd => by
        obtain ⟨c, _, rfl⟩ := List.mem_map.mp hd
        exact flag_ok (bin_ok rfl rfl (dIn_tup (nd_it x) (bk_itL c) (by rw [nd_depth]; omega) (Nat.le_trans (nds_dep c) (by omega))))) (fun d _ _ => rfl)
  unfold tMore
  rw [c, List.map_id, List.filter_map]
  congr 4
  refine congrArg (List.map bk) ?_
  apply List.filter_congr
  intro c _
  simp only [Function.comp, bk]
  rw [Bool.eq_iff_iff, decide_eq_true_eq, nd_mem]
  simp
theorem tMore2_ok {r : Nat} {l : List (List Nat)} (er : h'[r]? = some (.lst (l.map bk))) (hl : l.length ≤ 100) {x8 : Option D} : tMore2 [some (nd n), some (pt p), some (pt q), some (.ref w), some (.ref m), some (bk B), some (nd x), some (.ref r), x8] h' =
    .ok (.ref h'.length) (h' ++ [.lst ((l.filter fun c => !decide (c = B)).map bk)]) := by
  have hB := big_ge
  have c := lc_map (s := dSeqI (dVar 7)) (g := dGn 8) (t := dFlag (dBin dNe (dVar 8) (dVar 5))) (f := dVar 8) (vs := [8]) (env := [some (nd n), some (pt p), some (pt q), some (.ref w), some (.ref m), some (bk B), some (nd x), some (.ref r), x8]) (h := h')
    (F := id) (T := fun d => !decide (d = bk B)) (fun d => [some (nd n), some (pt p), some (pt q), some (.ref w), some (.ref m), some (bk B), some (nd x), some (.ref r), some d]) (seqI_ref rfl (seqAt_of er)) (nxLst_at (seqAt_of er)) (by simp; omega) (fun d _ => rfl) (fun d hd => by
        obtain ⟨c, _, rfl⟩ := List.mem_map.mp hd
        exact flag_ok (bin_ok rfl rfl (dNe_it (bk_it c) (bk_it B) (Nat.le_trans (bk_depth c) (by omega)) (Nat.le_trans (bk_depth B) (by omega))))) (fun d _ _ => rfl)
  unfold tMore2
  rw [c, List.map_id, List.filter_map]
  congr 4
  refine congrArg (List.map bk) ?_
  apply List.filter_congr
  intro c _
  simp only [Function.comp]
  congr 1
  rw [decide_eq_decide]
  exact ⟨bk_inj, fun e => by rw [e]⟩
def tStep : Ss := dIfS (dFlag (dBin dNotIn (dVar 6) (dVar 4)))
          (dSeq (dDrop (dMeth .list mAppend (dVar 4) (dCons (dVar 6) dNil))) <|
           dSeq (dAsg tMore (dGn 7)) <|
           dSeq (dDrop (dMeth .list mExtend (dVar 3) (dCons tMore2 dNil))) <|
           dSkip)
          dSkip
theorem tStep_ok (hp : p.length ≤ 7) (hq : q.length ≤ 7) {W : List (List Nat)} {N : List Nat} (s : Dm h w m W N h') (hW : W.length ≤ 1000) (hN : N.length ≤ 1000) {x7 x8 : Option D} :
    ∃ y7 y8 h2, tStep [some (nd n), some (pt p), some (pt q), some (.ref w), some (.ref m), some (bk B), some (nd x), x7, x8] h' = .nx [some (nd n), some (pt p), some (pt q), some (.ref w), some (.ref m), some (bk B), some (nd x), y7, y8] h2 ∧
      Dm h w m (if x ∈ N then W else W ++ more (p ++ q) x B) (if x ∈ N then N else N ++ [x]) h2 := by
  have hB := big_ge
  have t : dFlag (dBin dNotIn (dVar 6) (dVar 4)) [some (nd n), some (pt p), some (pt q), some (.ref w), some (.ref m), some (bk B), some (nd x), x7, x8] h' = .ok (!decide (x ∈ N)) h' := by
    refine flag_ok (bin_ok rfl rfl ((dNotIn_lst (lstAt_of s.mm) (nd_it x) (bk_itL N) (by rw [nd_depth]; omega) (Nat.le_trans (nds_dep N) (by omega))).trans ?_))
    congr 4
    rw [decide_eq_decide]
    exact nd_mem
  by_cases c : x ∈ N
  · refine ⟨x7, x8, h', if_f (by rw [t]; simp [c]), ?_⟩
    simpa [c] using s
  · have s1 : dDrop (dMeth .list mAppend (dVar 4) (dCons (dVar 6) dNil)) [some (nd n), some (pt p), some (pt q), some (.ref w), some (.ref m), some (bk B), some (nd x), x7, x8] h' =
        .nx [some (nd n), some (pt p), some (pt q), some (.ref w), some (.ref m), some (bk B), some (nd x), x7, x8] (h'.set m (.lst (N.map nd ++ [nd x]))) :=
      drop_ok (meth_ok rfl (ty_lst s.mm) (dCons_ok rfl dNil_ok) (append_ok s.mm (by simp; omega)))
    have d1 : Dm h w m W (N ++ [x]) (h'.set m (.lst (N.map nd ++ [nd x]))) := ⟨pre_set s.pre s.hm, s.hw, s.hm, s.ne, set_ne (fun e => s.ne e.symm) s.ww, by rw [List.map_append]; exact set_at s.mm⟩
    generalize h'.set m (.lst (N.map nd ++ [nd x])) = h1 at *
    have s2 := asg_n (i := 7) (tMore_ok (n := n) (B := B) (x := x) (w := w) (m := m) (h' := h1) hp hq (x7 := x7) (x8 := x8))
    generalize hl : (p ++ q).filter (fun c => c.contains x) = l at *
    have ll : l.length ≤ 14 := by
      rw [← hl]
      have := List.length_filter_le (fun c => c.contains x) (p ++ q)
      rw [List.length_append] at this
      omega
    have s3 := tMore2_ok (n := n) (p := p) (q := q) (B := B) (x := x) (w := w) (m := m) (h' := h1 ++ [.lst (l.map bk)]) (r := h1.length) (l := l) new_at (by omega) (x8 := x8)
    generalize hl2 : l.filter (fun c => !decide (c = B)) = l2 at *
    have ll2 : l2.length ≤ 14 := by
      rw [← hl2]
      have := List.length_filter_le (fun c => !decide (c = B)) l
      omega
    have e : l2 = more (p ++ q) x B := by rw [← hl2, ← hl]; rfl
    have aw : (h1 ++ [Ob.lst (l.map bk)] ++ [Ob.lst (l2.map bk)])[w]? = some (.lst (W.map bk)) := app_at (app_at d1.ww)
    have s4 : dDrop (dMeth .list mExtend (dVar 3) (dCons tMore2 dNil)) [some (nd n), some (pt p), some (pt q), some (.ref w), some (.ref m), some (bk B), some (nd x), some (.ref h1.length), x8] (h1 ++ [.lst (l.map bk)]) =
        .nx [some (nd n), some (pt p), some (pt q), some (.ref w), some (.ref m), some (bk B), some (nd x), some (.ref h1.length), x8] ((h1 ++ [Ob.lst (l.map bk)] ++ [Ob.lst (l2.map bk)]).set w (.lst (W.map bk ++ l2.map bk))) :=
      drop_ok (meth_ok rfl (ty_lst (app_at d1.ww)) (dCons_ok s3 dNil_ok) (extend_ok aw new_at (by simp; omega)))
    refine ⟨some (.ref h1.length), x8, _, (if_t (by rw [t]; simp [c])).trans ((seq_nx s1).trans ((seq_nx s2).trans ((seq_nx s4).trans rfl))), ?_⟩
    simp only [c, if_false]
    refine ⟨pre_set (pre_app (pre_app d1.pre)) s.hw, s.hw, s.hm, s.ne, ?_, set_ne s.ne (app_at (app_at d1.mm))⟩
    rw [← e, List.map_append]
    exact set_at aw
theorem more_len (hp : p.length ≤ 7) (hq : q.length ≤ 7) : (more (p ++ q) x B).length ≤ 14 := by
  have h1 := List.length_filter_le (fun c => !decide (c = B)) ((p ++ q).filter fun c => c.contains x)
  have h2 := List.length_filter_le (fun c : List Nat => c.contains x) (p ++ q)
  rw [List.length_append] at h2
  unfold more
  omega
def tFor : Ss := dFor (dSeqI (dVar 5)) (dGn 6) (dSeq tStep dSkip)
theorem tFor_ok (a : Pa n p) (b : Pa n q) {p0 : List Nat} {W : List (List Nat)} {N : List Nat} (s : Dm h w m W N h') (f : Bf n (p ++ q) p0 [B] W N) (hB : B ∈ p ++ q) (hm : W.length + 15 * (n - N.length) ≤ 200) {x6 x7 x8 : Option D} :
    ∃ W2 N2 y6 y7 y8 h2, tFor [some (nd n), some (pt p), some (pt q), some (.ref w), some (.ref m), some (bk B), x6, x7, x8] h' = .nx [some (nd n), some (pt p), some (pt q), some (.ref w), some (.ref m), some (bk B), y6, y7, y8] h2 ∧
      Dm h w m W2 N2 h2 ∧ Bf n (p ++ q) p0 [] W2 N2 ∧ W2.length + 15 * (n - N2.length) ≤ W.length + 15 * (n - N.length) := by
  have big := big_ge
  have hn := a.hn
  have bl : B.length ≤ 7 := by
    rcases List.mem_append.mp hB with q | q
    · exact a.blen B q
    · exact b.blen B q
  have bn : ∀ x ∈ B, x < n := fun x hx => by
    rcases List.mem_append.mp hB with q | q
    · exact a.mem.mp ⟨B, q, hx⟩
    · exact b.mem.mp ⟨B, q, hx⟩
  obtain ⟨e', h2, s2, W2, N2, y6, y7, y8, rfl, d2, f2, m2, c2⟩ := for_inv (s := dSeqI (dVar 5)) (g := dGn 6) (b := dSeq tStep dSkip) (env := [some (nd n), some (pt p), some (pt q), some (.ref w), some (.ref m), some (bk B), x6, x7, x8]) (h := h') (l := B.map nd)
    (P := fun j e h2 => ∃ W2 N2 y6 y7 y8, e = [some (nd n), some (pt p), some (pt q), some (.ref w), some (.ref m), some (bk B), y6, y7, y8] ∧ Dm h w m W2 N2 h2 ∧ Bf n (p ++ q) p0 [B] W2 N2 ∧ W2.length + 15 * (n - N2.length) ≤ W.length + 15 * (n - N.length) ∧ ∀ y ∈ B.take j, y ∈ N2)
    (seqI_tup rfl) ⟨W, N, x6, x7, x8, rfl, s, f, Nat.le_refl _, fun y hy => by simp at hy⟩ (fun j e h2 _ => rfl) (by simp; omega) (by
      rintro j d e h2 ed ⟨W2, N2, y6, y7, y8, rfl, d2, f2, m2, c2⟩
      rw [List.getElem?_map, Option.map_eq_some_iff] at ed
      obtain ⟨x, ex, rfl⟩ := ed
      have hx : x ∈ B := List.mem_of_getElem? ex
      have nl := len_below n N2 f2.nn f2.nl
      obtain ⟨z7, z8, h3, st, d3⟩ := tStep_ok (n := n) (B := B) (x := x) a.len b.len d2 (by omega) (by omega) (x7 := y7) (x8 := y8)
      refine ⟨[some (nd n), some (pt p), some (pt q), some (.ref w), some (.ref m), some (bk B), some (nd x), y7, y8], h2, rfl, _, h3, (seq_nx st).trans rfl, _, _, some (nd x), z7, z8, rfl, d3, ?_, ?_, ?_⟩
      · by_cases c : x ∈ N2
        · simpa [c] using f2
        · simp only [c, if_false]
          exact f2.add hB hx (bn x hx) c
      · by_cases c : x ∈ N2
        · simpa [c] using m2
        · simp only [c, if_false]
          have f3 := f2.add hB hx (bn x hx) c
          have nl3 := len_below n _ f3.nn f3.nl
          have ml := more_len (B := B) (x := x) a.len b.len
          simp only [List.length_append, List.length_singleton] at nl3 ⊢
          omega
      · intro y hy
        rw [List.take_add_one, ex] at hy
        have hy' : y ∈ B.take j ∨ y = x := by simpa using hy
        by_cases c : x ∈ N2
        · simp only [c, if_true]
          rcases hy' with r | r
          · exact c2 y r
          · rw [r]; exact c
        · simp only [c, if_false, List.mem_append, List.mem_singleton]
          rcases hy' with r | r
          · exact .inl (c2 y r)
          · exact .inr r)
  refine ⟨W2, N2, y6, y7, y8, h2, s2, d2, ?_, m2⟩
  rw [List.length_map, List.take_of_length_le (Nat.le_refl _)] at c2
  exact f2.done c2
theorem f_do_meet_eq : f_law_do_meet = dSeq (dIfS (dFlag (dBin dNe (dBin dAdd (dCall cLen (dCons (dVar 1) dNil)) (dCall cLen (dCons (dVar 2) dNil))) (dBin dAdd (dVar 0) (dC (.int 1))))) (dSeq (dRet (dC (.bl false))) dSkip) dSkip)
  (dSeq (dPar 3 4 (dCons (dLst (dCons (dBin dItem (dVar 1) (dC (.int 0))) dNil)) (dCons (dLst dNil) dNil)))
  (dSeq (dWhile (dFlag (dBin dGt (dCall cLen (dCons (dVar 3) dNil)) (dC (.int 0)))) (dSeq (dAsg (dMeth0 .list mPop (dVar 3)) (dGn 5)) (dSeq tFor dSkip)))
  (dSeq (dRet (dBin dEq (dCall cLen (dCons (dVar 4) dNil)) (dVar 0))) dSkip))) := rfl
theorem do_meet_ok (a : Pa n p) (b : Pa n q) (h : Hd) : ∃ h', m_law_do_meet [nd n, pt p, pt q] h = .ok (.bl (meets n p q)) h' ∧ h <+: h' := by
  have big := big_ge
  have hl := a.len
  have hlb := b.len
  have hn := a.hn
  have l1 : dCall cLen (dCons (dVar 1) dNil) [some (nd n), some (pt p), some (pt q), none, none, none, none, none, none] h = .ok (.int (p.length : Int)) h := by
    have := len_tup (f := dVar 1) (env := [some (nd n), some (pt p), some (pt q), none, none, none, none, none, none]) (l := p.map bk) rfl (List.prefix_refl h) (by simp; omega)
    rwa [List.length_map] at this
  have l2 : dCall cLen (dCons (dVar 2) dNil) [some (nd n), some (pt p), some (pt q), none, none, none, none, none, none] h = .ok (.int (q.length : Int)) h := by
    have := len_tup (f := dVar 2) (env := [some (nd n), some (pt p), some (pt q), none, none, none, none, none, none]) (l := q.map bk) rfl (List.prefix_refl h) (by simp; omega)
    rwa [List.length_map] at this
  have c1 : dFlag (dBin dNe (dBin dAdd (dCall cLen (dCons (dVar 1) dNil)) (dCall cLen (dCons (dVar 2) dNil))) (dBin dAdd (dVar 0) (dC (.int 1)))) [some (nd n), some (pt p), some (pt q), none, none, none, none, none, none] h = .ok (!decide (n + 1 = p.length + q.length)) h := by
    refine flag_ok (bin_ok (bin_ok l1 l2 rfl) (bin_ok rfl rfl rfl) ((dNe_it rfl rfl (by simp [D.depth]) (by simp [D.depth])).trans ?_))
    congr 4
    simp only [D.int.injEq, decide_eq_decide]
    omega
  by_cases hs : n + 1 = p.length + q.length
  · have h0 : 0 < p.length := by
      cases p with
      | nil =>
        have := a.perm.length_eq
        have := a.h1
        simp at *
        omega
      | cons => simp
    have e0 : p[0]? = some p[0] := List.getElem?_eq_getElem h0
    have m0 : p[0] ∈ p ++ q := List.mem_append_left _ (List.getElem_mem h0)
    have i0 : dBin dItem (dVar 1) (dC (.int 0)) [some (nd n), some (pt p), some (pt q), none, none, none, none, none, none] h = .ok (bk p[0]) h := bin_ok rfl rfl (by simp [pt, dItem, L2.atI, ixN, h0])
    have s1 : dPar 3 4 (dCons (dLst (dCons (dBin dItem (dVar 1) (dC (.int 0))) dNil)) (dCons (dLst dNil) dNil)) [some (nd n), some (pt p), some (pt q), none, none, none, none, none, none] h =
        .nx [some (nd n), some (pt p), some (pt q), some (.ref h.length), some (.ref (h ++ [Ob.lst [bk p[0]]]).length), none, none, none, none] (h ++ [Ob.lst [bk p[0]]] ++ [.lst []]) := by
      have c := dCons_ok (lst_ok (dCons_ok i0 dNil_ok) (by simp; omega)) (dCons_ok (lst_ok (e := [some (nd n), some (pt p), some (pt q), none, none, none, none, none, none]) (h := h ++ [Ob.lst [bk p[0]]]) dNil_ok (by simp)) dNil_ok)
      simp only [dPar, c, Rs.to_ok]
      rfl
    have d1 : Dm h h.length (h ++ [Ob.lst [bk p[0]]]).length [p[0]] [] (h ++ [Ob.lst [bk p[0]]] ++ [.lst []]) := ⟨pre_app (List.prefix_append _ _), Nat.le_refl _, by simp, by simp, app_at new_at, new_at⟩
    generalize (h ++ [Ob.lst [bk p[0]]]).length = mm at *
    generalize h ++ [Ob.lst [bk p[0]]] ++ [.lst []] = h1 at *
    obtain ⟨e', h2, s2, N, x5, x6, x7, x8, rfl, d2, f2⟩ := while_inv (c := dFlag (dBin dGt (dCall cLen (dCons (dVar 3) dNil)) (dC (.int 0)))) (b := dSeq (dAsg (dMeth0 .list mPop (dVar 3)) (dGn 5)) (dSeq tFor dSkip)) (m := 1 + 15 * n)
      (env := [some (nd n), some (pt p), some (pt q), some (.ref h.length), some (.ref mm), none, none, none, none]) (h := h1)
      (P := fun k e h2 => ∃ W N x5 x6 x7 x8, e = [some (nd n), some (pt p), some (pt q), some (.ref h.length), some (.ref mm), x5, x6, x7, x8] ∧ Dm h h.length mm W N h2 ∧ Bf n (p ++ q) p[0] [] W N ∧ k = W.length + 15 * (n - N.length) ∧ k ≤ 150)
      (Q := fun e h2 => ∃ N x5 x6 x7 x8, e = [some (nd n), some (pt p), some (pt q), some (.ref h.length), some (.ref mm), x5, x6, x7, x8] ∧ Dm h h.length mm [] N h2 ∧ Bf n (p ++ q) p[0] [] [] N)
      ⟨[p[0]], [], none, none, none, none, rfl, d1, Bf.start m0, by simp, by omega⟩ (by omega) (by
        rintro k e h2 ⟨W, N, x5, x6, x7, x8, rfl, d, f, ek, hk⟩
        have lw : dCall cLen (dCons (dVar 3) dNil) [some (nd n), some (pt p), some (pt q), some (.ref h.length), some (.ref mm), x5, x6, x7, x8] h2 = .ok (.int ((W.map bk).length : Int)) h2 := len_lst rfl (List.prefix_refl _) d.ww (by simp; omega)
        have c : dFlag (dBin dGt (dCall cLen (dCons (dVar 3) dNil)) (dC (.int 0))) [some (nd n), some (pt p), some (pt q), some (.ref h.length), some (.ref mm), x5, x6, x7, x8] h2 = .ok (decide (0 < ((W.map bk).length : Int))) h2 :=
          flag_ok (bin_ok lw rfl rfl)
        rcases List.eq_nil_or_concat W with rfl | ⟨W', B, rfl⟩
        · left
          exact ⟨h2, by rw [c]; simp, N, x5, x6, x7, x8, rfl, d, f⟩
        · right
          rw [List.concat_eq_append] at *
          have hB : B ∈ p ++ q := f.wl B (List.mem_append_right _ (List.mem_singleton.mpr rfl))
          have pp : dAsg (dMeth0 .list mPop (dVar 3)) (dGn 5) [some (nd n), some (pt p), some (pt q), some (.ref h.length), some (.ref mm), x5, x6, x7, x8] h2 =
              .nx [some (nd n), some (pt p), some (pt q), some (.ref h.length), some (.ref mm), some (bk B), x6, x7, x8] (h2.set h.length (.lst (W'.map bk))) := by
            refine (asg_n (meth0_ok rfl (ty_lst d.ww) (d := bk B) (h3 := h2.set h.length (.lst (W'.map bk))) ?_)).trans rfl
            show ((lstAt h2 h.length).bind fun l => (l[l.length - 1]?).map fun d => (d, h2.set h.length (.lst l.dropLast))) = _
            rw [lstAt_of d.ww, Option.bind_some]
            simp
          have d' : Dm h h.length mm W' N (h2.set h.length (.lst (W'.map bk))) := ⟨pre_set d.pre d.hw, d.hw, d.hm, d.ne, set_at d.ww, set_ne d.ne d.mm⟩
          have le : (W' ++ [B]).length = W'.length + 1 := by simp
          obtain ⟨W2, N2, y6, y7, y8, h3, s3, d3, f3, m3⟩ := tFor_ok a b d' f.pop hB (by omega) (x6 := x6) (x7 := x7) (x8 := x8)
          refine ⟨h2, _, h3, W2.length + 15 * (n - N2.length), by rw [c]; simp, (seq_nx pp).trans ((seq_nx s3).trans rfl), by omega, W2, N2, some (bk B), y6, y7, y8, rfl, d3, f3, rfl, by omega⟩)
    have nl := len_below n N f2.nn f2.nl
    have lN : dCall cLen (dCons (dVar 4) dNil) [some (nd n), some (pt p), some (pt q), some (.ref h.length), some (.ref mm), x5, x6, x7, x8] h2 = .ok (.int ((N.map nd).length : Int)) h2 := len_lst rfl (List.prefix_refl _) d2.mm (by simp; omega)
    have r := reach_iff a b hs e0 f2
    have fin : dBin dEq (dCall cLen (dCons (dVar 4) dNil)) (dVar 0) [some (nd n), some (pt p), some (pt q), some (.ref h.length), some (.ref mm), x5, x6, x7, x8] h2 = .ok (.bl (meets n p q)) h2 := by
      refine bin_ok lN rfl ((dEq_it rfl rfl (by simp [D.depth]) (by rw [nd_depth]; omega)).trans ?_)
      rw [← r]
      congr 3
      simp only [nd, D.int.injEq, decide_eq_decide, List.length_map]
      omega
    refine ⟨h2, ?_, d2.pre⟩
    unfold m_law_do_meet
    rw [f_do_meet_eq]
    have c1' := c1.trans (show _ = Rs.ok false h by simp [hs])
    exact mOf_rt ((seq_nx (if_f c1')).trans ((seq_nx s1).trans ((seq_nx s2).trans (seq_rt (ret_ok fin)))))
  · refine ⟨h, ?_, List.prefix_refl h⟩
    have : meets n p q = false := by simp [meets, hs]
    rw [this]
    have c1' := c1.trans (show _ = Rs.ok true h by simp [hs])
    exact mOf_rt (seq_rt ((if_t c1').trans (seq_rt (ret_ok rfl))))
end
end K47
namespace K47
open PySem L2 PyProof.Rows PN
/-! ## the tape -/
def TapeOk (t k : Nat) (h : Hd) : Prop := t ≠ k ∧ ∃ (s c : Int) (cs : List Int), h[t]? = some (.lst [.int s, .int c, .ref k]) ∧ h[k]? = some (.lst (cs.map D.int))
/-- only the tape is written -/
structure Tq (t k : Nat) (h h' : Hd) : Prop where
  tape : TapeOk t k h'
  len : h.length ≤ h'.length
  oth : ∀ j ob, j ≠ t → j ≠ k → h[j]? = some ob → h'[j]? = some ob
theorem Tq.trans {t k : Nat} {h h1 h2 : Hd} (a : Tq t k h h1) (b : Tq t k h1 h2) : Tq t k h h2 := ⟨b.tape, Nat.le_trans a.len b.len, fun j ob n1 n2 e => b.oth j ob n1 n2 (a.oth j ob n1 n2 e)⟩
theorem Tq.refl {t k : Nat} {h : Hd} (a : TapeOk t k h) : Tq t k h h := ⟨a, Nat.le_refl _, fun _ _ _ _ e => e⟩
theorem Tq.app {t k : Nat} {h h' x : Hd} (a : Tq t k h h') : Tq t k h (h' ++ x) := by
  obtain ⟨ne, s, c, cs, e1, e2⟩ := a.tape
  refine ⟨⟨ne, s, c, cs, app_at e1, app_at e2⟩, ?_, fun j ob n1 n2 e => app_at (a.oth j ob n1 n2 e)⟩
  rw [List.length_append]
  exact Nat.le_trans a.len (Nat.le_add_right _ _)
theorem set_other {h : Hd} {t j : Nat} {o ob : Ob} (n : j ≠ t) (e : h[j]? = some ob) : (h.set t o)[j]? = some ob := set_ne (fun x => n x.symm) e
theorem gc_same {h h' : Hd} {d : D} (u : d.und h.length = true) (e : h'.length = h.length) : gc h (.ok d h') = .ok d h' := by
  by_cases c : h' = h
  · subst c
    exact gc_val (List.prefix_refl _) u
  · have : ¬ h'.take h.length = h := by rw [← e, List.take_length]; exact c
    simp only [gc, this, if_false]
theorem len_l {f : Se} {env : PN.Env} {h : Hd} {n : Nat} {l : List D} (e : f env h = .ok (.ref n) h) (el : h[n]? = some (.lst l)) : dCall cLen (dCons f dNil) env h = .ok (.int l.length) h := by
  refine dCall_val (dCons_ok e dNil_ok) (h2 := h) ?_ (List.prefix_refl h) (by simp [D.und])
  simp [cLen, one, lenD, seqAt_of el]
theorem int_ok {f : Se} {env : PN.Env} {h : Hd} {i : Int} (e : f env h = .ok (.int i) h) : dCall cInt (dCons f dNil) env h = .ok (.int i) h :=
  dCall_val (dCons_ok e dNil_ok) (h2 := h) rfl (List.prefix_refl h) rfl
theorem item_at {h : Hd} {n : Nat} {l : List D} {i : Nat} {d : D} (e : h[n]? = some (.lst l)) (ei : l[i]? = some d) : dItem (.ref n) (.int i) h = some (d, h) := by
  have hi := (List.getElem?_eq_some_iff.mp ei).1
  simp only [dItem, seqAt_of e, L2.atI]
  have : ixN l.length (i : Int) = some i := by simp [ixN, hi]
  simp [this, ei]
theorem setl_ok {h : Hd} {n : Nat} {l : List D} {i : Nat} {d : D} (e : h[n]? = some (.lst l)) (hi : i < l.length) : setD (.ref n) (.int i) d h = some (h.set n (.lst (l.set i d))) := by
  have : ixN l.length (i : Int) = some i := by simp [ixN, hi]
  simp only [setD, e, this, Option.map_some]
theorem store_ok {f : Se} {o i : Se} {env : PN.Env} {h h' : Hd} {d x y : D} (e : f env h = .ok d h) (eo : o env h = .ok x h) (ei : i env h = .ok y h) (s : setD x y d h = some h') : dAsg f (gOnly (dGsub o i)) env h = .nx env h' := by
  simp only [dAsg, e, Rs.to_ok, gOnly, dGsub, eo, ei, s, Ro.sg_nx, dSkip]
theorem fmod_in (x : Int) {m : Nat} (h : 1 ≤ m) : 0 ≤ x.fmod (m : Int) ∧ x.fmod (m : Int) < (m : Int) := ⟨Int.fmod_nonneg_of_pos x (by omega), Int.fmod_lt_of_pos x (by omega)⟩
theorem mod_ok (x : Int) {m : Int} {h : Hd} (hm : m ≠ 0) : dMod (.int x) (.int m) h = some (.int (x.fmod m), h) := by
  show (if m ≠ 0 then some (D.int (x.fmod m), h) else none) = _
  rw [if_pos hm]
theorem fdiv_ok (x : Int) {m : Int} {h : Hd} (hm : m ≠ 0) (hs : m.natAbs < 1073741824) : dFdiv (.int x) (.int m) h = some (.int (x.fdiv m), h) := by
  show (if m ≠ 0 ∧ m.natAbs < 1073741824 then some (D.int (x.fdiv m), h) else none) = _
  rw [if_pos ⟨hm, hs⟩]
theorem mul_ok {i j : Int} {h : Hd} (c : (-(2 ^ 64) < i ∧ i < 2 ^ 64) ∨ (-(2 ^ 64) < j ∧ j < 2 ^ 64)) : dMul (.int i) (.int j) h = some (.int (i * j), h) := by
  show (if (-(2 ^ 64) < i ∧ i < 2 ^ 64) ∨ (-(2 ^ 64) < j ∧ j < 2 ^ 64) then some (D.int (i * j), h) else none) = _
  rw [if_pos c]
theorem draw_ok {t k m : Nat} {h : Hd} (h1 : 1 ≤ m) (h2 : m ≤ 1000) (tp : TapeOk t k h) : ∃ (v : Nat) (h' : Hd), m_law_draw [.ref t, .int m] h = .ok (.int v) h' ∧ v < m ∧ h'.length = h.length ∧ Tq t k h h' := by
  obtain ⟨ne, s, c, cs, e1, e2⟩ := tp
  have i1 : dBin dItem (dVar 0) (dC (.int 1)) [some (.ref t), some (.int m), none, none, none] h = .ok (.int c) h := bin_ok rfl rfl (item_at (i := 1) e1 rfl)
  have s1 : dAsg (dBin dAdd (dBin dItem (dVar 0) (dC (.int 1))) (dC (.int 1))) (gOnly (dGsub (dVar 0) (dC (.int 1)))) [some (.ref t), some (.int m), none, none, none] h = .nx [some (.ref t), some (.int m), none, none, none] (h.set t (.lst [.int s, .int (c + 1), .ref k])) :=
    store_ok (bin_ok i1 rfl rfl) rfl rfl (setl_ok (i := 1) e1 (by simp))
  have q1 : Tq t k h (h.set t (.lst [.int s, .int (c + 1), .ref k])) := ⟨⟨ne, s, c + 1, cs, set_at e1, set_other (fun e => ne e.symm) e2⟩, by simp, fun j ob n1 n2 e => set_other n1 e⟩
  have a1 : (h.set t (.lst [.int s, .int (c + 1), .ref k]))[t]? = some (.lst [.int s, .int (c + 1), .ref k]) := set_at e1
  have a2 : (h.set t (.lst [.int s, .int (c + 1), .ref k]))[k]? = some (.lst (cs.map D.int)) := set_other (fun e => ne e.symm) e2
  have ln : (h.set t (.lst [.int s, .int (c + 1), .ref k])).length = h.length := by simp
  generalize h.set t (.lst [.int s, .int (c + 1), .ref k]) = H at *
  have s2 : dAsg (dBin dItem (dVar 0) (dC (.int 2))) (dGn 2) [some (.ref t), some (.int m), none, none, none] H = .nx [some (.ref t), some (.int m), some (.ref k), none, none] H := asg_n (bin_ok rfl rfl (item_at (i := 2) a1 rfl))
  have m0 : (m : Int) ≠ 0 := by omega
  have lc : dFlag (dBin dGt (dCall cLen (dCons (dVar 2) dNil)) (dC (.int 0))) [some (.ref t), some (.int m), some (.ref k), none, none] H = .ok (decide (0 < ((cs.map D.int).length : Int))) H := flag_ok (bin_ok (len_l rfl a2) rfl rfl)
  cases cs with
  | nil =>
    have j0 : ∀ x4 : Option D, dBin dItem (dVar 0) (dC (.int 0)) [some (.ref t), some (.int m), some (.ref k), none, x4] H = .ok (.int s) H := fun _ => bin_ok rfl rfl (item_at (i := 0) a1 rfl)
    have j1 : ∀ x4 : Option D, dBin dItem (dVar 0) (dC (.int 1)) [some (.ref t), some (.int m), some (.ref k), none, x4] H = .ok (.int (c + 1)) H := fun _ => bin_ok rfl rfl (item_at (i := 1) a1 rfl)
    have s3 := if_f (f := (dSeq (dAsg (dBin dMod (dCall cInt (dCons (dBin dItem (dVar 2) (dC (.int 0))) dNil)) (dVar 1)) (dGn 3)) <|
     dSeq (dAsg (dBin dFdiv (dBin dItem (dVar 2) (dC (.int 0))) (dVar 1)) (gOnly (dGsub (dVar 2) (dC (.int 0))))) <|
     dSeq (dIfS (dFlag (dBin dEq (dBin dItem (dVar 2) (dC (.int 0))) (dC (.int 0))))
       (dSeq (dDrop (dMeth .list mPop (dVar 2) (dCons (dC (.int 0)) dNil))) <|
        dSkip)
       dSkip) <|
     dSeq (dRet (dVar 3)) <|
     dSkip)) (g := dSkip) (lc.trans (show _ = Rs.ok false H from rfl))
    have k1 : dBin dMul (dC (.int 7919)) (dBin dItem (dVar 0) (dC (.int 1))) [some (.ref t), some (.int m), some (.ref k), none, none] H = .ok (.int (7919 * (c + 1))) H := bin_ok rfl (j1 none) (mul_ok (.inl (by omega)))
    have k2 : dBin dAdd (dBin dItem (dVar 0) (dC (.int 0))) (dBin dMul (dC (.int 7919)) (dBin dItem (dVar 0) (dC (.int 1)))) [some (.ref t), some (.int m), some (.ref k), none, none] H = .ok (.int (s + 7919 * (c + 1))) H := bin_ok (j0 none) k1 rfl
    have k3 : dBin dMul (dBin dAdd (dBin dItem (dVar 0) (dC (.int 0))) (dBin dMul (dC (.int 7919)) (dBin dItem (dVar 0) (dC (.int 1))))) (dC (.int 48271)) [some (.ref t), some (.int m), some (.ref k), none, none] H = .ok (.int ((s + 7919 * (c + 1)) * 48271)) H := bin_ok k2 rfl (mul_ok (.inr (by omega)))
    have s4 := asg_n (i := 4) (bin_ok (g := dMod) (fb := dC (.int 2147483647)) (int_ok k3) rfl (mod_ok _ (by decide)))
    have w1 := fmod_in ((s + 7919 * (c + 1)) * 48271) (m := 2147483647) (by omega)
    change _ ∧ Int.fmod _ 2147483647 < 2147483647 at w1
    generalize (((s + 7919 * (c + 1)) * 48271).fmod 2147483647) = x1 at s4 w1
    have v4 : ∀ x : Int, dVar 4 [some (.ref t), some (.int m), some (.ref k), none, some (.int x)] H = .ok (.int x) H := fun _ => rfl
    have a5 : dBin dFdiv (dVar 4) (dC (.int 1009)) [some (.ref t), some (.int m), some (.ref k), none, some (.int x1)] H = .ok (.int (x1.fdiv 1009)) H := bin_ok (v4 x1) rfl (fdiv_ok x1 (by decide) (by decide))
    have b5 : dBin dAdd (dBin dFdiv (dVar 4) (dC (.int 1009))) (dC (.int 69621)) [some (.ref t), some (.int m), some (.ref k), none, some (.int x1)] H = .ok (.int (x1.fdiv 1009 + 69621)) H := bin_ok a5 rfl rfl
    have d5 : dBin dMul (dVar 4) (dBin dAdd (dBin dFdiv (dVar 4) (dC (.int 1009))) (dC (.int 69621))) [some (.ref t), some (.int m), some (.ref k), none, some (.int x1)] H = .ok (.int (x1 * (x1.fdiv 1009 + 69621))) H := bin_ok (v4 x1) b5 (mul_ok (.inl (by omega)))
    have s5 := asg_n (i := 4) (bin_ok (g := dMod) (fb := dC (.int 2147483647)) (int_ok d5) rfl (mod_ok _ (by decide)))
    have w2 := fmod_in (x1 * (x1.fdiv 1009 + 69621)) (m := 2147483647) (by omega)
    change _ ∧ Int.fmod _ 2147483647 < 2147483647 at w2
    generalize (x1 * (x1.fdiv 1009 + 69621)).fmod 2147483647 = x2 at s5 w2
    have a6 : dBin dFdiv (dVar 4) (dC (.int 2003)) [some (.ref t), some (.int m), some (.ref k), none, some (.int x2)] H = .ok (.int (x2.fdiv 2003)) H := bin_ok (v4 x2) rfl (fdiv_ok x2 (by decide) (by decide))
    have b6 : dBin dAdd (dBin dFdiv (dVar 4) (dC (.int 2003))) (dC (.int 40692)) [some (.ref t), some (.int m), some (.ref k), none, some (.int x2)] H = .ok (.int (x2.fdiv 2003 + 40692)) H := bin_ok a6 rfl rfl
    have d6 : dBin dMul (dVar 4) (dBin dAdd (dBin dFdiv (dVar 4) (dC (.int 2003))) (dC (.int 40692))) [some (.ref t), some (.int m), some (.ref k), none, some (.int x2)] H = .ok (.int (x2 * (x2.fdiv 2003 + 40692))) H := bin_ok (v4 x2) b6 (mul_ok (.inl (by omega)))
    have s6 := asg_n (i := 4) (bin_ok (g := dMod) (fb := dC (.int 2147483399)) (int_ok d6) rfl (mod_ok _ (by decide)))
    generalize (x2 * (x2.fdiv 2003 + 40692)).fmod 2147483399 = x3 at s6
    have a7 : dBin dFdiv (dVar 4) (dC (.int 16)) [some (.ref t), some (.int m), some (.ref k), none, some (.int x3)] H = .ok (.int (x3.fdiv 16)) H := bin_ok (v4 x3) rfl (fdiv_ok x3 (by decide) (by decide))
    have s7 := ret_ok (bin_ok (g := dMod) (fb := dVar 1) (int_ok a7) rfl (mod_ok _ m0))
    obtain ⟨b1, b2⟩ := fmod_in (x3.fdiv 16) h1
    refine ⟨((x3.fdiv 16).fmod m).toNat, H, ?_, by omega, ln, q1⟩
    rw [Int.toNat_of_nonneg b1]
    exact mOf_rt ((seq_nx s1).trans ((seq_nx s2).trans ((seq_nx s3).trans ((seq_nx s4).trans ((seq_nx s5).trans ((seq_nx s6).trans (seq_rt s7)))))))
  | cons x cs =>
    have j0 : ∀ x3 : Option D, dBin dItem (dVar 2) (dC (.int 0)) [some (.ref t), some (.int m), some (.ref k), x3, none] H = .ok (.int x) H := fun _ => bin_ok rfl rfl (item_at (i := 0) a2 rfl)
    have s3 := asg_n (i := 3) (bin_ok (int_ok (j0 none)) (fb := dVar 1) rfl (mod_ok x m0))
    have s4 : dAsg (dBin dFdiv (dBin dItem (dVar 2) (dC (.int 0))) (dVar 1)) (gOnly (dGsub (dVar 2) (dC (.int 0)))) [some (.ref t), some (.int m), some (.ref k), some (.int (x.fmod m)), none] H =
        .nx [some (.ref t), some (.int m), some (.ref k), some (.int (x.fmod m)), none] (H.set k (.lst (((x.fdiv m) :: cs).map D.int))) :=
      store_ok (bin_ok (j0 _) rfl (fdiv_ok x m0 (by omega))) rfl rfl (setl_ok (i := 0) a2 (by simp))
    have b1 : (H.set k (.lst (((x.fdiv m) :: cs).map D.int)))[t]? = some (.lst [.int s, .int (c + 1), .ref k]) := set_other ne a1
    have b2 : (H.set k (.lst (((x.fdiv m) :: cs).map D.int)))[k]? = some (.lst (((x.fdiv m) :: cs).map D.int)) := set_at a2
    have q2 : Tq t k h (H.set k (.lst (((x.fdiv m) :: cs).map D.int))) := q1.trans ⟨⟨ne, s, c + 1, _, b1, b2⟩, by simp, fun j ob n1 n2 e => set_other n2 e⟩
    have ln2 : (H.set k (.lst (((x.fdiv m) :: cs).map D.int))).length = h.length := by simp [ln]
    generalize H.set k (.lst (((x.fdiv m) :: cs).map D.int)) = H2 at *
    have c5 : dFlag (dBin dEq (dBin dItem (dVar 2) (dC (.int 0))) (dC (.int 0))) [some (.ref t), some (.int m), some (.ref k), some (.int (x.fmod m)), none] H2 = .ok (decide (D.int (x.fdiv m) = D.int 0)) H2 :=
      flag_ok (bin_ok (bin_ok rfl rfl (item_at (i := 0) b2 rfl)) rfl (dEq_it rfl rfl (by simp [D.depth]) (by simp [D.depth])))
    obtain ⟨r1, r2⟩ := fmod_in x h1
    have s5 : ∃ H3, dIfS (dFlag (dBin dEq (dBin dItem (dVar 2) (dC (.int 0))) (dC (.int 0)))) (dSeq (dDrop (dMeth .list mPop (dVar 2) (dCons (dC (.int 0)) dNil))) dSkip) dSkip [some (.ref t), some (.int m), some (.ref k), some (.int (x.fmod m)), none] H2 =
        .nx [some (.ref t), some (.int m), some (.ref k), some (.int (x.fmod m)), none] H3 ∧ H3.length = h.length ∧ Tq t k h H3 := by
      by_cases z : D.int (x.fdiv m) = D.int 0
      · refine ⟨H2.set k (.lst (cs.map D.int)), (if_t (c5.trans (by rw [decide_eq_true z]))).trans ((seq_nx (drop_ok (meth_ok (d := .int (x.fdiv m)) rfl (ty_lst b2) (dCons_ok rfl dNil_ok) ?_))).trans rfl), by simp [ln2], q2.trans ⟨⟨ne, s, c + 1, cs, set_other ne b1, set_at b2⟩, by simp, fun j ob n1 n2 e => set_other n2 e⟩⟩
        show ((lstAt H2 k).bind fun l => (ixN l.length 0).bind fun j => (l[j]?).map fun d => (d, H2.set k (.lst (l.eraseIdx j)))) = _
        rw [lstAt_of b2]
        simp [ixN]
      · exact ⟨H2, if_f (c5.trans (by rw [decide_eq_false z])), ln2, q2⟩
    obtain ⟨H3, s5, ln3, q3⟩ := s5
    refine ⟨(x.fmod m).toNat, H3, ?_, by omega, ln3, q3⟩
    rw [Int.toNat_of_nonneg r1]
    have lc' := lc.trans (show _ = Rs.ok true H by simp)
    exact mOf_rt ((seq_nx s1).trans ((seq_nx s2).trans (seq_rt ((if_t lc').trans ((seq_nx s3).trans ((seq_nx s4).trans ((seq_nx s5).trans (seq_rt (ret_ok rfl)))))))))
end K47
namespace K47
open PySem L2 PyProof.Rows PN
theorem gc_tq {t k : Nat} {h h' : Hd} {d : D} (q : Tq t k h h') (tp : TapeOk t k h) (u : d.und h.length = true) : ∃ h'', gc h (.ok d h') = .ok d h'' ∧ Tq t k h h'' := by
  by_cases c : h'.take h.length = h
  · exact ⟨h, by simp only [gc, c, u, if_true], Tq.refl tp⟩
  · exact ⟨h', by simp only [gc, c, if_false], q⟩
theorem draw_fn {t k m : Nat} {A : Sa} {env : PN.Env} {h : Hd} (hA : A env h = .ok [.ref t, .int m] h) (h1 : 1 ≤ m) (h2 : m ≤ 1000) (tp : TapeOk t k h) : ∃ (v : Nat) (h' : Hd), dFn 2 m_law_draw A env h = .ok (.int v) h' ∧ v < m ∧ Tq t k h h' := by
  obtain ⟨v, h', e, hv, _, q⟩ := draw_ok h1 h2 tp
  obtain ⟨h'', g, q'⟩ := gc_tq q tp (d := .int v) rfl
  exact ⟨v, h'', by simp only [dFn, hA, Rs.bind_ok, List.length_cons, List.length_nil, if_true, e, g], hv, q'⟩
theorem any_ok {t k r : Nat} {l : List D} {h : Hd} (tp : TapeOk t k h) (nt : r ≠ t) (nk : r ≠ k) (e : h[r]? = some (.lst l)) (h1 : 1 ≤ l.length) (h2 : l.length ≤ 1000) : ∃ d ∈ l, ∃ h', m_law_any [.ref t, .ref r] h = .ok d h' ∧ Tq t k h h' := by
  obtain ⟨v, h', ev, hv, q⟩ := draw_fn (A := dCons (dVar 0) (dCons (dCall cLen (dCons (dVar 1) dNil)) dNil)) (env := [some (.ref t), some (.ref r)]) (h := h) (t := t) (k := k) (m := l.length) (dCons_ok rfl (dCons_ok (len_l rfl e) dNil_ok)) h1 h2 tp
  refine ⟨l[v], List.getElem_mem hv, h', ?_, q⟩
  exact mOf_rt (seq_rt (ret_ok (bin_ok rfl ev (item_at (q.oth r _ nt nk e) (List.getElem?_eq_getElem hv)))))
theorem any_fn {t k r : Nat} {l : List D} {A : Sa} {env : PN.Env} {h h1 : Hd} (hA : A env h = .ok [.ref t, .ref r] h1) (q : Tq t k h h1) (tp : TapeOk t k h) (nt : r ≠ t) (nk : r ≠ k) (e : h1[r]? = some (.lst l)) (l1 : 1 ≤ l.length) (l2 : l.length ≤ 1000) (it : ∀ d ∈ l, d.it = true) :
    ∃ d ∈ l, ∃ h', dFn 2 m_law_any A env h = .ok d h' ∧ Tq t k h h' := by
  obtain ⟨d, hd, h', em, q'⟩ := any_ok q.tape nt nk e l1 l2
  obtain ⟨h'', g, q''⟩ := gc_tq (q.trans q') tp (d := d) (it_und d (it d hd))
  exact ⟨d, hd, h'', by simp only [dFn, hA, Rs.bind_ok, List.length_cons, List.length_nil, if_true, em, g], q''⟩
/-! ## _law_tape -/
theorem intsOf_map : ∀ l : List Int, intsOf (l.map D.int) = some l
  | [] => rfl
  | x :: l => by simp [intsOf, intsOf_map l]
theorem slice_to {f : Se} {env : PN.Env} {h : Hd} {n : Nat} {l : List D} (e : f env h = .ok (.ref n) h) (el : seqAt h n = some l) (c : Nat) : dSlice f none (some (dC (.int (c : Nat)))) env h = .ok (.ref h.length) (h ++ [.lst (l.take c)]) := by
  simp only [dSlice, e, Rs.bind_ok, dPart, dC]
  simp only [Rs.bind_ok, sliceD, el, Option.map_some, ofO]
  rw [cut_to]
theorem abs_ok {f : Se} {env : PN.Env} {h : Hd} {i : Int} (e : f env h = .ok (.int i) h) : dCall cAbs (dCons f dNil) env h = .ok (.int (if i < 0 then -i else i)) h :=
  dCall_val (dCons_ok e dNil_ok) (h2 := h) rfl (List.prefix_refl h) rfl
theorem tape_ok (ns : List Int) : ∃ t k h', m_law_tape [.ref 0] [.frz (ns.map D.int)] = .ok (.ref t) h' ∧ TapeOk t k h' := by
  have big := big_ge
  have e0 : seqAt [Ob.frz (ns.map D.int)] 0 = some (ns.map D.int) := rfl
  have b1 : dCall cSumA (dCons (dSlice (dVar 0) none (some (dC (.int 1)))) dNil) [some (.ref 0), none, none] [Ob.frz (ns.map D.int)] = .ok (.int ((ns.take 1).sum)) [Ob.frz (ns.map D.int)] := by
    refine dCall_val (dCons_ok (slice_to rfl e0 1) dNil_ok) (h2 := [Ob.frz (ns.map D.int)] ++ [.lst ((ns.map D.int).take 1)]) ?_ (List.prefix_append _ _) rfl
    show ((intsOf ((ns.map D.int).take 1)).bind fun bs => some (D.int bs.sum, [Ob.frz (ns.map D.int)] ++ [.lst ((ns.map D.int).take 1)])) = _
    rw [← List.map_take, intsOf_map]
    rfl
  have b2 : dCall cLen (dCons (dVar 0) dNil) [some (.ref 0), none, none] [Ob.frz (ns.map D.int)] = .ok (.int ((ns.map D.int).length : Int)) [Ob.frz (ns.map D.int)] := dCall_val (dCons_ok rfl dNil_ok) (h2 := [Ob.frz (ns.map D.int)]) rfl (List.prefix_refl _) rfl
  have s1 := asg_n (i := 1) (bin_ok (g := dAdd) (fb := dC (.int 1)) (bin_ok (g := dAdd) (bin_ok (g := dMod) (fb := dC (.int 1000003)) (int_ok b1) rfl (mod_ok _ (by decide))) b2 rfl) rfl rfl)
  generalize ((ns.take 1).sum).fmod 1000003 + ((ns.map D.int).length : Int) + 1 = seed at s1
  have sl : dSlice (dVar 0) none (some (dC (.int 63))) [some (.ref 0), some (.int seed), none] [Ob.frz (ns.map D.int)] = .ok (.ref 1) ([Ob.frz (ns.map D.int)] ++ [.lst ((ns.map D.int).take 63)]) := slice_to rfl e0 63
  have l63 : ((ns.map D.int).take 63).length ≤ 63 := by rw [List.length_take]; exact Nat.min_le_left _ _
  have mem63 : ∀ d ∈ (ns.map D.int).take 63, ∃ i, d = D.int i := fun d hd => by
    obtain ⟨i, _, e⟩ := List.mem_map.mp (List.mem_of_mem_take hd)
    exact ⟨i, e.symm⟩
  obtain ⟨e', h', s2, rfl, s, x2, rfl⟩ := for_inv (s := dSeqI (dSlice (dVar 0) none (some (dC (.int 63))))) (g := dGn 2) (b := dSeq (dAsg (dBin dMod (dCall cInt (dCons (dBin dAdd (dBin dAdd (dBin dMul (dVar 1) (dC (.int 48271))) (dBin dMod (dCall cInt (dCons (dVar 2) dNil)) (dC (.int 2147483629)))) (dC (.int 11))) dNil)) (dC (.int 2147483647))) (dGn 1)) dSkip)
    (env := [some (.ref 0), some (.int seed), none]) (h := [Ob.frz (ns.map D.int)]) (l := (ns.map D.int).take 63) (P := fun j e h' => h' = [Ob.frz (ns.map D.int)] ++ [.lst ((ns.map D.int).take 63)] ∧ ∃ (s : Int) (x2 : Option D), e = [some (.ref 0), some (.int s), x2])
    (seqI_ref sl rfl) ⟨rfl, seed, none, rfl⟩ (fun j e h' ⟨eh, _⟩ => by subst eh; exact nxLst_at rfl j) (by omega) (by
      rintro j d e h' ed ⟨rfl, s, x2, rfl⟩
      obtain ⟨i, rfl⟩ := mem63 d (List.mem_of_getElem? ed)
      generalize [Ob.frz (ns.map D.int)] ++ [.lst ((ns.map D.int).take 63)] = H
      have c1 : dBin dMul (dVar 1) (dC (.int 48271)) [some (.ref 0), some (.int s), some (.int i)] H = .ok (.int (s * 48271)) H := bin_ok rfl rfl (mul_ok (.inr (by omega)))
      have c2 : dBin dMod (dCall cInt (dCons (dVar 2) dNil)) (dC (.int 2147483629)) [some (.ref 0), some (.int s), some (.int i)] H = .ok (.int (i.fmod 2147483629)) H := bin_ok (int_ok rfl) rfl (mod_ok _ (by decide))
      have c3 := asg_n (i := 1) (bin_ok (g := dMod) (fb := dC (.int 2147483647)) (int_ok (bin_ok (g := dAdd) (fb := dC (.int 11)) (bin_ok (g := dAdd) c1 c2 rfl) rfl rfl)) rfl (mod_ok _ (by decide)))
      exact ⟨_, _, rfl, _, _, (seq_nx c3).trans rfl, rfl, _, some (.int i), rfl⟩)
  have e1 : seqAt ([Ob.frz (ns.map D.int)] ++ [.lst ((ns.map D.int).take 63)]) 0 = some (ns.map D.int) := rfl
  generalize [Ob.frz (ns.map D.int)] ++ [.lst ((ns.map D.int).take 63)] = H at *
  have c := lc_map (s := dSeqI (dSlice (dVar 0) none (some (dC (.int 63))))) (g := dGn 2) (t := dFlag (dBin dGe (dCall cAbs (dCons (dVar 2) dNil)) (dBin dPow (dC (.int 10)) (dC (.int 18))))) (f := dCall cAbs (dCons (dVar 2) dNil)) (vs := [2]) (env := [some (.ref 0), some (.int s), x2]) (h := H)
    (F := fun d => match d with
      | .int i => .int (if i < 0 then -i else i)
      | _ => .non) (T := fun d => match d with
      | .int i => decide ((10 : Int) ^ 18 ≤ if i < 0 then -i else i)
      | _ => false) (fun d => [some (.ref 0), some (.int s), some d]) (seqI_ref (slice_to rfl e1 63) (seqAt_of new_at)) (nxLst_at (seqAt_of new_at)) (by omega) (fun d _ => rfl) (fun d hd => by
        obtain ⟨i, rfl⟩ := mem63 d hd
        refine flag_ok (bin_ok (abs_ok rfl) (bin_ok (g := dPow) (d := .int ((10 : Int) ^ 18)) rfl rfl ?_) rfl)
        show (if (0 : Int) ≤ 18 ∧ (18 : Int) ≤ 1000000 ∧ (10 : Int).natAbs < 2 ^ 64 then some (D.int ((10 : Int) ^ (18 : Int).toNat), _) else none) = _
        rw [if_pos (by decide)]
        rfl) (fun d hd _ => by
        obtain ⟨i, rfl⟩ := mem63 d hd
        exact abs_ok rfl)
  obtain ⟨cs, ec⟩ : ∃ cs : List Int, (((ns.map D.int).take 63).filter fun d => match d with
      | .int i => decide ((10 : Int) ^ 18 ≤ if i < 0 then -i else i)
      | _ => false).map (fun d => match d with
      | .int i => .int (if i < 0 then -i else i)
      | _ => .non) = cs.map D.int := by
    refine ⟨(((ns.map D.int).take 63).filter fun d => match d with
      | .int i => decide ((10 : Int) ^ 18 ≤ if i < 0 then -i else i)
      | _ => false).map (fun d => match d with
      | .int i => if i < 0 then -i else i
      | _ => 0), ?_⟩
    rw [List.map_map]
    refine List.map_congr_left fun d hd => ?_
    obtain ⟨i, rfl⟩ := mem63 d (List.mem_filter.mp hd).1
    rfl
  rw [ec] at c
  generalize H ++ [Ob.lst ((ns.map D.int).take 63)] = H2 at *
  have fin := ret_ok (lst_ok (dCons_ok (f := dVar 1) rfl (dCons_ok (f := dC (.int 0)) rfl (dCons_ok c dNil_ok))) (by simp; omega))
  refine ⟨(H2 ++ [Ob.lst (cs.map D.int)]).length, H2.length, _, mOf_rt ((seq_nx s1).trans ((seq_nx s2).trans (seq_rt fin))), by simp, s, 0, cs, new_at, app_at new_at⟩
end K47
namespace K47
open PySem L2 PyProof.Rows PN
/-! ## to meet goes both ways -/
def Conn (n : Nat) (p q : List (List Nat)) : Prop := ∀ Q : Nat → Prop, (∀ b ∈ p ++ q, ∀ x ∈ b, ∀ y ∈ b, Q x → Q y) → ∀ x y, x < n → y < n → Q x → Q y
theorem Conn.symm {n : Nat} {p q : List (List Nat)} (c : Conn n p q) : Conn n q p := fun Q h => c Q fun b hb => h b (by
  rw [List.mem_append] at hb ⊢
  exact hb.symm)
theorem meets_iff {n : Nat} {p q : List (List Nat)} (a : Pa n p) (b : Pa n q) : meets n p q = true ↔ (n + 1 = p.length + q.length ∧ Conn n p q) := by
  unfold meets
  rw [Bool.and_eq_true, decide_eq_true_eq]
  refine and_congr_right fun hs => ?_
  have lt_p : ∀ {i x : Nat} (hi : i < p.length), x ∈ p[i] → x < n := fun hi hx => a.mem.mp ⟨_, List.getElem_mem hi, hx⟩
  have lt_q : ∀ {i x : Nat} (hi : i < q.length), x ∈ q[i] → x < n := fun hi hx => b.mem.mp ⟨_, List.getElem_mem hi, hx⟩
  have h0 : 0 < n := a.h1
  have tr := fun (x : Nat) (hx : x < n) => tree_iff (kns_kn a.len b.len).nd (ties_in a b) (by simp [ties, kns]; omega) (r := kt 0 (idx p x)) (kns_mem.mpr (.inl ⟨_, a.idx_lt hx, rfl⟩))
  constructor
  · intro hm Q hQ x y hx hy qx
    have all := (tr x hx).mp hm (fun d => ∀ z, z < n → (d = kt 0 (idx p z) ∨ d = kt 1 (idx q z)) → Q z) (by
      intro e he
      obtain ⟨u, hu, rfl⟩ := List.mem_map.mp he
      have hu' := List.mem_range.mp hu
      constructor
      · intro h z hz hzd
        have qu := h u hu' (.inl rfl)
        rcases hzd with e | e
        · have := (kt_inj e).1; omega
        · have e' := (kt_inj e).2
          have m1 := b.idx_mem hz
          simp only [← e'] at m1
          exact hQ _ (List.mem_append_right _ (List.getElem_mem (b.idx_lt hu'))) u (b.idx_mem hu') z m1 qu
      · intro h z hz hzd
        have qu := h u hu' (.inr rfl)
        rcases hzd with e | e
        · have e' := (kt_inj e).2
          have m1 := a.idx_mem hz
          simp only [← e'] at m1
          exact hQ _ (List.mem_append_left _ (List.getElem_mem (a.idx_lt hu'))) u (a.idx_mem hu') z m1 qu
        · have := (kt_inj e).1; omega) (by
      intro z hz hd
      rcases hd with e | e
      · have e' := (kt_inj e).2
        have m1 := a.idx_mem hz
        simp only [← e'] at m1
        exact hQ _ (List.mem_append_left _ (List.getElem_mem (a.idx_lt hx))) x (a.idx_mem hx) z m1 qx
      · have := (kt_inj e).1; omega)
    exact all (kt 0 (idx p y)) (kns_mem.mpr (.inl ⟨_, a.idx_lt hy, rfl⟩)) y hy (.inl rfl)
  · intro c
    rw [tr 0 h0]
    intro P hP hr
    have tP : ∀ x, x < n → (P (kt 0 (idx p x)) ↔ P (kt 1 (idx q x))) := fun x hx => hP (kt 0 (idx p x), kt 1 (idx q x)) (List.mem_map.mpr ⟨x, List.mem_range.mpr hx, rfl⟩)
    have all : ∀ y, y < n → P (kt 0 (idx p y)) := fun y hy => c (fun z => P (kt 0 (idx p z))) (by
      intro l hl x hx y hy qx
      rcases List.mem_append.mp hl with hm | hm
      · obtain ⟨i, hi, rfl⟩ := List.mem_iff_getElem.mp hm
        rw [a.idx hi hx] at qx
        rw [a.idx hi hy]; exact qx
      · obtain ⟨i, hi, rfl⟩ := List.mem_iff_getElem.mp hm
        have k1 := (tP x (lt_q hi hx)).mp qx
        rw [b.idx hi hx] at k1
        apply (tP y (lt_q hi hy)).mpr
        rw [b.idx hi hy]; exact k1) 0 y h0 hy hr
    intro v hv
    rcases kns_mem.mp hv with ⟨i, hi, rfl⟩ | ⟨i, hi, rfl⟩
    · obtain ⟨x, hx⟩ := List.exists_mem_of_ne_nil _ (a.ne _ (List.getElem_mem hi))
      have := all x (lt_p hi hx)
      rwa [a.idx hi hx] at this
    · obtain ⟨x, hx⟩ := List.exists_mem_of_ne_nil _ (b.ne _ (List.getElem_mem hi))
      have := (tP x (lt_q hi hx)).mp (all x (lt_q hi hx))
      rwa [b.idx hi hx] at this
theorem meets_symm {n : Nat} {p q : List (List Nat)} (a : Pa n p) (b : Pa n q) : meets n p q = meets n q p := by
  rw [Bool.eq_iff_iff, meets_iff a b, meets_iff b a]
  exact ⟨fun ⟨h, c⟩ => ⟨by omega, c.symm⟩, fun ⟨h, c⟩ => ⟨by omega, c.symm⟩⟩
end K47
namespace K47
open PySem L2 PyProof.Rows PN
/-! ## blocks and partitions put in order -/
def srt (b : List Nat) : List Nat := b.mergeSort fun i j => decide (i ≤ j)
def leB (a b : List Nat) : Bool := leD (bk a) (bk b)
def srtP (p : List (List Nat)) : List (List Nat) := p.mergeSort leB
theorem srt_nd (b : List Nat) : (b.map nd).mergeSort leD = (srt b).map nd := (List.map_mergeSort fun i _ j _ => (leD_nd i j).symm).symm
theorem srtP_bk (p : List (List Nat)) : (p.map bk).mergeSort leD = (srtP p).map bk := (List.map_mergeSort (r := leB) (f := bk) (s := leD) fun i _ j _ => rfl).symm
theorem srt_perm (b : List Nat) : (srt b).Perm b := List.mergeSort_perm _ _
theorem srtP_perm (p : List (List Nat)) : (srtP p).Perm p := List.mergeSort_perm _ _
theorem zip_pair {α : Type} {f : α → α → Bool} : ∀ {l : List α}, l.Pairwise (fun a b => f a b = true) → (List.zipWith f l (l.drop 1)).all id = true
  | [], _ => rfl
  | [a], _ => rfl
  | a :: b :: l, h => by
    have h1 := List.pairwise_cons.mp h
    have ih := zip_pair h1.2
    simp only [List.drop_succ_cons, List.drop_zero, List.zipWith_cons_cons, List.all_cons, id, Bool.and_eq_true] at ih ⊢
    exact ⟨h1.1 b List.mem_cons_self, ih⟩
theorem ok_srt {n : Nat} {b : List Nat} (h0 : b ≠ []) (h1 : b.Nodup) (h2 : ∀ x ∈ b, x < n) : okBlk n (srt b) = true := by
  have p := srt_perm b
  have l := len_below n b h1 h2
  have w : (srt b).Pairwise fun i j => decide (i < j) = true := by
    have w1 : (srt b).Pairwise fun i j => decide (i ≤ j) = true := List.pairwise_mergeSort (fun a b c => by simp; omega) (fun a b => by simp; omega) b
    have w2 : (srt b).Nodup := p.nodup_iff.mpr h1
    exact (w1.and w2).imp fun {i j} ⟨a, c⟩ => by
      simp only [decide_eq_true_eq] at a ⊢
      have : i ≠ j := c
      omega
  simp only [okBlk, Bool.and_eq_true, Bool.not_eq_true', decide_eq_true_eq, List.all_eq_true]
  refine ⟨⟨⟨?_, by rw [p.length_eq]; exact l⟩, fun x hx => h2 x (p.mem_iff.mp hx)⟩, List.all_eq_true.mp (zip_pair w)⟩
  cases e : srt b with
  | nil => rw [e] at p; exact absurd p.symm.eq_nil h0
  | cons => rfl
theorem blk_ne {n : Nat} {b : List Nat} (h : okBlk n b = true) : b ≠ [] := by
  intro e; subst e; simp [okBlk] at h
theorem head_mem {b : List Nat} (h : b ≠ []) : b.headD 0 ∈ b := by
  cases b with
  | nil => exact absurd rfl h
  | cons a b => exact List.mem_cons_self
theorem le_head {a b : List Nat} (ha : a ≠ []) (hb : b ≠ []) (h : leB a b = true) (hd : a.headD 0 ≠ b.headD 0) : a.headD 0 < b.headD 0 := by
  by_cases c : b.headD 0 < a.headD 0
  · have := bk_lt_head hb ha c
    unfold leB leD at h
    rw [PySem.W.dataLe_eq] at h
    simp only [cond_false, this] at h
    cases h
  · omega
theorem flat_perm {p q : List (List Nat)} (h : p.Perm q) : p.flatten.Perm q.flatten := by
  rw [← List.flatMap_id, ← List.flatMap_id]
  exact h.flatMap_right _
theorem ok_srtP {n : Nat} {p : List (List Nat)} (h1 : ∀ b ∈ p, okBlk n b = true) (h2 : p.flatten.Perm (List.range n)) : okPart n (srtP p) = true := by
  have pm := srtP_perm p
  have fl : (srtP p).flatten.Perm (List.range n) := (flat_perm pm).trans h2
  have nd' : (srtP p).flatten.Nodup := fl.nodup_iff.mpr List.nodup_range
  have ne : ∀ b ∈ srtP p, b ≠ [] := fun b hb => blk_ne (h1 b (pm.mem_iff.mp hb))
  have w1 : (srtP p).Pairwise fun a b => leB a b = true := List.pairwise_mergeSort (le := leB) (fun a b c => le_trans' (bk a) (bk b) (bk c)) (fun a b => le_total' (bk a) (bk b)) p
  have w2 : (srtP p).Pairwise fun a b => ∀ x ∈ a, ∀ y ∈ b, x ≠ y := (List.pairwise_flatten.mp nd').2
  have w : (srtP p).Pairwise fun a b => decide (a.headD 0 < b.headD 0) = true := by
    refine List.Pairwise.imp_of_mem ?_ (w1.and w2)
    intro a b ha hb ⟨c, d⟩
    rw [decide_eq_true_eq]
    exact le_head (ne a ha) (ne b hb) c (d _ (head_mem (ne a ha)) _ (head_mem (ne b hb)))
  have len : ∀ q : List (List Nat), (∀ b ∈ q, b ≠ []) → q.length ≤ q.flatten.length := fun q => by
    induction q with
    | nil => intro _; simp
    | cons b q ih =>
      intro h
      have := ih fun c hc => h c (List.mem_cons_of_mem _ hc)
      have : 0 < b.length := List.length_pos_iff.mpr (h b List.mem_cons_self)
      simp only [List.flatten_cons, List.length_cons, List.length_append]
      omega
  have ln := len _ ne
  rw [fl.length_eq, List.length_range] at ln
  simp only [okPart, Bool.and_eq_true, decide_eq_true_eq, List.all_eq_true]
  exact ⟨⟨⟨ln, fun b hb => h1 b (pm.mem_iff.mp hb)⟩, List.all_eq_true.mp (zip_pair w)⟩, List.isPerm_iff.mpr fl⟩
/-- what a partition is, in parts -/
theorem ok_parts {n : Nat} {p : List (List Nat)} (h : okPart n p = true) : (∀ b ∈ p, okBlk n b = true) ∧ p.flatten.Perm (List.range n) ∧ p.length ≤ n := by
  simp only [okPart, Bool.and_eq_true, decide_eq_true_eq, List.all_eq_true] at h
  exact ⟨h.1.1.2, List.isPerm_iff.mp h.2, h.1.1.1⟩
theorem blk_parts {n : Nat} {b : List Nat} (h : okBlk n b = true) : b ≠ [] ∧ b.length ≤ n ∧ (∀ x ∈ b, x < n) := by
  have := blk_ne h
  simp only [okBlk, Bool.and_eq_true, decide_eq_true_eq, List.all_eq_true] at h
  exact ⟨this, h.1.1.2, h.1.2⟩
theorem sortable_nds (b : List Nat) : sortableB (b.map nd) = true := by
  simp only [sortableB, Bool.and_eq_true, decide_eq_true_eq, Bool.or_eq_true]
  refine ⟨⟨⟨it_undL _ (bk_itL b), ?_⟩, .inr ?_⟩, ?_⟩
  · simp only [alikeB, List.all_eq_true, List.mem_map]
    rintro _ ⟨i, _, rfl⟩ _ ⟨j, _, rfl⟩
    simp [nd, D.py, PySem.W.alike]
  · simp only [List.all_eq_true, List.mem_map]
    rintro _ ⟨i, hi, rfl⟩
    rfl
  · exact Nat.le_trans (depthL_le (b := 0) fun d hd => by obtain ⟨i, _, rfl⟩ := List.mem_map.mp hd; exact Nat.le_of_eq (nd_depth i)) (by omega)
theorem sortable_bks (l : List (List Nat)) (hne : ∀ p ∈ l, p ≠ []) : sortableB (l.map bk) = true := by
  simp only [sortableB, Bool.and_eq_true, decide_eq_true_eq, Bool.or_eq_true]
  refine ⟨⟨⟨it_undL _ (pt_itL l), ?_⟩, .inl ?_⟩, ?_⟩
  · simp only [alikeB, List.all_eq_true, List.mem_map]
    rintro _ ⟨i, _, rfl⟩ _ ⟨j, _, rfl⟩
    simp only [bk, D.py, PySem.W.alike]
    exact alike_bk i j
  · simp only [List.all_eq_true, List.mem_map]
    rintro _ ⟨i, hi, rfl⟩
    have := hne i hi
    cases i with
    | nil => exact absurd rfl this
    | cons => rfl
  · exact Nat.le_trans (depthL_le (b := 1) fun d hd => by obtain ⟨i, _, rfl⟩ := List.mem_map.mp hd; exact bk_depth i) (by omega)
end K47
namespace K47
open PySem L2 PyProof.Rows PN
/-! ## the law: general parts -/
theorem sp_eq {n : Nat} {L : List D} (p : L.Perm ((parts n).map pt)) (w : L.Pairwise fun a b => leD a b = true) (u : ∀ a ∈ L, ∀ b ∈ L, leD a b = true → leD b a = true → a = b) : sp n = L := by
  have q : (sp n).Perm L := (sp_perm n).trans p.symm
  exact List.Perm.eq_of_pairwise (le := fun a b => leD a b = true) (fun a b ha hb h1 h2 => u a (q.mem_iff.mp ha) b hb h1 h2) (List.pairwise_mergeSort le_trans' le_total' _) w q
theorem sp1 : sp 1 = [pt [[0]]] := sp_eq (by decide +kernel) (by decide +kernel) (by decide +kernel)
theorem sp2 : sp 2 = [pt [[0], [1]], pt [[0, 1]]] := sp_eq (by decide +kernel) (by decide +kernel) (by decide +kernel)
theorem sp3 : sp 3 = [pt [[0], [1], [2]], pt [[0], [1, 2]], pt [[0, 1], [2]], pt [[0, 1, 2]], pt [[0, 2], [1]]] := sp_eq (by decide +kernel) (by decide +kernel) (by decide +kernel)
theorem lcI_inv {nx : Nx} {g : Sg} {f : Se} {env : PN.Env} {l : List D} {P : Nat → List D → Hd → Prop} (hx : ∀ j acc h, P j acc h → nx j h = some l[j]?)
    (step : ∀ j d acc h, l[j]? = some d → P j acc h → acc.length = j → ∃ e1 y h1, g d env h = .nx e1 h ∧ f e1 h = .ok y h1 ∧ P (j + 1) (acc ++ [y]) h1) :
    ∀ n j acc h, j ≤ l.length → l.length - j < n → l.length < BIG → acc.length = j → P j acc h → ∃ acc' h', dLcI nx g dYes f env n j acc h = .ok acc' h' ∧ P l.length acc' h' ∧ acc'.length = l.length
  | 0, j, acc, h, _, hn, _, _, _ => absurd hn (by omega)
  | n + 1, j, acc, h, hj', hn, hz, ha, p => by
    unfold dLcI
    rw [hx j acc h p]
    by_cases hj : j < l.length
    · have ej := List.getElem?_eq_getElem hj
      rw [ej]
      obtain ⟨e1, y, h1, a, b, q⟩ := step j _ acc h ej p ha
      have yy : (dYes e1 h).ne = .ok true h := rfl
      simp only [a, yy, Rs.bind_ok, if_true, b, Rs.ne_ok]
      rw [if_pos (by omega)]
      exact lcI_inv hx step n (j + 1) _ h1 (by omega) (by omega) hz (by simp [ha]) q
    · rw [List.getElem?_eq_none (by omega)]
      have : j = l.length := by omega
      subst this
      exact ⟨acc, h, rfl, p, ha⟩
theorem lc_inv {s : Si} {g : Sg} {f : Se} {vs : List Nat} {env : PN.Env} {h h1 : Hd} {nx : Nx} {l : List D} {P : Nat → List D → Hd → Prop} (hs : s env h = .ok nx h1) (h0 : P 0 [] h1) (hx : ∀ j acc h, P j acc h → nx j h = some l[j]?) (hz : l.length < BIG)
    (step : ∀ j d acc h, l[j]? = some d → P j acc h → acc.length = j → ∃ e1 y h1, g d (wipeE env vs) h = .nx e1 h ∧ f e1 h = .ok y h1 ∧ P (j + 1) (acc ++ [y]) h1) :
    ∃ acc h', dLc s g dYes f vs env h = .ok (.ref h'.length) (h' ++ [.lst acc]) ∧ P l.length acc h' ∧ acc.length = l.length := by
  simp only [dLc, hs, Rs.bind_ok]
  obtain ⟨acc, h', e, p, q⟩ := lcI_inv hx step BIG 0 [] h1 (Nat.zero_le _) (by omega) hz rfl h0
  exact ⟨acc, h', by rw [e]; rfl, p, q⟩
def Ky (t k : Nat) (h : Hd) (j : Nat) (ob : Ob) : Prop := j ≠ t ∧ j ≠ k ∧ h[j]? = some ob
theorem Ky.tq {t k j : Nat} {h h' : Hd} {ob : Ob} (a : Ky t k h j ob) (q : Tq t k h h') : Ky t k h' j ob := ⟨a.1, a.2.1, q.oth j ob a.1 a.2.1 a.2.2⟩
theorem TapeOk.lt {t k : Nat} {h : Hd} (a : TapeOk t k h) : t < h.length ∧ k < h.length := by
  obtain ⟨_, s, c, cs, e1, e2⟩ := a
  exact ⟨lt_at e1, lt_at e2⟩
theorem Ky.new {t k : Nat} {h : Hd} {ob : Ob} (a : TapeOk t k h) : Ky t k (h ++ [ob]) h.length ob := by
  have := a.lt
  exact ⟨by omega, by omega, new_at⟩
theorem Tq.add {t k : Nat} {h : Hd} (a : TapeOk t k h) (x : Hd) : Tq t k h (h ++ x) := (Tq.refl a).app
theorem draw_gt {t k m : Nat} {c : Int} {A : Sa} {env : PN.Env} {h : Hd} (hA : A env h = .ok [.ref t, .int m] h) (h1 : 1 ≤ m) (h2 : m ≤ 1000) (tp : TapeOk t k h) : ∃ b h', dFlag (dBin dGt (dFn 2 m_law_draw A) (dC (.int c))) env h = .ok b h' ∧ Tq t k h h' := by
  obtain ⟨v, h', e, _, q⟩ := draw_fn hA h1 h2 tp
  exact ⟨_, h', flag_ok (bin_ok e rfl rfl), q⟩
theorem if_either {t k : Nat} {c : St'} {f g : Se} {env : PN.Env} {h h1 : Hd} {b : Bool} (e : c env h = .ok b h1) : dIf c f g env h = if b = true then f env h1 else g env h1 := by simp only [dIf, e, Rs.bind_ok]
theorem sp_pos {n : Nat} (h1 : 1 ≤ n) (h7 : n ≤ 7) : 1 ≤ (sp n).length := by
  rw [sp_len]
  match n, h1, h7 with
  | 1, _, _ => decide +kernel
  | 2, _, _ => decide +kernel
  | 3, _, _ => decide +kernel
  | 4, _, _ => decide +kernel
  | 5, _, _ => decide +kernel
  | 6, _, _ => decide +kernel
  | 7, _, _ => decide +kernel
  | n + 8, _, h => omega
section
variable {t k : Nat} {h : Hd}
theorem set_tq {j : Nat} {ob : Ob} (tp : TapeOk t k h) (n1 : j ≠ t) (n2 : j ≠ k) : TapeOk t k (h.set j ob) := by
  obtain ⟨ne, s, c, cs, e1, e2⟩ := tp
  exact ⟨ne, s, c, cs, set_ne n1 e1, set_ne n2 e2⟩
theorem add_lst {f g : Se} {env : PN.Env} {h h1 h2 : Hd} {a b : Nat} {l m : List D} (e1 : f env h = .ok (.ref a) h1) (e2 : g env h1 = .ok (.ref b) h2) (ea : h2[a]? = some (.lst l)) (eb : h2[b]? = some (.lst m)) (hz : l.length + m.length ≤ BIG) : dBin dAdd f g env h = .ok (.ref h2.length) (h2 ++ [.lst (l ++ m)]) := by
  refine bin_ok e1 e2 ?_
  show ((lstAt h2 a).bind fun a => (lstAt h2 b).bind fun b => if a.length + b.length ≤ BIG then some (D.ref h2.length, h2 ++ [.lst (a ++ b)]) else none) = _
  rw [lstAt_of ea, lstAt_of eb, Option.bind_some, Option.bind_some, if_pos hz]
theorem Ky.set {j r : Nat} {ob ob' : Ob} (a : Ky t k h j ob) (n : r ≠ j) : Ky t k (h.set r ob') j ob := ⟨a.1, a.2.1, set_ne n a.2.2⟩
theorem Ky.lt {j : Nat} {ob : Ob} (a : Ky t k h j ob) : j < h.length := lt_at a.2.2
theorem gc_tape {t k : Nat} {l : List D} {h' : Hd} (tp : TapeOk t k h') : gc [Ob.frz l] (.ok (.ref t) h') = .ok (.ref t) h' := by
  by_cases c : h'.take [Ob.frz l].length = [Ob.frz l]
  · obtain ⟨ne, s, cc, cs, e1, e2⟩ := tp
    have e0 : h'[0]? = some (.frz l) := by
      have : (h'.take [Ob.frz l].length)[0]? = some (.frz l) := by rw [c]; rfl
      rw [List.getElem?_take] at this
      simpa using this
    have t0 : t ≠ 0 := fun e => by subst e; rw [e0] at e1; cases e1
    have k0 : k ≠ 0 := fun e => by subst e; rw [e0] at e2; cases e2
    have u : (D.ref t).und [Ob.frz l].length = false := by simp [D.und]; omega
    have u2 : D.undL [Ob.frz l].length [.int s, .int cc, .ref k] = false := by simp [D.undL, D.und]; omega
    simp only [gc, c, if_true, u, Bool.false_eq_true, if_false, e1, u2]
  · simp only [gc, c, if_false]
theorem ok_small {n : Nat} {ps : List (List (List Nat))} (h : ps.all (okPart n) = true) : ∀ p ∈ ps, okPart n p = true := List.all_eq_true.mp h
end
theorem und_of_it {d : D} {b : Nat} (h : d.it = true) : d.und b = true := it_und d h
/-- a def's call that writes the tape alone: a plain value -/
theorem fn_val {n t k : Nat} {m : Mf} {A : Sa} {env : PN.Env} {h h1 h2 : Hd} {l : List D} {d : D} (tp : TapeOk t k h) (hA : A env h = .ok l h1) (hn : l.length = n) (hm : m l h1 = .ok d h2) (q : Tq t k h h2) (u : d.it = true) : ∃ h', dFn n m A env h = .ok d h' ∧ Tq t k h h' := by
  obtain ⟨h', g, q'⟩ := gc_tq q tp (it_und d u (b := h.length))
  exact ⟨h', by simp only [dFn, hA, Rs.bind_ok, hn, if_true, hm, g], q'⟩
/-- the same: a new list -/
theorem fn_lst {n t k j : Nat} {m : Mf} {A : Sa} {env : PN.Env} {h h1 h2 : Hd} {l r : List D} (tp : TapeOk t k h) (hA : A env h = .ok l h1) (hn : l.length = n) (hm : m l h1 = .ok (.ref j) h2) (q : Tq t k h h2) (hj : h.length ≤ j) (e : h2[j]? = some (.lst r)) (u : D.itL r = true) (n1 : j ≠ t) (n2 : j ≠ k) :
    ∃ j' h', dFn n m A env h = .ok (.ref j') h' ∧ Tq t k h h' ∧ Ky t k h' j' (.lst r) := by
  by_cases c : h2.take h.length = h
  · refine ⟨h.length, h ++ [.lst r], ?_, Tq.add tp _, Ky.new tp⟩
    have u' : (D.ref j).und h.length = false := by simp [D.und]; omega
    simp only [dFn, hA, Rs.bind_ok, hn, if_true, hm, gc, c, u', Bool.false_eq_true, if_false, e, it_undL r u]
  · exact ⟨j, h2, by simp only [dFn, hA, Rs.bind_ok, hn, if_true, hm, gc, c, if_false], q, n1, n2, e⟩
end K47
namespace K47
open PySem L2 PyProof.Rows PN
section
variable {t k : Nat} {h h' : Hd}
theorem Tq.setn {p : Nat} {ob : Ob} (q : Tq t k h h') (tp : TapeOk t k h) (hp : h.length ≤ p) : Tq t k h (h'.set p ob) := by
  have l := tp.lt
  exact ⟨set_tq q.tape (by omega) (by omega), by rw [List.length_set]; exact q.len, fun j ob' n1 n2 e => set_ne (by have := lt_at e; omega) (q.oth j ob' n1 n2 e)⟩
theorem len_at {e : PN.Env} {i n : Nat} {l : List D} (he : e[i]? = some (some (.ref n))) (el : h[n]? = some (.lst l)) : dCall cLen (dCons (dVar i) dNil) e h = .ok (.int l.length) h := len_l (f := dVar i) (by simp [dVar, he]) el
theorem pop_ok {n i : Nat} {l : List D} {d : D} (e : h[n]? = some (.lst l)) (ei : l[i]? = some d) : mPop (.ref n) [.int i] h = some (d, h.set n (.lst (l.eraseIdx i))) := by
  have hi := (List.getElem?_eq_some_iff.mp ei).1
  show ((lstAt h n).bind fun l => (ixN l.length i).bind fun j => (l[j]?).map fun d => (d, h.set n (.lst (l.eraseIdx j)))) = _
  rw [lstAt_of e]
  have : ixN l.length (i : Int) = some i := by simp [ixN, hi]
  simp [this, ei]
theorem erase_perm {α : Type} : ∀ {l : List α} {i : Nat} {d : α}, l[i]? = some d → (d :: l.eraseIdx i).Perm l
  | [], i, d, h => by simp at h
  | a :: l, 0, d, h => by simp at h; subst h; exact List.Perm.refl _
  | a :: l, i + 1, d, h => by
    have ih := erase_perm (l := l) (i := i) (d := d) (by simpa using h)
    exact (List.Perm.swap a d _).trans (ih.cons a)
theorem map_erase {α β : Type} (f : α → β) : ∀ (l : List α) (i : Nat), (l.map f).eraseIdx i = (l.eraseIdx i).map f
  | [], i => rfl
  | a :: l, 0 => rfl
  | a :: l, i + 1 => by simp [map_erase f l i]
theorem mixed_ok {a : Nat} {l : List Nat} (tp : TapeOk t k h) (ka : Ky t k h a (.lst (l.map nd))) (hz : l.length ≤ 1000) : ∃ (j : Nat) (σ : List Nat) (h' : Hd), m_law_mixed [.ref t, .ref a] h = .ok (.ref j) h' ∧ Tq t k h h' ∧ h.length ≤ j ∧ h'[j]? = some (.lst (σ.map nd)) ∧ σ.Perm l := by
  have big := big_ge
  have lt := tp.lt
  have key := m_wp (N := 4) (b := f_law_mixed) (ds := [.ref t, .ref a]) (h := h) (Q := fun d h' => ∃ (j : Nat) (σ : List Nat), d = .ref j ∧ Tq t k h h' ∧ h.length ≤ j ∧ h'[j]? = some (.lst (σ.map nd)) ∧ σ.Perm l) (by
    unfold f_law_mixed
    refine w_seq (w_par (x_cons' (Rs.wp_of (v := .ref h.length) (h1 := h ++ [.lst (l.map nd)]) ?_ (x_cons' (x_lst' (x_nil' ⟨by simp, x_nil' ⟨_, _, rfl, ?_⟩⟩))))))
    · refine dCall_lst (h2 := h ++ [.lst (l.map nd)]) (j := h.length) (r := l.map nd) (dCons_ok rfl dNil_ok) ?_ (List.prefix_append _ _) (Nat.le_refl _) new_at (it_undL _ (bk_itL l))
      show ((seqD (.ref a) h).bind fun l => some (D.ref h.length, h ++ [.lst l])) = _
      simp only [seqD, seqAt_of ka.2.2, Option.bind_some]
    · refine w_seq (w_while (fun m e h' => ∃ L F : List Nat, m = L.length ∧ e = [some (.ref t), some (.ref a), some (.ref h.length), some (.ref (h.length + 1))] ∧ Tq t k h h' ∧ h'[h.length]? = some (.lst (L.map nd)) ∧ h'[h.length + 1]? = some (.lst (F.map nd)) ∧ (L ++ F).Perm l) l.length ⟨l, [], rfl, ?_, ((Tq.add tp _).app), app_at new_at, ?_, by simp⟩ (by omega) ?_)
      · simp
      · simpa using new_at (h := h ++ [Ob.lst (l.map nd)]) (o := Ob.lst [])
      · rintro _ _ h1 ⟨L, F, rfl, rfl, q, eL, eF, pm⟩
        have lens := pm.length_eq
        rw [List.length_append] at lens
        refine x_flag' (x_bin' (Rs.wp_of (len_at rfl eL) (x_c' ⟨.bl (decide (0 < L.length)), h1, ?_, decide (0 < L.length), rfl, fun hc => ?_, fun hc => ?_⟩)))
        · simp [dGt, dLess, dLt]
        · have hL : 1 ≤ L.length := Nat.succ_le_of_lt (by simpa using hc)
          obtain ⟨v, h2, e2, hv, q2⟩ := draw_fn (A := dCons (dVar 0) (dCons (dCall cLen (dCons (dVar 2) dNil)) dNil)) (env := [some (.ref t), some (.ref a), some (.ref h.length), some (.ref (h.length + 1))]) (h := h1) (t := t) (k := k) (m := L.length) (dCons_ok rfl (dCons_ok (by simpa using len_at (i := 2) rfl eL) dNil_ok)) hL (by omega) q.tape
          have eL2 := q2.oth _ _ (by omega) (by omega) eL
          have eF2 := q2.oth _ _ (by omega) (by omega) eF
          have ev : L[v]? = some L[v] := List.getElem?_eq_getElem hv
          have q3 := (q.trans q2).setn (p := h.length) (ob := .lst ((L.eraseIdx v).map nd)) tp (Nat.le_refl _)
          have eL3 : (h2.set h.length (.lst ((L.eraseIdx v).map nd)))[h.length]? = some (.lst ((L.eraseIdx v).map nd)) := set_at eL2
          have eF3 : (h2.set h.length (.lst ((L.eraseIdx v).map nd)))[h.length + 1]? = some (.lst (F.map nd)) := set_ne (by omega) eF2
          have r3 : dMeth .list mPop (dVar 2) (dCons (dFn 2 m_law_draw (dCons (dVar 0) (dCons (dCall cLen (dCons (dVar 2) dNil)) dNil))) dNil) [some (.ref t), some (.ref a), some (.ref h.length), some (.ref (h.length + 1))] h1 = .ok (nd L[v]) (h2.set h.length (.lst ((L.eraseIdx v).map nd))) :=
            meth_ok (o := .ref h.length) rfl (ty_lst eL) (dCons_ok e2 dNil_ok) (by rw [← map_erase]; exact pop_ok eL2 (by simp [ev]))
          generalize h2.set h.length (.lst ((L.eraseIdx v).map nd)) = h3 at *
          have le := List.length_eraseIdx_of_lt hv
          refine w_seq (w_drop (Rs.wp_of (meth_ok (o := .ref (h.length + 1)) (d := .non) rfl (ty_lst eF) (dCons_ok r3 dNil_ok) (append_ok eF3 (by simp; omega))) ?_))
          refine w_skip ⟨_, ?_, L.eraseIdx v, F ++ [L[v]], rfl, rfl, q3.setn tp (by omega), set_ne (by omega) eL3, ?_, ?_⟩
          · omega
          · rw [set_at eF3]; simp
          · have := erase_perm ev
            refine List.Perm.trans ?_ pm
            rw [← List.append_assoc]
            refine (List.perm_append_comm).trans ?_
            exact (this.append_right F)
        · have : L = [] := by
            cases L with
            | nil => rfl
            | cons => simp at hc
          subst this
          exact w_seq (w_ret (x_var' rfl ⟨_, F, rfl, q, by omega, eF, by simpa using pm⟩)))
  obtain ⟨d, h', e, j, σ, rfl, r⟩ := key
  exact ⟨j, σ, h', e, r⟩
end
end K47
namespace K47
open PySem L2 PyProof.Rows PN
section
variable {t k : Nat} {h h' : Hd}
theorem draw_fn' {m : Nat} {A : Sa} {env : PN.Env} {h1 : Hd} (hA : A env h = .ok [.ref t, .int m] h1) (q : Tq t k h h1) (h1' : 1 ≤ m) (h2 : m ≤ 1000) (tp : TapeOk t k h) : ∃ (v : Nat) (h' : Hd), dFn 2 m_law_draw A env h = .ok (.int v) h' ∧ v < m ∧ Tq t k h h' := by
  obtain ⟨v, h', e, hv, _, q'⟩ := draw_ok h1' h2 q.tape
  obtain ⟨h'', g, q''⟩ := fn_val tp hA rfl e (q.trans q') rfl
  exact ⟨v, h'', g, hv, q''⟩
/-- blocks that hold the numbers below j -/
structure Lot (j : Nat) (L : List (List Nat)) : Prop where
  blk : ∀ b ∈ L, b ≠ [] ∧ b.Pairwise (· < ·) ∧ ∀ x ∈ b, x < j
  perm : L.flatten.Perm (List.range j)
theorem pw_snoc {b : List Nat} {j : Nat} (h : b.Pairwise (· < ·)) (hx : ∀ x ∈ b, x < j) : (b ++ [j]).Pairwise (· < ·) := by
  rw [List.pairwise_append]
  exact ⟨h, List.pairwise_singleton _ _, fun a ha b hb => by rw [List.mem_singleton] at hb; subst hb; exact hx a ha⟩
theorem Lot.new {j : Nat} {L : List (List Nat)} (l : Lot j L) : Lot (j + 1) (L ++ [[j]]) := by
  refine ⟨fun b hb => ?_, ?_⟩
  · rcases List.mem_append.mp hb with hb | hb
    · obtain ⟨a, b', c⟩ := l.blk b hb
      exact ⟨a, b', fun x hx => by have := c x hx; omega⟩
    · rw [List.mem_singleton] at hb; subst hb
      exact ⟨by simp, List.pairwise_singleton _ _, by simp⟩
  · rw [List.flatten_append, List.range_succ]
    simpa using l.perm.append_right [j]
theorem set_flat {L : List (List Nat)} {i : Nat} {b c : List Nat} (hb : L[i]? = some b) : (L.set i (b ++ c)).flatten.Perm (L.flatten ++ c) := by
  induction L generalizing i with
  | nil => simp at hb
  | cons a L ih =>
    cases i with
    | zero =>
      simp at hb; subst hb
      simp only [List.set_cons_zero, List.flatten_cons, List.append_assoc]
      exact List.perm_append_comm.append_left _
    | succ i =>
      simp only [List.set_cons_succ, List.flatten_cons, List.append_assoc]
      exact (ih (by simpa using hb)).append_left a
theorem Lot.put {j i : Nat} {L : List (List Nat)} {b : List Nat} (l : Lot j L) (hb : L[i]? = some b) : Lot (j + 1) (L.set i (b ++ [j])) := by
  have bl := l.blk b (List.mem_of_getElem? hb)
  refine ⟨fun c hc => ?_, ?_⟩
  · rcases List.mem_or_eq_of_mem_set hc with hc | rfl
    · obtain ⟨a, b', d⟩ := l.blk c hc
      exact ⟨a, b', fun x hx => by have := d x hx; omega⟩
    · exact ⟨by simp, pw_snoc bl.2.1 bl.2.2, fun x hx => by
        rcases List.mem_append.mp hx with hx | hx
        · have := bl.2.2 x hx; omega
        · rw [List.mem_singleton] at hx; omega⟩
  · rw [List.range_succ]
    exact (set_flat hb).trans (l.perm.append_right [j])
theorem Lot.len {j : Nat} {L : List (List Nat)} (l : Lot j L) : L.length ≤ j := by
  have := l.perm.length_eq
  rw [List.length_range] at this
  have len : ∀ q : List (List Nat), (∀ b ∈ q, b ≠ []) → q.length ≤ q.flatten.length := fun q => by
    induction q with
    | nil => intro _; simp
    | cons b q ih =>
      intro h
      have := ih fun c hc => h c (List.mem_cons_of_mem _ hc)
      have : 0 < b.length := List.length_pos_iff.mpr (h b List.mem_cons_self)
      simp only [List.flatten_cons, List.length_cons, List.length_append]
      omega
  have := len L fun b hb => (l.blk b hb).1
  omega
theorem Lot.ok {n : Nat} {L : List (List Nat)} (l : Lot n L) : okPart n (srtP L) = true := by
  refine ok_srtP (fun b hb => ?_) l.perm
  obtain ⟨h0, h1, h2⟩ := l.blk b hb
  have nd' : b.Nodup := h1.imp fun {a c} e => by omega
  simp only [okBlk, Bool.and_eq_true, Bool.not_eq_true', decide_eq_true_eq, List.all_eq_true]
  refine ⟨⟨⟨?_, len_below n b nd' h2⟩, h2⟩, List.all_eq_true.mp (zip_pair (h1.imp fun {a c} e => by simpa using e))⟩
  cases b with
  | nil => exact absurd rfl h0
  | cons => rfl
theorem srt_call {f : Se} {env : PN.Env} {h1 : Hd} {n : Nat} {L : List (List Nat)} (e : f env h = .ok (.ref n) h1) (p : h <+: h1) (el : h1[n]? = some (.lst (L.map bk))) (hne : ∀ b ∈ L, b ≠ []) (hz : L.length ≤ 1000) : dCall cTuple (dCons (dCall cSort (dCons f dNil)) dNil) env h = .ok (pt (srtP L)) h := by
  have big := big_ge
  have s := sort_lst e p el (sortable_bks L hne) (by simp; omega) (by rw [srtP_bk]; exact it_undL _ (pt_itL _))
  rw [srtP_bk] at s
  refine dCall_val (dCons_ok s dNil_ok) (h2 := h ++ [.lst ((srtP L).map bk)]) ?_ (List.prefix_append _ _) (it_und _ (pt_it _))
  show ((seqD (.ref h.length) (h ++ [.lst ((srtP L).map bk)])).bind fun l => some (D.tup l, h ++ [.lst ((srtP L).map bk)])) = _
  simp only [seqD, seqAt_of new_at, Option.bind_some]
  rfl
theorem call_tq {g : OpN} {A : Sa} {env : PN.Env} {h1 : Hd} {l : List D} {d : D} (tp : TapeOk t k h) (hA : A env h = .ok l h1) (hg : g l h1 = some (d, h1)) (q : Tq t k h h1) (u : d.it = true) : ∃ h', dCall g A env h = .ok d h' ∧ Tq t k h h' := by
  obtain ⟨h', e, q'⟩ := gc_tq q tp (it_und d u (b := h.length))
  exact ⟨h', by simp only [dCall, hA, Rs.bind_ok, hg, ofO, e], q'⟩
theorem drawn_ok {n : Nat} (tp : TapeOk t k h) (hn : n ≤ 7) : ∃ (p : List (List Nat)) (h' : Hd), m_law_drawn [.ref t, nd n] h = .ok (pt p) h' ∧ Tq t k h h' ∧ okPart n p = true := by
  have big := big_ge
  have lt := tp.lt
  have key := m_wpE (N := 5) (b := f_law_drawn) (ds := [.ref t, nd n]) (h := h) (Q := fun d h' => ∃ p, d = pt p ∧ Tq t k h h' ∧ okPart n p = true) [some (.ref t), some (nd n), none, none, none] rfl (by
    unfold f_law_drawn
    refine w_seq (w_asg (x_lst' (x_nil' ⟨Nat.zero_le _, w_gn rfl ?_⟩)))
    refine w_seq (w_for ((List.range n).map fun i => D.int (0 + (i : Nat))) (fun j e h' => ∃ (L : List (List Nat)) (x3 x4 : Option D), e = [some (.ref t), some (nd n), some (.ref h.length), x3, x4] ∧ Lot j L ∧ Tq t k h h' ∧ h'[h.length]? = some (.lst (L.map bk))) sgo_n
      (Rs.wp_of (rngI_1 (n := n) rfl (rb_lt (by omega))) ⟨⟨[], none, none, rfl, ⟨by simp, by simp⟩, Tq.add tp _, new_at⟩, by simp; omega, fun j e h _ => nxRng_at j⟩) ?_ ?_)
    · rintro j d e h1 ed ⟨L, x3, x4, rfl, l, q, eL⟩
      rw [List.getElem?_map, Option.map_eq_some_iff] at ed
      obtain ⟨j', ej, rfl⟩ := ed
      obtain ⟨a, b⟩ := List.getElem?_eq_some_iff.mp ej
      simp at a b
      subst b
      rw [Int.zero_add]
      have ln := l.len
      refine w_gn rfl ?_
      show Ro.wp (dSeq _ _ [some (.ref t), some (nd n), some (.ref h.length), some (nd j), x4] h1) _ _ _
      obtain ⟨v0, h2, e2, hv0, q2⟩ := draw_fn (A := dCons (dVar 0) (dCons (dC (.int 2)) dNil)) (env := [some (.ref t), some (nd n), some (.ref h.length), some (nd j), x4]) (h := h1) (t := t) (k := k) (m := 2) rfl (by omega) (by omega) q.tape
      obtain ⟨c, h3, hc, e3, q3⟩ : ∃ (c : Nat) (h3 : Hd), c ≤ 1 ∧ dCall cInt (dCons (dBin dEq (dFn 2 m_law_draw (dCons (dVar 0) (dCons (dC (.int 2)) dNil))) (dC (.int 0))) dNil) [some (.ref t), some (nd n), some (.ref h.length), some (nd j), x4] h1 = .ok (.int c) h3 ∧ Tq t k h1 h3 := by
        have e4 := bin_ok (g := dEq) (fb := dC (.int 0)) e2 rfl (dEq_it (a := .int v0) (b := .int 0) (h := h2) rfl rfl (by simp [D.depth]) (by simp [D.depth]))
        by_cases c : D.int v0 = D.int 0
        · rw [decide_eq_true c] at e4
          obtain ⟨h3, g3, q3⟩ := call_tq (g := cInt) (d := .int 1) q.tape (dCons_ok e4 dNil_ok) rfl q2 rfl
          exact ⟨1, h3, by omega, g3, q3⟩
        · rw [decide_eq_false c] at e4
          obtain ⟨h3, g3, q3⟩ := call_tq (g := cInt) (d := .int 0) q.tape (dCons_ok e4 dNil_ok) rfl q2 rfl
          exact ⟨0, h3, by omega, g3, q3⟩
      have e5 : dBin dAdd (dBin dAdd (dCall cLen (dCons (dVar 2) dNil)) (dC (.int 1))) (dCall cInt (dCons (dBin dEq (dFn 2 m_law_draw (dCons (dVar 0) (dCons (dC (.int 2)) dNil))) (dC (.int 0))) dNil)) [some (.ref t), some (nd n), some (.ref h.length), some (nd j), x4] h1 = .ok (.int ((L.length + 1 + c : Nat) : Int)) h3 :=
        bin_ok (bin_ok (g := dAdd) (fb := dC (.int 1)) (len_at (i := 2) rfl eL) rfl rfl) e3 (by simp [dAdd])
      obtain ⟨at', h4, e6, hat, q4⟩ := draw_fn' (dCons_ok (f := dVar 0) rfl (dCons_ok e5 dNil_ok)) q3 (by omega) (by omega) q.tape
      have eL4 := q4.oth _ _ (by omega) (by omega) eL
      have qq := q.trans q4
      refine w_seq (w_asg (Rs.wp_of e6 (w_gn rfl ?_)))
      have ln4 := len_at (h := h4) (e := [some (.ref t), some (nd n), some (.ref h.length), some (nd j), some (.int at')]) (i := 2) rfl eL4
      rw [List.length_map] at ln4
      refine w_seq (w_if (x_flag' (x_bin' (x_var' rfl (Rs.wp_of ln4 ⟨.bl (decide (at' < L.length)), h4, ?_, _, rfl, ?_⟩)))))
      · simp [dLt, dLess]
      · by_cases c : at' < L.length
        · have eb : L[at']? = some L[at'] := List.getElem?_eq_getElem c
          have bl := l.blk _ (List.getElem_mem c)
          have nb := len_below j _ (bl.2.1.imp fun {a c} e => by omega) bl.2.2
          rw [decide_eq_true c, if_pos rfl]
          have e7 : dBin dAdd (dBin dItem (dVar 2) (dVar 4)) (dTup (dCons (dVar 3) dNil)) [some (.ref t), some (nd n), some (.ref h.length), some (nd j), some (.int at')] h4 = .ok (bk (L[at'] ++ [j])) h4 :=
            bin_ok (bin_ok (g := dItem) rfl rfl (item_at (d := bk L[at']) eL4 (by simp [eb]))) (tup_ok (dCons_ok rfl dNil_ok) (by simp; omega)) (add_blk _ _ _ (by omega))
          have st := store_ok (o := dVar 2) (i := dVar 4) e7 rfl rfl (setl_ok (i := at') eL4 (by simpa using c))
          refine w_seq (w_of st (w_nx (w_skip (w_skip ⟨_, _, _, rfl, l.put eb, qq.setn tp (Nat.le_refl _), ?_⟩))))
          rw [set_at eL4, List.map_set]
        · rw [decide_eq_false c, if_neg (by simp)]
          refine w_seq (w_drop (Rs.wp_of (meth_ok (o := .ref h.length) (d := .non) rfl (ty_lst eL4) (dCons_ok (tup_ok (dCons_ok (f := dVar 3) (d := nd j) rfl dNil_ok) (by simp; omega)) dNil_ok) (append_ok eL4 (by simp; omega))) ?_))
          refine w_skip (w_skip ⟨_, _, _, rfl, l.new, qq.setn tp (Nat.le_refl _), ?_⟩)
          rw [set_at eL4]; simp [bk]
    · rintro e h1 ⟨L, x3, x4, rfl, l, q, eL⟩
      rw [List.length_map, List.length_range] at l
      refine w_seq (w_ret (Rs.wp_of (srt_call rfl (List.prefix_refl _) eL (fun b hb => (l.blk b hb).1) (by have := l.len; omega)) ⟨_, rfl, q, l.ok⟩)))
  obtain ⟨d, h', e, p, rfl, r⟩ := key
  exact ⟨p, h', e, r⟩
end
end K47
namespace K47
open PySem L2 PyProof.Rows PN
/-! ## numbers in another order -/
def gs (σ : List Nat) (x : Nat) : Nat := σ.getD x 0
def ren (σ b : List Nat) : List Nat := srt (b.map (gs σ))
def renP (σ : List Nat) (p : List (List Nat)) : List (List Nat) := srtP (p.map (ren σ))
section
variable {n : Nat} {σ : List Nat} (hσ : σ.Perm (List.range n))
include hσ
theorem gs_len : σ.length = n := by rw [hσ.length_eq, List.length_range]
theorem gs_at {x : Nat} (hx : x < n) : gs σ x = σ[x]'(by rw [gs_len hσ]; exact hx) := by
  have := gs_len hσ
  unfold gs
  rw [List.getD_eq_getElem?_getD, List.getElem?_eq_getElem (by omega), Option.getD_some]
theorem gs_lt {x : Nat} (hx : x < n) : gs σ x < n := by
  rw [gs_at hσ hx]
  exact List.mem_range.mp (hσ.mem_iff.mp (List.getElem_mem _))
theorem gs_inj {x y : Nat} (hx : x < n) (hy : y < n) (e : gs σ x = gs σ y) : x = y := by
  rw [gs_at hσ hx, gs_at hσ hy] at e
  exact List.getElem_inj (hσ.nodup_iff.mpr List.nodup_range) |>.mp e
theorem gs_all : (List.range n).map (gs σ) = σ := by
  have l := gs_len hσ
  refine List.ext_getElem (by simp [l]) fun i h1 h2 => ?_
  rw [List.getElem_map, List.getElem_range, gs_at hσ (by omega)]
theorem gs_onto {z : Nat} (hz : z < n) : ∃ x, x < n ∧ gs σ x = z := by
  have : z ∈ (List.range n).map (gs σ) := by rw [gs_all hσ]; exact hσ.mem_iff.mpr (List.mem_range.mpr hz)
  obtain ⟨x, hx, e⟩ := List.mem_map.mp this
  exact ⟨x, List.mem_range.mp hx, e⟩
theorem nodup_gs : ∀ {b : List Nat}, b.Nodup → (∀ x ∈ b, x < n) → (b.map (gs σ)).Nodup
  | [], _, _ => List.nodup_nil
  | x :: b, h, hx => by
    have h' := List.nodup_cons.mp h
    rw [List.map_cons, List.nodup_cons]
    refine ⟨fun m => ?_, nodup_gs h'.2 fun y hy => hx y (List.mem_cons_of_mem _ hy)⟩
    obtain ⟨y, hy, e⟩ := List.mem_map.mp m
    have := gs_inj hσ (hx y (List.mem_cons_of_mem _ hy)) (hx x List.mem_cons_self) e
    subst this
    exact h'.1 hy
theorem blk_nd {b : List Nat} {p : List (List Nat)} (h : okPart n p = true) (hb : b ∈ p) : b.Nodup := by
  have fl := (ok_parts h).2.1.nodup_iff.mpr List.nodup_range
  exact (List.pairwise_flatten.mp fl).1 b hb
theorem ren_mem {b : List Nat} {z : Nat} : z ∈ ren σ b ↔ ∃ x ∈ b, gs σ x = z := by
  unfold ren
  rw [(srt_perm _).mem_iff, List.mem_map]
theorem ok_renP {p : List (List Nat)} (h : okPart n p = true) : okPart n (renP σ p) = true := by
  obtain ⟨h1, h2, h3⟩ := ok_parts h
  refine ok_srtP (fun b hb => ?_) ?_
  · obtain ⟨c, hc, rfl⟩ := List.mem_map.mp hb
    obtain ⟨c1, c2, c3⟩ := blk_parts (h1 c hc)
    refine ok_srt ?_ (nodup_gs hσ (blk_nd hσ h hc) c3) fun z hz => ?_
    · cases c with
      | nil => exact absurd rfl c1
      | cons => simp
    · obtain ⟨x, hx, rfl⟩ := List.mem_map.mp hz
      exact gs_lt hσ (c3 x hx)
  · have : ((p.map (ren σ)).flatten).Perm ((p.map fun b => b.map (gs σ)).flatten) := by
      clear h h1 h2 h3
      induction p with
      | nil => exact List.Perm.refl _
      | cons b p ih =>
        simp only [List.map_cons, List.flatten_cons]
        exact (srt_perm _).append ih
    refine this.trans ?_
    rw [← List.map_flatten]
    refine (h2.map (gs σ)).trans ?_
    rw [gs_all hσ]
    exact hσ
theorem conn_ren {p q : List (List Nat)} (hp : okPart n p = true) (hq : okPart n q = true) : Conn n (renP σ p) (renP σ q) ↔ Conn n p q := by
  have mem : ∀ b, b ∈ renP σ p ++ renP σ q ↔ ∃ c ∈ p ++ q, ren σ c = b := fun b => by
    rw [List.mem_append, renP, renP, (srtP_perm _).mem_iff, (srtP_perm _).mem_iff, List.mem_map, List.mem_map]
    constructor
    · rintro (⟨c, hc, e⟩ | ⟨c, hc, e⟩)
      · exact ⟨c, List.mem_append_left _ hc, e⟩
      · exact ⟨c, List.mem_append_right _ hc, e⟩
    · rintro ⟨c, hc, e⟩
      rcases List.mem_append.mp hc with hc | hc
      · exact .inl ⟨c, hc, e⟩
      · exact .inr ⟨c, hc, e⟩
  have lt : ∀ c ∈ p ++ q, ∀ x ∈ c, x < n := fun c hc x hx => by
    rcases List.mem_append.mp hc with hc | hc
    · exact (blk_parts ((ok_parts hp).1 c hc)).2.2 x hx
    · exact (blk_parts ((ok_parts hq).1 c hc)).2.2 x hx
  constructor
  · intro cn Q cl x y hx hy qx
    have := cn (fun z => ∃ x, x < n ∧ gs σ x = z ∧ Q x) (fun b hb z hz w hw ⟨x0, hx0, e0, q0⟩ => by
      obtain ⟨c, hc, rfl⟩ := (mem b).mp hb
      obtain ⟨x1, hx1, e1⟩ := (ren_mem hσ).mp hz
      obtain ⟨y1, hy1, e2⟩ := (ren_mem hσ).mp hw
      have := gs_inj hσ hx0 (lt c hc x1 hx1) (e0.trans e1.symm)
      subst this
      exact ⟨y1, lt c hc y1 hy1, e2, cl c hc x0 hx1 y1 hy1 q0⟩) (gs σ x) (gs σ y) (gs_lt hσ hx) (gs_lt hσ hy) ⟨x, hx, rfl, qx⟩
    obtain ⟨y', hy', e, q'⟩ := this
    have := gs_inj hσ hy' hy e
    subst this
    exact q'
  · intro cn Q cl z w hz hw qz
    obtain ⟨x, hx, rfl⟩ := gs_onto hσ hz
    obtain ⟨y, hy, rfl⟩ := gs_onto hσ hw
    exact cn (fun x => Q (gs σ x)) (fun c hc a ha b hb qa => cl (ren σ c) ((mem _).mpr ⟨c, hc, rfl⟩) _ ((ren_mem hσ).mpr ⟨a, ha, rfl⟩) _ ((ren_mem hσ).mpr ⟨b, hb, rfl⟩) qa) x y hx hy qz
theorem len_renP {p : List (List Nat)} : (renP σ p).length = p.length := by
  unfold renP
  rw [(srtP_perm _).length_eq, List.length_map]
theorem meets_ren (h1 : 1 ≤ n) (h7 : n ≤ 7) {p q : List (List Nat)} (hp : okPart n p = true) (hq : okPart n q = true) : meets n (renP σ p) (renP σ q) = meets n p q := by
  rw [Bool.eq_iff_iff, meets_iff (pa_of h1 h7 (ok_renP hσ hp)) (pa_of h1 h7 (ok_renP hσ hq)), meets_iff (pa_of h1 h7 hp) (pa_of h1 h7 hq), conn_ren hσ hp hq, len_renP hσ, len_renP hσ]
end
/-! ### as the law tells it -/
def renF (σ : List Nat) : D → D
  | .int i => nd (gs σ i.toNat)
  | _ => .non
def renG (σ : List Nat) : D → D
  | .tup l => .tup ((l.map (renF σ)).mergeSort leD)
  | _ => .non
theorem renF_nd (σ : List Nat) (x : Nat) : renF σ (nd x) = nd (gs σ x) := by simp [renF, nd]
theorem renG_bk (σ b : List Nat) : renG σ (bk b) = bk (ren σ b) := by
  simp only [renG, bk, List.map_map]
  rw [show b.map (renF σ ∘ nd) = (b.map (gs σ)).map nd by rw [List.map_map]; exact List.map_congr_left fun x _ => renF_nd σ x, srt_nd]
  rfl
section
variable {n : Nat} {σ : List Nat} {h : Hd}
theorem ren_call (hσ : σ.Perm (List.range n)) (h7 : n ≤ 7) {r : Nat} (er : h[r]? = some (.lst (σ.map nd))) {b : List Nat} (hb : ∀ x ∈ b, x < n) (hl : b.length ≤ 1000) {x0 x3 : Option D} :
    dCall cTuple (dCons (dCall cSort (dCons (dLc (dSeqI (dVar 2)) (dGn 3) dYes (dBin dItem (dVar 1) (dVar 3)) [3]) dNil)) dNil) [x0, some (.ref r), some (bk b), x3] h = .ok (bk (ren σ b)) h := by
  have big := big_ge
  have c := lc_all (s := dSeqI (dVar 2)) (g := dGn 3) (f := dBin dItem (dVar 1) (dVar 3)) (vs := [3]) (env := [x0, some (.ref r), some (bk b), x3]) (h := h) (l := b.map nd) (F := renF σ) (fun d => [x0, some (.ref r), some (bk b), some d])
    (seqI_tup rfl) nxOf_at (by simp; omega) (fun d _ => rfl) (fun d hd => by
      obtain ⟨x, hx, rfl⟩ := List.mem_map.mp hd
      have lx := hb x hx
      have ln := gs_len hσ
      rw [renF_nd]
      refine bin_ok (g := dItem) (x := .ref r) (y := nd x) rfl rfl (item_at er ?_)
      rw [List.getElem?_map, List.getElem?_eq_getElem (by omega), gs_at hσ lx]
      rfl)
  rw [show (b.map nd).map (renF σ) = (b.map (gs σ)).map nd by rw [List.map_map, List.map_map]; exact List.map_congr_left fun x _ => renF_nd σ x] at c
  have s := sort_lst c (List.prefix_append _ _) new_at (sortable_nds _) (by simp; omega) (by rw [srt_nd]; exact it_undL _ (bk_itL _))
  rw [srt_nd] at s
  refine dCall_val (dCons_ok s dNil_ok) (h2 := h ++ [.lst ((srt (b.map (gs σ))).map nd)]) ?_ (List.prefix_append _ _) (it_und _ (bk_it _))
  show ((seqD (.ref h.length) (h ++ [.lst ((srt (b.map (gs σ))).map nd)])).bind fun l => some (D.tup l, h ++ [.lst ((srt (b.map (gs σ))).map nd)])) = _
  simp only [seqD, seqAt_of new_at, Option.bind_some]
  rfl
theorem renamed_ok (hσ : σ.Perm (List.range n)) (h7 : n ≤ 7) {r : Nat} (er : h[r]? = some (.lst (σ.map nd))) {p : List (List Nat)} (hp : okPart n p = true) : m_law_renamed [pt p, .ref r] h = .ok (pt (renP σ p)) h := by
  have big := big_ge
  obtain ⟨h1, h2, h3⟩ := ok_parts hp
  have c := lc_all (s := dSeqI (dVar 0)) (g := dGn 2) (f := dCall cTuple (dCons (dCall cSort (dCons (dLc (dSeqI (dVar 2)) (dGn 3) dYes (dBin dItem (dVar 1) (dVar 3)) [3]) dNil)) dNil)) (vs := [2]) (env := [some (pt p), some (.ref r), none, none]) (h := h) (l := p.map bk) (F := renG σ) (fun d => [some (pt p), some (.ref r), some d, none])
    (seqI_tup rfl) nxOf_at (by simp; omega) (fun d _ => rfl) (fun d hd => by
      obtain ⟨b, hb, rfl⟩ := List.mem_map.mp hd
      have bp := blk_parts (h1 b hb)
      rw [renG_bk]
      exact ren_call hσ h7 er bp.2.2 (by omega))
  rw [show (p.map bk).map (renG σ) = (p.map (ren σ)).map bk by rw [List.map_map, List.map_map]; exact List.map_congr_left fun x _ => renG_bk σ x] at c
  refine mOf_rt (seq_rt (ret_ok (srt_call c (List.prefix_append _ _) new_at (fun b hb => ?_) (by simp; omega))))
  obtain ⟨c, hc, rfl⟩ := List.mem_map.mp hb
  intro e
  have := (srt_perm (c.map (gs σ))).length_eq
  rw [show srt (c.map (gs σ)) = [] from e, List.length_map] at this
  exact (blk_parts (h1 c hc)).1 (List.eq_nil_of_length_eq_zero this.symm)
end
end K47
namespace K47
open PySem L2 PyProof.Rows PN
/-! ## two blocks made one -/
def mg (p : List (List Nat)) (f l : List Nat) : List (List Nat) := srtP (p.filter (fun c => !decide (c = f) && !decide (c = l)) ++ [srt (f ++ l)])
def single (n : Nat) : List (List Nat) := (List.range n).map fun i => [i]
section
variable {n : Nat} {p : List (List Nat)}
theorem part_nd (h : okPart n p = true) : p.Nodup := by
  obtain ⟨h1, h2, h3⟩ := ok_parts h
  have fl := h2.nodup_iff.mpr List.nodup_range
  refine List.Pairwise.imp_of_mem ?_ (List.pairwise_flatten.mp fl).2
  intro a b ha hb d e
  subst e
  have ne := blk_ne (h1 a ha)
  exact d _ (head_mem ne) _ (head_mem ne) rfl
theorem mg_perm {f l : List Nat} (h : p.Nodup) (hf : f ∈ p) (hl : l ∈ p) (ne : f ≠ l) : (f :: l :: p.filter (fun c => !decide (c = f) && !decide (c = l))).Perm p := by
  have e1 : p.erase f = p.filter (· != f) := List.Nodup.erase_eq_filter h f
  have n1 : (p.erase f).Nodup := h.erase f
  have m1 : l ∈ p.erase f := by rw [e1, List.mem_filter]; exact ⟨hl, by simpa using fun e : l = f => ne e.symm⟩
  have e2 : (p.erase f).erase l = (p.erase f).filter (· != l) := List.Nodup.erase_eq_filter n1 l
  have e3 : (p.erase f).erase l = p.filter (fun c => !decide (c = f) && !decide (c = l)) := by
    rw [e2, e1, List.filter_filter]
    refine List.filter_congr fun c _ => ?_
    by_cases c1 : c = f <;> by_cases c2 : c = l <;> simp [c1, c2, bne_iff_ne]
  rw [← e3]
  exact (((List.perm_cons_erase m1).symm).cons f).trans (List.perm_cons_erase hf).symm
theorem ok_mg (h : okPart n p = true) {f l : List Nat} (hf : f ∈ p) (hl : l ∈ p) (ne : f ≠ l) : okPart n (mg p f l) = true := by
  obtain ⟨h1, h2, h3⟩ := ok_parts h
  have pm := mg_perm (part_nd h) hf hl ne
  have fl := h2.nodup_iff.mpr List.nodup_range
  have pf := flat_perm pm
  have fl2 := pf.nodup_iff.mpr fl
  simp only [List.flatten_cons] at fl2 pf
  have nfl : (f ++ l).Nodup := by
    rw [← List.append_assoc] at fl2
    exact (List.nodup_append.mp fl2).1
  refine ok_srtP (fun b hb => ?_) ?_
  · rcases List.mem_append.mp hb with hb | hb
    · exact h1 b (List.mem_filter.mp hb).1
    · rw [List.mem_singleton] at hb; subst hb
      refine ok_srt (fun e => (blk_parts (h1 f hf)).1 (List.append_eq_nil_iff.mp e).1) nfl fun x hx => ?_
      rcases List.mem_append.mp hx with hx | hx
      · exact (blk_parts (h1 f hf)).2.2 x hx
      · exact (blk_parts (h1 l hl)).2.2 x hx
  · rw [List.flatten_append]
    refine List.Perm.trans ?_ (pf.trans h2)
    simp only [List.flatten_cons, List.flatten_nil, List.append_nil]
    refine List.perm_append_comm.trans ?_
    rw [← List.append_assoc]
    exact (srt_perm _).append_right _
theorem ok_single : okPart n (single n) = true := by
  have h1 : ∀ b ∈ single n, okBlk n b = true := fun b hb => by
    obtain ⟨i, hi, rfl⟩ := List.mem_map.mp hb
    have := List.mem_range.mp hi
    simp [okBlk]; omega
  have h2 : (single n).flatten = List.range n := by
    unfold single
    induction List.range n with
    | nil => rfl
    | cons a l ih => simp [ih]
  have w : (single n).Pairwise fun a b => decide (a.headD 0 < b.headD 0) = true := by
    unfold single
    rw [List.pairwise_map]
    exact List.pairwise_lt_range.imp fun {a b} e => by simpa using e
  simp only [okPart, Bool.and_eq_true, decide_eq_true_eq]
  exact ⟨⟨⟨by simp [single], List.all_eq_true.mpr h1⟩, zip_pair w⟩, List.isPerm_iff.mpr (by rw [h2])⟩
end
section
variable {t k n : Nat} {h h' : Hd}
theorem any_tup {l : List D} {A : Sa} {env : PN.Env} {h1 : Hd} (tp : TapeOk t k h) (hA : A env h = .ok [.ref t, .tup l] h1) (q : Tq t k h h1) (l1 : 1 ≤ l.length) (l2 : l.length ≤ 1000) (it : ∀ d ∈ l, d.it = true) : ∃ d ∈ l, ∃ h', dFn 2 m_law_any A env h = .ok d h' ∧ Tq t k h h' := by
  have big := big_ge
  obtain ⟨v, h', ev, hv, q'⟩ := draw_fn (A := dCons (dVar 0) (dCons (dCall cLen (dCons (dVar 1) dNil)) dNil)) (env := [some (.ref t), some (.tup l)]) (h := h1) (t := t) (k := k) (m := l.length) (dCons_ok rfl (dCons_ok (len_tup rfl (List.prefix_refl _) (by omega)) dNil_ok)) l1 l2 q.tape
  have em : m_law_any [.ref t, .tup l] h1 = .ok l[v] h' := mOf_rt (seq_rt (ret_ok (bin_ok (g := dItem) (x := .tup l) rfl ev (by simp [dItem, L2.atI, ixN, hv]))))
  obtain ⟨h'', g, q''⟩ := fn_val tp hA rfl em (q.trans q') (it _ (List.getElem_mem hv))
  exact ⟨l[v], List.getElem_mem hv, h'', g, q''⟩
theorem nxZipM_at {a b : List D} {m : Nat} (eb : seqAt h m = some b) (j : Nat) : nxZip (nxOf a) (nxLst m) j h = some ((List.zipWith (fun x y => D.tup [x, y]) a b)[j]?) := by
  simp only [nxZip, nxOf, nxLst, eb, List.getElem?_zipWith, Option.map_some]
  cases a[j]? <;> cases b[j]? <;> rfl
/-- the number of a block's list -/
def tNear : Se := dLc (dSeqI (dVar 2)) (dGn 11) (dTru (dCall cAny (dCons (dLc (dSeqI (dVar 10)) (dGn 9) dYes (dBin dIn (dVar 9) (dVar 11)) [9]) dNil))) (dVar 11) [11]
theorem near_ok {one : List (List Nat)} {c : List Nat} (h1 : one.length ≤ 1000) (h2 : c.length ≤ 1000) {x0 x1 x3 x4 x5 x6 x7 x8 x9 x12 : Option D} : ∃ l : List D, l.length ≤ 1000 ∧
    tNear [x0, x1, some (pt one), x3, x4, x5, x6, x7, x8, x9, some (bk c), none, x12] h = .ok (.ref h.length) (h ++ [.lst l]) := by
  have big := big_ge
  have c1 : ∀ b : List Nat, dCall cAny (dCons (dLc (dSeqI (dVar 10)) (dGn 9) dYes (dBin dIn (dVar 9) (dVar 11)) [9]) dNil) [x0, x1, some (pt one), x3, x4, x5, x6, x7, x8, x9, some (bk c), some (bk b), x12] h = .ok (.bl (((c.map fun x => decide (nd x ∈ b.map nd))).any id)) h := fun b => by
    have cc := lc_all (s := dSeqI (dVar 10)) (g := dGn 9) (f := dBin dIn (dVar 9) (dVar 11)) (vs := [9]) (env := [x0, x1, some (pt one), x3, x4, x5, x6, x7, x8, x9, some (bk c), some (bk b), x12]) (h := h) (l := c.map nd) (F := fun d => .bl (decide (d ∈ b.map nd))) (fun d => [x0, x1, some (pt one), x3, x4, x5, x6, x7, x8, some d, some (bk c), some (bk b), x12])
      (seqI_tup rfl) nxOf_at (by simp; omega) (fun d _ => rfl) (fun d hd => by
        obtain ⟨x, hx, rfl⟩ := List.mem_map.mp hd
        exact bin_ok (g := dIn) (x := nd x) (y := bk b) rfl rfl (dIn_tup (nd_it x) (bk_itL b) (by rw [nd_depth]; omega) (Nat.le_trans (nds_dep b) (by omega))))
    have ec : (c.map nd).map (fun d => D.bl (decide (d ∈ b.map nd))) = (c.map fun x => decide (nd x ∈ b.map nd)).map D.bl := by simp [Function.comp_def]
    rw [ec] at cc
    exact dAny_ok cc (List.prefix_refl _)
  have r := lc_map (s := dSeqI (dVar 2)) (g := dGn 11) (t := dTru (dCall cAny (dCons (dLc (dSeqI (dVar 10)) (dGn 9) dYes (dBin dIn (dVar 9) (dVar 11)) [9]) dNil))) (f := dVar 11) (vs := [11]) (env := [x0, x1, some (pt one), x3, x4, x5, x6, x7, x8, x9, some (bk c), none, x12]) (h := h) (l := one.map bk) (F := id)
    (T := fun d => match d with | .tup l => (c.map fun x => decide (nd x ∈ l)).any id | _ => false) (fun d => [x0, x1, some (pt one), x3, x4, x5, x6, x7, x8, x9, some (bk c), some d, x12])
    (seqI_tup rfl) nxOf_at (by simp; omega) (fun d _ => rfl) (fun d hd => by
      obtain ⟨b, hb, rfl⟩ := List.mem_map.mp hd
      exact tru_bl (c1 b)) (fun d hd _ => rfl)
  exact ⟨_, by rw [List.length_map]; exact Nat.le_trans (List.length_filter_le _ _) (by simp; omega), r⟩
end
end K47
namespace K47
open PySem L2 PyProof.Rows PN
section
variable {t k n : Nat} {h h' : Hd}
def tSome : Se := dCall cTuple (dCons (dCall cSort (dCons (dBin dAdd (dLc (dSeqI (dVar 3)) (dGn 10) (dFlag (dBin dNotIn (dVar 10) (dTup (dCons (dVar 5) (dCons (dVar 6) dNil))))) (dVar 10) [10]) (dLst (dCons (dCall cTuple (dCons (dCall cSort (dCons (dBin dAdd (dVar 5) (dVar 6)) dNil)) dNil)) dNil))) dNil)) dNil)
theorem some_ok {p : List (List Nat)} {f l : List Nat} (h7 : n ≤ 7) (ok : okPart n p = true) (hf : f ∈ p) (hl : l ∈ p) (ne : f ≠ l) {x0 x1 x2 x4 x7 x8 x9 x10 x11 x12 : Option D} :
    tSome [x0, x1, x2, some (pt p), x4, some (bk f), some (bk l), x7, x8, x9, x10, x11, x12] h = .ok (pt (mg p f l)) h := by
  have big := big_ge
  obtain ⟨k1, k2, k3⟩ := ok_parts ok
  have bf := blk_parts (k1 f hf)
  have bl := blk_parts (k1 l hl)
  have itfl : D.itL [bk f, bk l] = true := itL_mem.mpr fun d hd => by
    rcases List.mem_cons.mp hd with rfl | hd
    · exact bk_it f
    · rw [List.mem_singleton] at hd; subst hd; exact bk_it l
  have dpfl : D.depthL [bk f, bk l] ≤ 60 := Nat.le_trans (depthL_le (b := 1) fun d hd => by
    rcases List.mem_cons.mp hd with rfl | hd
    · exact bk_depth f
    · rw [List.mem_singleton] at hd; subst hd; exact bk_depth l) (by omega)
  have c1 := lc_map (s := dSeqI (dVar 3)) (g := dGn 10) (t := dFlag (dBin dNotIn (dVar 10) (dTup (dCons (dVar 5) (dCons (dVar 6) dNil))))) (f := dVar 10) (vs := [10]) (env := [x0, x1, x2, some (pt p), x4, some (bk f), some (bk l), x7, x8, x9, x10, x11, x12]) (h := h) (l := p.map bk) (F := id)
    (T := fun d => !decide (d ∈ [bk f, bk l])) (fun d => [x0, x1, x2, some (pt p), x4, some (bk f), some (bk l), x7, x8, x9, some d, x11, x12])
    (seqI_tup rfl) nxOf_at (by simp; omega) (fun d _ => rfl) (fun d hd => by
      obtain ⟨b, hb, rfl⟩ := List.mem_map.mp hd
      refine flag_ok (bin_ok (g := dNotIn) (x := bk b) rfl (tup_ok (dCons_ok rfl (dCons_ok rfl dNil_ok)) (by simp; omega)) ?_)
      simp [dNotIn, in_tup (bk_it b) itfl (Nat.le_trans (bk_depth b) (by omega)) dpfl]) (fun d hd _ => rfl)
  have e1 : ((p.map bk).filter fun d => !decide (d ∈ [bk f, bk l])).map id = (p.filter (fun c => !decide (c = f) && !decide (c = l))).map bk := by
    rw [List.map_id, List.filter_map]
    congr 1
    refine List.filter_congr fun c _ => ?_
    by_cases c1 : c = f
    · subst c1; simp
    · by_cases c2 : c = l
      · subst c2; simp
      · have n1 : bk c ≠ bk f := fun e => c1 (bk_inj e)
        have n2 : bk c ≠ bk l := fun e => c2 (bk_inj e)
        simp [c1, c2, n1, n2]
  rw [e1] at c1
  have m1 : dBin dAdd (dVar 5) (dVar 6) [x0, x1, x2, some (pt p), x4, some (bk f), some (bk l), x7, x8, x9, x10, x11, x12] (h ++ [.lst ((p.filter (fun c => !decide (c = f) && !decide (c = l))).map bk)]) = .ok (bk (f ++ l)) (h ++ [.lst ((p.filter (fun c => !decide (c = f) && !decide (c = l))).map bk)]) := by
    refine bin_ok (g := dAdd) (x := bk f) (y := bk l) rfl rfl ?_
    show dAdd (.tup (f.map nd)) (.tup (l.map nd)) _ = _
    rw [dAdd_tup (by simp; omega), ← List.map_append]
    rfl
  generalize hH : h ++ [Ob.lst ((p.filter (fun c => !decide (c = f) && !decide (c = l))).map bk)] = H at *
  have pH : h <+: H := by rw [← hH]; exact List.prefix_append _ _
  have aH : H[h.length]? = some (.lst ((p.filter (fun c => !decide (c = f) && !decide (c = l))).map bk)) := by rw [← hH]; exact new_at
  have m2 : dCall cTuple (dCons (dCall cSort (dCons (dBin dAdd (dVar 5) (dVar 6)) dNil)) dNil) [x0, x1, x2, some (pt p), x4, some (bk f), some (bk l), x7, x8, x9, x10, x11, x12] H = .ok (bk (srt (f ++ l))) H := by
    have s : dCall cSort (dCons (dBin dAdd (dVar 5) (dVar 6)) dNil) [x0, x1, x2, some (pt p), x4, some (bk f), some (bk l), x7, x8, x9, x10, x11, x12] H = .ok (.ref H.length) (H ++ [.lst ((srt (f ++ l)).map nd)]) := by
      refine dCall_lst (h2 := H ++ [.lst ((srt (f ++ l)).map nd)]) (j := H.length) (dCons_ok m1 dNil_ok) ?_ (List.prefix_append _ _) (Nat.le_refl _) new_at (it_undL _ (bk_itL _))
      show (if sortableB ((f ++ l).map nd) = true ∧ ((f ++ l).map nd).length ≤ BIG then some (D.ref H.length, H ++ [.lst (((f ++ l).map nd).mergeSort leD)]) else none) = _
      rw [if_pos ⟨sortable_nds _, by simp; omega⟩, srt_nd]
    refine dCall_val (dCons_ok s dNil_ok) (h2 := H ++ [.lst ((srt (f ++ l)).map nd)]) ?_ (List.prefix_append _ _) (it_und _ (bk_it _))
    show ((seqD (.ref H.length) (H ++ [.lst ((srt (f ++ l)).map nd)])).bind fun z => some (D.tup z, H ++ [.lst ((srt (f ++ l)).map nd)])) = _
    simp only [seqD, seqAt_of new_at, Option.bind_some]
    rfl
  have m3 := lst_ok (dCons_ok m2 dNil_ok) (by simp; omega)
  have fl := List.length_filter_le (fun c => !decide (c = f) && !decide (c = l)) p
  have m4 := add_lst c1 m3 (app_at aH) new_at (by simp; omega)
  rw [show (p.filter (fun c => !decide (c = f) && !decide (c = l))).map bk ++ [bk (srt (f ++ l))] = (p.filter (fun c => !decide (c = f) && !decide (c = l)) ++ [srt (f ++ l)]).map bk by simp] at m4
  refine srt_call m4 ((pH.trans (List.prefix_append _ _)).trans (List.prefix_append _ _)) new_at (fun b hb => ?_) (by simp; omega)
  rcases List.mem_append.mp hb with hb | hb
  · exact (blk_parts (k1 b (List.mem_filter.mp hb).1)).1
  · rw [List.mem_singleton] at hb; subst hb
    intro e
    have := (srt_perm (f ++ l)).length_eq
    rw [e] at this
    exact bf.1 (List.append_eq_nil_iff.mp (List.eq_nil_of_length_eq_zero this.symm)).1
/-- the lists of blocks for each lot -/
def tLots : Se := dLc (dSeqI (dVar 7)) (dGn 10) dYes tNear [10]
def tMatch : Se := dCall cAll (dCons (dLc (dArgI zip2N (dCons (dVar 7) (dCons (dVar 8) dNil))) (dGtup 2 (dGcons (dGn 10) (dGcons (dGn 12) dGnil))) dYes (dBin dEq (dCall cLen (dCons (dVar 10) dNil)) (dCall cLen (dCons (dVar 12) dNil))) [10, 12]) dNil)
theorem lots_ok {one : List (List Nat)} {S : List (List Nat)} (h1 : one.length ≤ 1000) (hS : S.length ≤ 1000) (hb : ∀ c ∈ S, c.length ≤ 1000) {x0 x1 x3 x4 x5 x6 x8 x9 x10 x12 : Option D} :
    ∃ acc h', tLots [x0, x1, some (pt one), x3, x4, x5, x6, some (pt S), x8, x9, x10, none, x12] h = .ok (.ref h'.length) (h' ++ [.lst acc]) ∧ h <+: h' ∧ acc.length ≤ 1000 ∧ ∀ d ∈ acc, ∃ r l, d = .ref r ∧ h'[r]? = some (.lst l) ∧ l.length ≤ 1000 := by
  have big := big_ge
  obtain ⟨acc, h', e, ⟨p, q⟩, al⟩ := lc_inv (s := dSeqI (dVar 7)) (g := dGn 10) (f := tNear) (vs := [10]) (env := [x0, x1, some (pt one), x3, x4, x5, x6, some (pt S), x8, x9, x10, none, x12]) (h := h) (l := S.map bk)
    (P := fun j acc h' => h <+: h' ∧ ∀ d ∈ acc, ∃ r l, d = .ref r ∧ h'[r]? = some (.lst l) ∧ l.length ≤ 1000)
    (seqI_tup rfl) ⟨List.prefix_refl _, by simp⟩ (fun j acc h' _ => rfl) (by simp; omega) (by
      rintro j d acc h2 ed ⟨p, q⟩ ha
      obtain ⟨c, hc, rfl⟩ := List.mem_map.mp (List.mem_of_getElem? ed)
      obtain ⟨l, hl, e⟩ := near_ok (h := h2) (one := one) (c := c) h1 (hb c hc) (x0 := x0) (x1 := x1) (x3 := x3) (x4 := x4) (x5 := x5) (x6 := x6) (x7 := some (pt S)) (x8 := x8) (x9 := x9) (x12 := x12)
      refine ⟨_, _, _, rfl, e, pre_app p, fun d hd => ?_⟩
      rcases List.mem_append.mp hd with hd | hd
      · obtain ⟨r, l, rfl, e1, e2⟩ := q d hd
        exact ⟨r, l, rfl, app_at e1, e2⟩
      · rw [List.mem_singleton] at hd; subst hd
        exact ⟨_, l, rfl, new_at, hl⟩)
  exact ⟨acc, h', e, p, by rw [al]; simpa using hS, q⟩
theorem match_ok {S : List (List Nat)} {acc : List D} {r : Nat} (hS : S.length ≤ 1000) (hb : ∀ c ∈ S, c.length ≤ 1000) (er : h[r]? = some (.lst acc)) (ha : ∀ d ∈ acc, ∃ r l, d = .ref r ∧ h[r]? = some (.lst l) ∧ l.length ≤ 1000) {x0 x1 x2 x3 x4 x5 x6 x9 x10 x11 x12 : Option D} :
    ∃ b, tMatch [x0, x1, x2, x3, x4, x5, x6, some (pt S), some (.ref r), x9, x10, x11, x12] h = .ok (.bl b) h := by
  have big := big_ge
  obtain ⟨res, h', e, ⟨rfl, bs, rfl⟩, al⟩ := lc_inv (s := dArgI zip2N (dCons (dVar 7) (dCons (dVar 8) dNil))) (g := dGtup 2 (dGcons (dGn 10) (dGcons (dGn 12) dGnil))) (f := dBin dEq (dCall cLen (dCons (dVar 10) dNil)) (dCall cLen (dCons (dVar 12) dNil))) (vs := [10, 12])
    (env := [x0, x1, x2, x3, x4, x5, x6, some (pt S), some (.ref r), x9, x10, x11, x12]) (h := h) (h1 := h) (nx := nxZip (nxOf (S.map bk)) (nxLst r)) (l := List.zipWith (fun x y => D.tup [x, y]) (S.map bk) acc)
    (P := fun j res h' => h' = h ∧ ∃ bs : List Bool, res = bs.map D.bl)
    (by
      show Rs.bind (Rs.ok [pt S, .ref r] h) _ = _
      simp only [Rs.bind_ok, pt, zip2N, seqAt_of er, Option.map_some, ofN]) ⟨rfl, [], rfl⟩ (fun j res h' ⟨eh, _⟩ => by subst eh; exact nxZipM_at (seqAt_of er) j) (by simp only [List.length_zipWith, List.length_map]; omega) (by
      rintro j d res h2 ed ⟨rfl, bs, rfl⟩ hl
      obtain ⟨x, hx, y, hy, rfl⟩ := mem_zipWith (List.mem_of_getElem? ed)
      obtain ⟨c, hc, rfl⟩ := List.mem_map.mp hx
      obtain ⟨r', l, rfl, e1, e2⟩ := ha y hy
      refine ⟨[x0, x1, x2, x3, x4, x5, x6, some (pt S), some (.ref r), x9, some (bk c), x11, some (.ref r')], .bl (decide (D.int c.length = D.int l.length)), h2, rfl, ?_, rfl, bs ++ [decide (D.int c.length = D.int l.length)], by simp⟩
      have q1 : dCall cLen (dCons (dVar 10) dNil) [x0, x1, x2, x3, x4, x5, x6, some (pt S), some (.ref r), x9, some (bk c), x11, some (.ref r')] h2 = .ok (.int c.length) h2 := by
        have := len_tup (f := dVar 10) (env := [x0, x1, x2, x3, x4, x5, x6, some (pt S), some (.ref r), x9, some (bk c), x11, some (.ref r')]) (h := h2) (h1 := h2) (l := c.map nd) rfl (List.prefix_refl _) (by have := hb c hc; simp; omega)
        rwa [List.length_map] at this
      exact bin_ok (g := dEq) q1 (len_lst rfl (List.prefix_refl _) e1 (by omega)) (dEq_it rfl rfl (by simp [D.depth]) (by simp [D.depth])))
  exact ⟨_, dAll_ok e (List.prefix_refl _)⟩
def tIn : Ss := dSeq (dAsg tSome (dGn 7)) <| dSeq (dAsg tLots (dGn 8)) <| dSeq (dIfS (dTru tMatch) (dSeq (dAsg (dVar 7) (dGn 3)) dSkip) dSkip) dSkip
def tTurn : Ss := dSeq (dAsg (dTup (dCons (dFn 2 m_law_any (dCons (dVar 0) (dCons (dVar 3) dNil))) (dCons (dFn 2 m_law_any (dCons (dVar 0) (dCons (dVar 3) dNil))) dNil))) (gOnly (dGtup 2 (dGcons (dGn 5) (dGcons (dGn 6) dGnil))))) <|
  dSeq (dIfS (dAndT (dFlag (dBin dNe (dVar 5) (dVar 6))) (dFlag (dBin dGt (dBin dAdd (dCall cLen (dCons (dVar 2) dNil)) (dCall cLen (dCons (dVar 3) dNil))) (dBin dAdd (dVar 1) (dC (.int 1)))))) tIn dSkip) dSkip
theorem f_meeting_eq : f_law_meeting = dSeq (dAsg (dCall cTuple (dCons (dLc (dRngI rng1 (dCons (dVar 1) dNil)) (dGn 9) dYes (dTup (dCons (dVar 9) dNil)) [9]) dNil)) (dGn 3)) (dSeq (dFor (dRngI rng1 (dCons (dBin dMul (dC (.int 4)) (dVar 1)) dNil)) (dGn 4) tTurn) (dSeq (dRet (dVar 3)) dSkip)) := rfl
theorem single_call {f : Se} {env : PN.Env} {v : Nat} (hn : n ≤ 7) (c : dLc (dRngI rng1 (dCons f dNil)) (dGn v) dYes (dTup (dCons (dVar v) dNil)) [v] env h = .ok (.ref h.length) (h ++ [.lst ((single n).map bk)])) :
    dCall cTuple (dCons (dLc (dRngI rng1 (dCons f dNil)) (dGn v) dYes (dTup (dCons (dVar v) dNil)) [v]) dNil) env h = .ok (pt (single n)) h := by
  refine dCall_val (dCons_ok c dNil_ok) (h2 := h ++ [.lst ((single n).map bk)]) ?_ (List.prefix_append _ _) (it_und _ (pt_it _))
  show ((seqD (.ref h.length) (h ++ [.lst ((single n).map bk)])).bind fun l => some (D.tup l, h ++ [.lst ((single n).map bk)])) = _
  simp only [seqD, seqAt_of new_at, Option.bind_some]
  rfl
theorem single_lc {env : PN.Env} {v i : Nat} (hn : n ≤ 7) (hi : env[i]? = some (some (nd n))) (hv : v < env.length) (hw : ∀ d, ((wipeE env [v]).set v (some d))[v]? = some (some d)) :
    dLc (dRngI rng1 (dCons (dVar i) dNil)) (dGn v) dYes (dTup (dCons (dVar v) dNil)) [v] env h = .ok (.ref h.length) (h ++ [.lst ((single n).map bk)]) := by
  have big := big_ge
  have c := lc_all (s := dRngI rng1 (dCons (dVar i) dNil)) (g := dGn v) (f := dTup (dCons (dVar v) dNil)) (vs := [v]) (env := env) (h := h) (l := (List.range n).map fun i => D.int (0 + (i : Nat))) (F := fun d => .tup [d]) (fun d => (wipeE env [v]).set v (some d))
    (rngI_1 (n := n) (by simp only [dVar, hi]; rfl) (rb_lt (by omega))) nxRng_at (by simp; omega) (fun d _ => rfl) (fun d hd => tup_ok (dCons_ok (by simp only [dVar, hw d]) dNil_ok) (by simp; omega))
  rw [c]
  congr 4
  unfold single
  rw [List.map_map, List.map_map]
  refine List.map_congr_left fun i _ => ?_
  simp [bk, nd]
end
end K47
namespace K47
open PySem L2 PyProof.Rows PN
section
variable {t k n : Nat} {h h' : Hd}
theorem mem_bks {d : D} {p : List (List Nat)} (hd : d ∈ p.map bk) : ∃ b ∈ p, d = bk b := by
  obtain ⟨b, hb, e⟩ := List.mem_map.mp hd
  exact ⟨b, hb, e.symm⟩
theorem part_len {p : List (List Nat)} (h1 : 1 ≤ n) (ok : okPart n p = true) : 1 ≤ p.length := by
  obtain ⟨k1, k2, k3⟩ := ok_parts ok
  cases p with
  | nil =>
    have := k2.length_eq
    simp at this
    omega
  | cons => simp
theorem in_ok {one p : List (List Nat)} {f l : List Nat} (h7 : n ≤ 7) (ok1 : okPart n one = true) (ok : okPart n p = true) (hf : f ∈ p) (hl : l ∈ p) (ne : f ≠ l) {x4 x7 x8 x9 x10 x12 : Option D} :
    ∃ (p' : List (List Nat)) (y7 y8 : Option D) (h' : Hd), tIn [some (.ref t), some (nd n), some (pt one), some (pt p), x4, some (bk f), some (bk l), x7, x8, x9, x10, none, x12] h = .nx [some (.ref t), some (nd n), some (pt one), some (pt p'), x4, some (bk f), some (bk l), y7, y8, x9, x10, none, x12] h' ∧ h <+: h' ∧ okPart n p' = true := by
  have ok2 := ok_mg ok hf hl ne
  obtain ⟨a1, a2, a3⟩ := ok_parts ok1
  obtain ⟨b1, b2, b3⟩ := ok_parts ok2
  have s1 := asg_n (i := 7) (some_ok (n := n) (h := h) h7 ok hf hl ne (x0 := some (.ref t)) (x1 := some (nd n)) (x2 := some (pt one)) (x4 := x4) (x7 := x7) (x8 := x8) (x9 := x9) (x10 := x10) (x11 := none) (x12 := x12))
  have lb : ∀ c ∈ mg p f l, c.length ≤ 1000 := fun c hc => by have := (blk_parts (b1 c hc)).2.1; omega
  obtain ⟨acc, h', e2, p2, al, aa⟩ := lots_ok (h := h) (one := one) (S := mg p f l) (by omega) (by omega) lb (x0 := some (.ref t)) (x1 := some (nd n)) (x3 := some (pt p)) (x4 := x4) (x5 := some (bk f)) (x6 := some (bk l)) (x8 := x8) (x9 := x9) (x10 := x10) (x12 := x12)
  have s2 := asg_n (i := 8) e2
  obtain ⟨b, e3⟩ := match_ok (h := h' ++ [.lst acc]) (S := mg p f l) (acc := acc) (r := h'.length) (by omega) lb new_at (fun d hd => by
    obtain ⟨r, l, rfl, e1, e2⟩ := aa d hd
    exact ⟨r, l, rfl, app_at e1, e2⟩) (x0 := some (.ref t)) (x1 := some (nd n)) (x2 := some (pt one)) (x3 := some (pt p)) (x4 := x4) (x5 := some (bk f)) (x6 := some (bk l)) (x9 := x9) (x10 := x10) (x11 := none) (x12 := x12)
  have e4 := tru_bl e3
  cases b with
  | true =>
    refine ⟨mg p f l, _, _, h' ++ [.lst acc], (seq_nx s1).trans ((seq_nx s2).trans ((seq_nx (e1 := [some (.ref t), some (nd n), some (pt one), some (pt (mg p f l)), x4, some (bk f), some (bk l), some (pt (mg p f l)), some (.ref h'.length), x9, x10, none, x12]) (h1 := h' ++ [.lst acc]) ?_).trans rfl)), pre_app p2, ok2⟩
    exact (if_t e4).trans ((seq_nx (asg_n (i := 3) (f := dVar 7) (d := pt (mg p f l)) rfl)).trans rfl)
  | false =>
    refine ⟨p, _, _, h' ++ [.lst acc], (seq_nx s1).trans ((seq_nx s2).trans ((seq_nx (e1 := [some (.ref t), some (nd n), some (pt one), some (pt p), x4, some (bk f), some (bk l), some (pt (mg p f l)), some (.ref h'.length), x9, x10, none, x12]) (h1 := h' ++ [.lst acc]) ?_).trans rfl)), pre_app p2, ok⟩
    exact (if_f e4).trans rfl
theorem meeting_ok {one : List (List Nat)} (tp : TapeOk t k h) (h1 : 1 ≤ n) (h7 : n ≤ 7) (ok1 : okPart n one = true) : ∃ (p : List (List Nat)) (h' : Hd), m_law_meeting [.ref t, nd n, pt one] h = .ok (pt p) h' ∧ Tq t k h h' ∧ okPart n p = true := by
  have big := big_ge
  obtain ⟨a1, a2, a3⟩ := ok_parts ok1
  have key := m_wpE (N := 13) (b := f_law_meeting) (ds := [.ref t, nd n, pt one]) (h := h) (Q := fun d h' => ∃ p, d = pt p ∧ Tq t k h h' ∧ okPart n p = true) [some (.ref t), some (nd n), some (pt one), none, none, none, none, none, none, none, none, none, none] rfl (by
    rw [f_meeting_eq]
    refine w_seq (w_asg (Rs.wp_of (single_call (n := n) h7 (single_lc h7 rfl (by simp) fun d => rfl)) (w_gn rfl ?_)))
    refine w_seq (w_for ((List.range (4 * n)).map fun i => D.int (0 + (i : Nat))) (fun j e h' => ∃ (p : List (List Nat)) (x4 x5 x6 x7 x8 x9 x10 x12 : Option D), e = [some (.ref t), some (nd n), some (pt one), some (pt p), x4, x5, x6, x7, x8, x9, x10, none, x12] ∧ okPart n p = true ∧ Tq t k h h') sgo_n
      (Rs.wp_of (rngI_1 (n := 4 * n) (h1 := h) (bin_ok (g := dMul) (x := .int 4) (y := nd n) (d := .int ((4 * n : Nat) : Int)) rfl rfl ?_) (rb_lt (by omega))) ⟨⟨single n, none, none, none, none, none, none, none, none, rfl, ok_single, Tq.refl tp⟩, by simp; omega, fun j e h _ => nxRng_at j⟩) ?_ ?_)
    · rw [show nd n = D.int (n : Int) from rfl, mul_ok (.inl (by omega))]
      simp
    · rintro j d e h1 ed ⟨p, x4, x5, x6, x7, x8, x9, x10, x12, rfl, ok, q⟩
      obtain ⟨b1, b2, b3⟩ := ok_parts ok
      have pl := part_len ‹1 ≤ n› ok
      refine w_gn rfl ?_
      have an : ∀ (h2 : Hd), Tq t k h1 h2 → ∃ b ∈ p, ∃ h3, dFn 2 m_law_any (dCons (dVar 0) (dCons (dVar 3) dNil)) [some (.ref t), some (nd n), some (pt one), some (pt p), some d, x5, x6, x7, x8, x9, x10, none, x12] h2 = .ok (bk b) h3 ∧ Tq t k h1 h3 := fun h2 q2 => by
        obtain ⟨y, hy, h3, e3, q3⟩ := any_tup (t := t) (k := k) (h := h2) (l := p.map bk) (A := dCons (dVar 0) (dCons (dVar 3) dNil)) (env := [some (.ref t), some (nd n), some (pt one), some (pt p), some d, x5, x6, x7, x8, x9, x10, none, x12]) q2.tape rfl (Tq.refl q2.tape) (by simpa using pl) (by simp; omega) (fun d hd => by
          obtain ⟨b, _, rfl⟩ := mem_bks hd; exact bk_it b)
        obtain ⟨b, hb, rfl⟩ := mem_bks hy
        exact ⟨b, hb, h3, e3, q2.trans q3⟩
      obtain ⟨f, hf, h2, e2, q2⟩ := an h1 (Tq.refl q.tape)
      obtain ⟨l, hl, h3, e3, q3⟩ := an h2 q2
      have qq := q.trans q3
      refine w_seq (w_asg (x_tup' (x_cons' (Rs.wp_of e2 (x_cons' (Rs.wp_of e3 (x_nil' ⟨by simp; omega, w_only (w_gtup rfl (w_gcons (w_gn rfl (w_gcons (w_gn rfl (w_gnil ?_))))))⟩)))))))
      have b5 := (blk_parts (b1 f hf)).2.1
      have c1 : dFlag (dBin dNe (dVar 5) (dVar 6)) [some (.ref t), some (nd n), some (pt one), some (pt p), some d, some (bk f), some (bk l), x7, x8, x9, x10, none, x12] h3 = .ok (!decide (bk f = bk l)) h3 := flag_ok (bin_ok (g := dNe) rfl rfl (dNe_it (bk_it f) (bk_it l) (Nat.le_trans (bk_depth f) (by omega)) (Nat.le_trans (bk_depth l) (by omega))))
      refine w_seq (w_if (x_andT' (Rs.wp_of c1 ⟨fun hc => ?_, fun hc => ?_⟩)))
      · have ne : f ≠ l := fun e => by subst e; simp at hc
        have l1 : dCall cLen (dCons (dVar 2) dNil) [some (.ref t), some (nd n), some (pt one), some (pt p), some d, some (bk f), some (bk l), x7, x8, x9, x10, none, x12] h3 = .ok (.int (one.map bk).length) h3 := len_tup rfl (List.prefix_refl _) (by simp; omega)
        have l2 : dCall cLen (dCons (dVar 3) dNil) [some (.ref t), some (nd n), some (pt one), some (pt p), some d, some (bk f), some (bk l), x7, x8, x9, x10, none, x12] h3 = .ok (.int (p.map bk).length) h3 := len_tup rfl (List.prefix_refl _) (by simp; omega)
        have c2 : ∃ b, dFlag (dBin dGt (dBin dAdd (dCall cLen (dCons (dVar 2) dNil)) (dCall cLen (dCons (dVar 3) dNil))) (dBin dAdd (dVar 1) (dC (.int 1)))) [some (.ref t), some (nd n), some (pt one), some (pt p), some d, some (bk f), some (bk l), x7, x8, x9, x10, none, x12] h3 = .ok b h3 :=
          ⟨_, flag_ok (bin_ok (g := dGt) (bin_ok (g := dAdd) l1 l2 rfl) (bin_ok (g := dAdd) (x := nd n) (y := .int 1) rfl rfl rfl) rfl)⟩
        obtain ⟨b, c2⟩ := c2
        refine Rs.wp_of c2 ?_
        cases b with
        | true =>
          rw [if_pos rfl]
          obtain ⟨p', y7, y8, h4, e4, pre, ok'⟩ := in_ok (t := t) (n := n) (h := h3) (one := one) (p := p) (f := f) (l := l) h7 ok1 ok hf hl ne (x4 := some d) (x7 := x7) (x8 := x8) (x9 := x9) (x10 := x10) (x12 := x12)
          refine w_of e4 (w_nx (w_skip ⟨p', _, _, _, _, _, _, _, _, rfl, ok', ?_⟩))
          obtain ⟨z, rfl⟩ := pre
          exact qq.app
        | false =>
          rw [if_neg (by simp)]
          exact w_skip (w_skip ⟨p, _, _, _, _, _, _, _, _, rfl, ok, qq⟩)
      · rw [if_neg (by simp)]
        exact w_skip (w_skip ⟨p, _, _, _, _, _, _, _, _, rfl, ok, qq⟩)
    · rintro e h1 ⟨p, x4, x5, x6, x7, x8, x9, x10, x12, rfl, ok, q⟩
      exact w_seq (w_ret (x_var' rfl ⟨p, rfl, q, ok⟩)))
  obtain ⟨d, h', e, p, rfl, r⟩ := key
  exact ⟨p, h', e, r⟩
end
end K47
namespace K47
open PySem L2 PyProof.Rows PN
section
variable {t k n : Nat} {h h' : Hd}
theorem check_many_ok (h1 : 1 ≤ n) (h7 : n ≤ 7) : m_check_many [nd n] h = .ok .non h := by
  have e : dFn 3 m_is_within (dCons (dVar 0) (dCons (dC (.int 1)) (dCons (dC (.int 7)) dNil))) [some (nd n)] h = .ok (.bl true) h := by
    refine (dFn_val (dCons_ok rfl (dCons_ok rfl (dCons_ok rfl dNil_ok))) rfl (is_within_int _ _ _ h) (List.prefix_refl h) rfl).trans ?_
    simp; omega
  exact mOf_nx ((seq_nx (if_f (notT_ok (tru_bl e)))).trans rfl)
/-- the program's own answer -/
theorem pdo_ok {p q : List (List Nat)} (h1 : 1 ≤ n) (h7 : n ≤ 7) (hp : okPart n p = true) (hq : okPart n q = true) : ∃ h', m_do_meet [nd n, pt p, pt q] h = .ok (.bl (meets n p q)) h' ∧ h <+: h' := by
  have big := big_ge
  obtain ⟨d, h', e, rfl, pr⟩ := m_wpE (N := 4) (b := f_do_meet) (ds := [nd n, pt p, pt q]) (h := h) (Q := fun d h' => d = .bl (meets n p q) ∧ h <+: h') [some (nd n), some (pt p), some (pt q), none] rfl (by
    unfold f_do_meet
    refine w_seq (w_drop (Rs.wp_of (dFn_val (dCons_ok rfl dNil_ok) rfl (check_many_ok h1 h7) (List.prefix_refl h) rfl) ?_))
    refine w_seq (w_for [pt p, pt q] (fun j e h' => h' = h ∧ ∃ x, e = [some (nd n), some (pt p), some (pt q), x]) sgo_n
      (Rs.wp_of (seqI_tup (tup_ok (dCons_ok rfl (dCons_ok rfl dNil_ok)) (by simp; omega))) ⟨⟨rfl, none, rfl⟩, by simp; omega, fun j e h _ => rfl⟩) ?_ ?_)
    · rintro j d e h2 ed ⟨rfl, x, rfl⟩
      obtain ⟨r, rfl, hr⟩ : ∃ r, d = pt r ∧ okPart n r = true := by
        match j, ed with
        | 0, ed => cases ed; exact ⟨p, rfl, hp⟩
        | 1, ed => cases ed; exact ⟨q, rfl, hq⟩
      refine w_gn rfl (w_seq (w_of (if_f (notT_ok (tru_bl (b := true) (dFn_val (dCons_ok rfl (dCons_ok rfl dNil_ok)) rfl (is_partition_ok n r h2 h7 hr) (pre_app (List.prefix_append _ _)) rfl)))) (w_skip (w_skip ⟨rfl, _, rfl⟩))))
    · rintro e h2 ⟨rfl, x, rfl⟩
      obtain ⟨h3, e3, p3⟩ := meet_ok (pa_of h1 h7 hp) (pa_of h1 h7 hq) h2
      exact w_seq (w_ret (Rs.wp_of (dFn_val (dCons_ok rfl (dCons_ok rfl (dCons_ok rfl dNil_ok))) rfl e3 p3 rfl) ⟨rfl, List.prefix_refl _⟩)))
  exact ⟨h', e, pr⟩
theorem pdo_fn {p q : List (List Nat)} (h1 : 1 ≤ n) (h7 : n ≤ 7) (hp : okPart n p = true) (hq : okPart n q = true) {A : Sa} {env : PN.Env} (hA : A env h = .ok [nd n, pt p, pt q] h) : dFn 3 m_do_meet A env h = .ok (.bl (meets n p q)) h := by
  obtain ⟨h', e, pr⟩ := pdo_ok (h := h) h1 h7 hp hq
  exact dFn_val hA rfl e pr rfl
theorem ldo_fn {p q : List (List Nat)} (h1 : 1 ≤ n) (h7 : n ≤ 7) (hp : okPart n p = true) (hq : okPart n q = true) {A : Sa} {env : PN.Env} (hA : A env h = .ok [nd n, pt p, pt q] h) : dFn 3 m_law_do_meet A env h = .ok (.bl (meets n p q)) h := by
  obtain ⟨h', e, pr⟩ := do_meet_ok (pa_of h1 h7 hp) (pa_of h1 h7 hq) h
  exact dFn_val hA rfl e pr rfl
theorem mixed_fn {A : Sa} {env : PN.Env} (tp : TapeOk t k h) (h7 : n ≤ 7) (hA : A env h = .ok [.ref t, .ref h.length] (h ++ [.lst ((List.range n).map nd)])) : ∃ (σ : List Nat) (j : Nat) (h' : Hd), dFn 2 m_law_mixed A env h = .ok (.ref j) h' ∧ Tq t k h h' ∧ Ky t k h' j (.lst (σ.map nd)) ∧ σ.Perm (List.range n) := by
  have a := Tq.add tp [Ob.lst ((List.range n).map nd)]
  obtain ⟨j, σ, h2, e, q, hj, ej, pm⟩ := mixed_ok (t := t) (k := k) (l := List.range n) a.tape (Ky.new tp) (by simp; omega)
  have lt := tp.lt
  rw [List.length_append] at hj
  obtain ⟨j', h', g, q', ky⟩ := fn_lst tp hA rfl e (a.trans q) (by omega) ej (bk_itL σ) (by omega) (by omega)
  exact ⟨σ, j', h', g, q', ky, pm⟩
theorem bl_eq {b c : Bool} : dEq (.bl b) (.bl c) h = some (.bl (decide (b = c)), h) := by
  cases b <;> cases c <;> simp [dEq, dEqB, rd, D.py, SeqAt.shaped, PyData.eqv, D.flat, D.strsOk, D.und, PyData.canLay0, PyData.depth, PyData.canLay]
theorem bl_ne {b c : Bool} : dNe (.bl b) (.bl c) h = some (.bl (!decide (b = c)), h) := by
  cases b <;> cases c <;> simp [dNe, dEqB, rd, D.py, SeqAt.shaped, PyData.eqv, D.flat, D.strsOk, D.und, PyData.canLay0, PyData.depth, PyData.canLay]
theorem pair_ok {p q : List (List Nat)} (tp : TapeOk t k h) (h1 : 1 ≤ n) (h7 : n ≤ 7) (hp : okPart n p = true) (hq : okPart n q = true) : ∃ h', m_law_pair_right [.ref t, nd n, pt p, pt q] h = .ok (.bl true) h' ∧ Tq t k h h' := by
  have big := big_ge
  have sy := meets_symm (pa_of h1 h7 hp) (pa_of h1 h7 hq)
  obtain ⟨d, h', e, rfl, pr⟩ := m_wpE (N := 7) (b := f_law_pair_right) (ds := [.ref t, nd n, pt p, pt q]) (h := h) (Q := fun d h' => d = .bl true ∧ Tq t k h h') [some (.ref t), some (nd n), some (pt p), some (pt q), none, none, none] rfl (by
    unfold f_law_pair_right
    have e1 := ldo_fn (h := h) h1 h7 hp hq (A := dCons (dVar 1) (dCons (dVar 2) (dCons (dVar 3) dNil))) (env := [some (.ref t), some (nd n), some (pt p), some (pt q), none, none, none]) rfl
    obtain ⟨σ, j, h2, e2, q2, ky, pm⟩ := mixed_fn (t := t) (k := k) (n := n) (A := dCons (dVar 0) (dCons (dLRg (dVar 1)) dNil)) (env := [some (.ref t), some (nd n), some (pt p), some (pt q), none, none, none]) (h := h) tp h7 (dCons_ok rfl (dCons_ok (lrg_ok (n := n) rfl (by omega)) dNil_ok))
    refine w_seq (w_par (x_cons' (Rs.wp_of e1 (x_cons' (Rs.wp_of e2 (x_nil' ⟨_, _, rfl, ?_⟩))))))
    show Ro.wp (dSeq _ _ [some (.ref t), some (nd n), some (pt p), some (pt q), some (.bl (meets n p q)), some (.ref j), none] h2) _ _ _
    have e3 := pdo_fn (h := h2) h1 h7 hp hq (A := dCons (dVar 1) (dCons (dVar 2) (dCons (dVar 3) dNil))) (env := [some (.ref t), some (nd n), some (pt p), some (pt q), some (.bl (meets n p q)), some (.ref j), none]) rfl
    have e4 := pdo_fn (h := h2) h1 h7 hq hp (A := dCons (dVar 1) (dCons (dVar 3) (dCons (dVar 2) dNil))) (env := [some (.ref t), some (nd n), some (pt p), some (pt q), some (.bl (meets n p q)), some (.ref j), none]) rfl
    rw [← sy] at e4
    refine w_seq (w_for [.bl (meets n p q), .bl (meets n p q)] (fun _ e h' => h' = h2 ∧ ∃ x, e = [some (.ref t), some (nd n), some (pt p), some (pt q), some (.bl (meets n p q)), some (.ref j), x]) sgo_n
      (Rs.wp_of (seqI_tup (tup_ok (dCons_ok e3 (dCons_ok e4 dNil_ok)) (by simp; omega))) ⟨⟨rfl, none, rfl⟩, by simp; omega, fun j e h _ => rfl⟩) ?_ ?_)
    · rintro i d e h3 ed ⟨rfl, x, rfl⟩
      obtain rfl : d = .bl (meets n p q) := by
        match i, ed with
        | 0, ed => cases ed; rfl
        | 1, ed => cases ed; rfl
      have c1 : dIsi "bool" (dVar 6) [some (.ref t), some (nd n), some (pt p), some (pt q), some (.bl (meets n p q)), some (.ref j), some (.bl (meets n p q))] h3 = .ok (.bl true) h3 := rfl
      have c2 : dBin dNe (dVar 6) (dVar 4) [some (.ref t), some (nd n), some (pt p), some (pt q), some (.bl (meets n p q)), some (.ref j), some (.bl (meets n p q))] h3 = .ok (.bl false) h3 := bin_ok (g := dNe) rfl rfl (bl_ne.trans (by simp))
      exact w_gn rfl (w_seq (w_of (if_f ((orT_f (notT_ok (tru_bl c1))).trans (flag_ok c2))) (w_skip (w_skip ⟨rfl, _, rfl⟩))))
    · rintro e h3 ⟨rfl, x, rfl⟩
      have r1 := fun (p : List (List Nat)) (hp : okPart n p = true) => renamed_ok (h := h3) pm h7 ky.2.2 hp
      have f1 : dFn 2 m_law_renamed (dCons (dVar 2) (dCons (dVar 5) dNil)) [some (.ref t), some (nd n), some (pt p), some (pt q), some (.bl (meets n p q)), some (.ref j), x] h3 = .ok (pt (renP σ p)) h3 := dFn_val (dCons_ok rfl (dCons_ok rfl dNil_ok)) rfl (r1 p hp) (List.prefix_refl _) (it_und _ (pt_it _))
      have f2 : dFn 2 m_law_renamed (dCons (dVar 3) (dCons (dVar 5) dNil)) [some (.ref t), some (nd n), some (pt p), some (pt q), some (.bl (meets n p q)), some (.ref j), x] h3 = .ok (pt (renP σ q)) h3 := dFn_val (dCons_ok rfl (dCons_ok rfl dNil_ok)) rfl (r1 q hq) (List.prefix_refl _) (it_und _ (pt_it _))
      have f3 := pdo_fn (h := h3) h1 h7 (ok_renP pm hp) (ok_renP pm hq) (A := dCons (dVar 1) (dCons (dFn 2 m_law_renamed (dCons (dVar 2) (dCons (dVar 5) dNil))) (dCons (dFn 2 m_law_renamed (dCons (dVar 3) (dCons (dVar 5) dNil))) dNil))) (env := [some (.ref t), some (nd n), some (pt p), some (pt q), some (.bl (meets n p q)), some (.ref j), x]) (dCons_ok rfl (dCons_ok f1 (dCons_ok f2 dNil_ok)))
      rw [meets_ren pm h1 h7 hp hq] at f3
      exact w_seq (w_ret (Rs.wp_of (bin_ok (g := dEq) (fb := dVar 4) f3 rfl bl_eq) ⟨by simp, q2⟩)))
  exact ⟨h', e, pr⟩
end
end K47
namespace K47
open PySem L2 PyProof.Rows PN
/-! ## one block, all single -/
theorem adj_pair {α : Type} {f : α → α → Bool} (tr : ∀ a b c, f a b = true → f b c = true → f a c = true) : ∀ {l : List α}, (List.zipWith f l (l.drop 1)).all id = true → l.Pairwise fun a b => f a b = true
  | [], _ => List.Pairwise.nil
  | [a], _ => List.pairwise_singleton _ _
  | a :: b :: l, h => by
    simp only [List.drop_succ_cons, List.drop_zero, List.zipWith_cons_cons, List.all_cons, id, Bool.and_eq_true] at h
    have ih := adj_pair tr (l := b :: l) h.2
    have ih' := List.pairwise_cons.mp ih
    refine List.pairwise_cons.mpr ⟨fun c hc => ?_, ih⟩
    rcases List.mem_cons.mp hc with rfl | hc
    · exact h.1
    · exact tr a b c h.1 (ih'.1 c hc)
theorem ones : ∀ {q : List (List Nat)}, (∀ b ∈ q, b ≠ []) → q.flatten.length ≤ q.length → ∃ l : List Nat, q = l.map fun i => [i]
  | [], _, _ => ⟨[], rfl⟩
  | b :: q, h, hl => by
    have len : ∀ q : List (List Nat), (∀ b ∈ q, b ≠ []) → q.length ≤ q.flatten.length := fun q => by
      induction q with
      | nil => intro _; simp
      | cons b q ih =>
        intro h
        have := ih fun c hc => h c (List.mem_cons_of_mem _ hc)
        have : 0 < b.length := List.length_pos_iff.mpr (h b List.mem_cons_self)
        simp only [List.flatten_cons, List.length_cons, List.length_append]
        omega
    have h2 := len q fun c hc => h c (List.mem_cons_of_mem _ hc)
    have h3 : 0 < b.length := List.length_pos_iff.mpr (h b List.mem_cons_self)
    simp only [List.flatten_cons, List.length_cons, List.length_append] at hl
    obtain ⟨l, rfl⟩ := ones (fun c hc => h c (List.mem_cons_of_mem _ hc)) (show q.flatten.length ≤ q.length by omega)
    obtain ⟨x, rfl⟩ := List.length_eq_one_iff.mp (show b.length = 1 by omega)
    exact ⟨x :: l, rfl⟩
section
variable {n : Nat} {p : List (List Nat)}
theorem all_single (ok : okPart n p = true) (hl : p.length = n) : p = single n := by
  obtain ⟨k1, k2, k3⟩ := ok_parts ok
  have fl := k2.length_eq
  rw [List.length_range] at fl
  obtain ⟨l, rfl⟩ := ones (fun b hb => blk_ne (k1 b hb)) (by omega)
  have f1 : ((l.map fun i => [i]).flatten) = l := by
    clear ok hl k1 k2 k3 fl
    induction l with
    | nil => rfl
    | cons a l ih => simp [ih]
  rw [f1] at k2
  simp only [okPart, Bool.and_eq_true] at ok
  have pw := adj_pair (fun a b c h1 h2 => by simp only [decide_eq_true_eq] at *; omega) ok.1.2
  rw [List.pairwise_map] at pw
  have : l = List.range n := by
    refine List.Perm.eq_of_pairwise (le := fun a b => a ≤ b) (fun a b _ _ h1 h2 => by omega) (pw.imp fun {a b} e => ?_) (List.pairwise_lt_range.imp fun {a b} e => by omega) k2
    have e' : a < b := by simpa using e
    omega
  rw [this]
  rfl
theorem single_len : (single n).length = n := by simp [single]
theorem conn_whole {b : List Nat} {q r : List (List Nat)} (hb : b ∈ q ++ r) (all : ∀ x, x < n → x ∈ b) : Conn n q r := fun Q cl x y hx hy qx => cl b hb x (all x hx) y (all y hy) qx
theorem ok_whole (h1 : 1 ≤ n) : okPart n [List.range n] = true := by
  have : okBlk n (List.range n) = true := by
    simp only [okBlk, Bool.and_eq_true, Bool.not_eq_true', decide_eq_true_eq, List.all_eq_true]
    refine ⟨⟨⟨?_, by simp⟩, fun x hx => List.mem_range.mp hx⟩, List.all_eq_true.mp (zip_pair (List.pairwise_lt_range.imp fun {a b} e => by simpa using e))⟩
    cases n with
    | zero => omega
    | succ n => simp [List.range_succ]
  simp only [okPart, Bool.and_eq_true, decide_eq_true_eq]
  exact ⟨⟨⟨by simpa using h1, by simp [this]⟩, rfl⟩, List.isPerm_iff.mpr (by simp)⟩
theorem meets_whole (h1 : 1 ≤ n) (h7 : n ≤ 7) (ok : okPart n p = true) : meets n [List.range n] p = decide (pt p = pt (single n)) := by
  rw [Bool.eq_iff_iff, meets_iff (pa_of h1 h7 (ok_whole h1)) (pa_of h1 h7 ok), decide_eq_true_eq]
  constructor
  · rintro ⟨a, _⟩
    rw [all_single ok (by simp at a; omega)]
  · intro e
    have := pt_inj e
    subst this
    exact ⟨by rw [single_len]; simp; omega, conn_whole (b := List.range n) (by simp) fun x hx => List.mem_range.mpr hx⟩
theorem meets_single (h1 : 1 ≤ n) (h7 : n ≤ 7) (ok : okPart n p = true) : meets n p (single n) = decide (p.length = 1) := by
  obtain ⟨k1, k2, k3⟩ := ok_parts ok
  rw [Bool.eq_iff_iff, meets_iff (pa_of h1 h7 ok) (pa_of h1 h7 ok_single), decide_eq_true_eq, single_len]
  constructor
  · rintro ⟨a, _⟩
    omega
  · intro e
    obtain ⟨b, rfl⟩ := List.length_eq_one_iff.mp e
    refine ⟨by simp; omega, conn_whole (b := b) (by simp) fun x hx => ?_⟩
    have := (k2.mem_iff (a := x)).mpr (List.mem_range.mpr hx)
    simpa using this
end
end K47
namespace K47
open PySem L2 PyProof.Rows PN
section
variable {t k n : Nat} {h h' : Hd}
theorem fn_bl {n t k : Nat} {m : Mf} {A : Sa} {env : PN.Env} {h h1 h2 : Hd} {l : List D} {b : Bool} (tp : TapeOk t k h) (hA : A env h = .ok l h1) (hn : l.length = n) (hm : m l h1 = .ok (.bl b) h2) (q : Tq t k h h2) : ∃ h', dFn n m A env h = .ok (.bl b) h' ∧ Tq t k h h' := by
  obtain ⟨h', g, q'⟩ := gc_tq q tp (d := .bl b) rfl
  exact ⟨h', by simp only [dFn, hA, Rs.bind_ok, hn, if_true, hm, g], q'⟩
theorem bl_ne_self {b : Bool} {h : Hd} : dNe (.bl b) (.bl b) h = some (.bl false, h) := bl_ne.trans (by simp)
theorem int_one {a : Nat} : decide (D.int (a : Int) = D.int 1) = decide (a = 1) := by
  rw [decide_eq_decide]
  constructor
  · intro e; injection e with e; omega
  · intro e; rw [e]; rfl
theorem is_not {b : Bool} {h : Hd} : dIsNot (.bl b) (.bl b) h = some (.bl false, h) := by cases b <;> rfl
theorem pdo_is {p q : List (List Nat)} {b : Bool} {f : Sa} {env : PN.Env} (h1 : 1 ≤ n) (h7 : n ≤ 7) (hp : okPart n p = true) (hq : okPart n q = true) (hm : meets n p q = b) (hA : f env h = .ok [nd n, pt p, pt q] h) : dFlag (dBin dIsNot (dFn 3 m_do_meet f) (dC (.bl b))) env h = .ok false h := by
  subst hm
  exact flag_ok (bin_ok (g := dIsNot) (pdo_fn h1 h7 hp hq hA) rfl is_not)
theorem every_fn (h1 : 1 ≤ n) (h7 : n ≤ 7) {i : Nat} {env : PN.Env} (hi : env[i]? = some (some (nd n))) : dFn 1 m_law_parted (dCons (dLRg (dVar i)) dNil) env h = .ok (.ref h.length) (h ++ [.lst (sp n)]) := by
  obtain ⟨h', e, p⟩ := parted_ok (n := n) (r := h.length) h1 h7 (h ++ [.lst ((List.range n).map nd)]) new_at
  have p' : h <+: h' := (List.prefix_append _ _).trans p
  exact dFn_lst (dCons_ok (lrg_ok (n := n) (h1 := h) (by simp only [dVar, hi]) (by omega)) dNil_ok) rfl e (pre_app p') p'.length_le new_at (it_undL _ (sp_itL n))
theorem sp_ok (h1 : 1 ≤ n) (h7 : n ≤ 7) {d : D} (hd : d ∈ sp n) : ∃ p, d = pt p ∧ okPart n p = true := by
  obtain ⟨p, hp, e⟩ := sp_mem.mp hd
  exact ⟨p, e.symm, List.all_eq_true.mp (parts_ok n h1 h7) p hp⟩
theorem all_pairs (h1 : 1 ≤ n) (h7 : n ≤ 7) {ev : Nat} (eev : h[ev]? = some (.lst (sp n))) {x0 x1 x4 x5 x6 x7 x8 : Option D} :
    dCall cAll (dCons (dLc (dSeqI (dVar 3)) (dGn 5) dYes (dCall cAll (dCons (dLc (dSeqI (dVar 3)) (dGn 7) dYes (dBin dEq (dFn 3 m_do_meet (dCons (dVar 2) (dCons (dVar 5) (dCons (dVar 7) dNil)))) (dFn 3 m_law_do_meet (dCons (dVar 2) (dCons (dVar 5) (dCons (dVar 7) dNil))))) [7]) dNil)) [5]) dNil) [x0, x1, some (nd n), some (.ref ev), x4, x5, x6, x7, x8] h = .ok (.bl true) h := by
  have big := big_ge
  have ln := sp_len n
  have pl := parts_len n h7
  have rep : ∀ l : List D, l.map (fun _ => D.bl true) = (l.map fun _ => true).map D.bl := fun l => by simp
  have tr : ∀ l : List D, (l.map fun _ => true).all id = true := fun l => by simp
  have inner : ∀ {d y5 : D}, d ∈ sp n → dCall cAll (dCons (dLc (dSeqI (dVar 3)) (dGn 7) dYes (dBin dEq (dFn 3 m_do_meet (dCons (dVar 2) (dCons (dVar 5) (dCons (dVar 7) dNil)))) (dFn 3 m_law_do_meet (dCons (dVar 2) (dCons (dVar 5) (dCons (dVar 7) dNil))))) [7]) dNil) [x0, x1, some (nd n), some (.ref ev), x4, some d, x6, x7, x8] h = .ok (.bl true) h := fun {d _} hd => by
    obtain ⟨p, rfl, hp⟩ := sp_ok h1 h7 hd
    have c := lc_all (s := dSeqI (dVar 3)) (g := dGn 7) (f := dBin dEq (dFn 3 m_do_meet (dCons (dVar 2) (dCons (dVar 5) (dCons (dVar 7) dNil)))) (dFn 3 m_law_do_meet (dCons (dVar 2) (dCons (dVar 5) (dCons (dVar 7) dNil))))) (vs := [7]) (env := [x0, x1, some (nd n), some (.ref ev), x4, some (pt p), x6, x7, x8]) (h := h) (l := sp n) (F := fun _ => .bl true)
      (fun d => [x0, x1, some (nd n), some (.ref ev), x4, some (pt p), x6, some d, x8]) (seqI_ref rfl (seqAt_of eev)) (nxLst_at (seqAt_of eev)) (by omega) (fun d _ => rfl) (fun d hd => by
        obtain ⟨q, rfl, hq⟩ := sp_ok h1 h7 hd
        exact bin_ok (g := dEq) (pdo_fn h1 h7 hp hq rfl) (ldo_fn h1 h7 hp hq rfl) (bl_eq.trans (by simp)))
    rw [rep] at c
    exact (dAll_ok c (List.prefix_refl _)).trans (by rw [tr])
  have c := lc_all (s := dSeqI (dVar 3)) (g := dGn 5) (f := dCall cAll (dCons (dLc (dSeqI (dVar 3)) (dGn 7) dYes (dBin dEq (dFn 3 m_do_meet (dCons (dVar 2) (dCons (dVar 5) (dCons (dVar 7) dNil)))) (dFn 3 m_law_do_meet (dCons (dVar 2) (dCons (dVar 5) (dCons (dVar 7) dNil))))) [7]) dNil)) (vs := [5]) (env := [x0, x1, some (nd n), some (.ref ev), x4, x5, x6, x7, x8]) (h := h) (l := sp n) (F := fun _ => .bl true)
      (fun d => [x0, x1, some (nd n), some (.ref ev), x4, some d, x6, x7, x8]) (seqI_ref rfl (seqAt_of eev)) (nxLst_at (seqAt_of eev)) (by omega) (fun d _ => rfl) (fun d hd => inner (y5 := d) hd)
  rw [rep] at c
  exact (dAll_ok c (List.prefix_refl _)).trans (by rw [tr])
theorem trg_ok {f : Se} {env : PN.Env} (hn : n ≤ 1000) (e : f env h = .ok (.int (n : Int)) h) : dTRg f env h = .ok (bk (List.range n)) h := by
  unfold dTRg
  rw [e, Rs.bind_ok]
  refine (if_pos (rg_ok (by omega))).trans ?_
  rw [rgD_nat]
  rfl
end
theorem plain : ∀ ns : List Int, ns.length ≤ 63 → ∃ h, m_law [.ref 0] [.frz (ns.map D.int)] = .ok (.bl true) h := by
  intro ns _
  have big := big_ge
  obtain ⟨t, k, h1, e1, tp⟩ := tape_ok ns
  obtain ⟨d, h', e, rfl⟩ := m_wpE (N := 9) (b := f_law) (ds := [.ref 0]) (h := [.frz (ns.map D.int)]) (Q := fun d h' => d = .bl true) [some (.ref 0), none, none, none, none, none, none, none, none] rfl (by
    unfold f_law
    refine w_seq (w_asg (Rs.wp_of (v := .ref t) (h1 := h1) ?_ (w_gn rfl ?_)))
    · have hA : dCons (dVar 0) dNil [some (.ref 0), none, none, none, none, none, none, none, none] [Ob.frz (ns.map D.int)] = .ok [.ref 0] [.frz (ns.map D.int)] := rfl
      simp only [dFn, hA, Rs.bind_ok, List.length_cons, List.length_nil, if_true, e1]
      exact gc_tape tp
    refine w_seq (w_of (if_f ((orT_f (pdo_is (n := 3) (p := [[0, 1], [2]]) (q := [[0], [1, 2]]) (by omega) (by omega) rfl rfl (by decide +kernel) rfl)).trans (pdo_is (n := 4) (p := [[0, 1], [2, 3]]) (q := [[0, 1], [2], [3]]) (by omega) (by omega) rfl rfl (by decide +kernel) rfl))) (w_skip ?_))
    refine w_seq (w_of (if_f ((orT_f (pdo_is (n := 1) (p := [[0]]) (q := [[0]]) (by omega) (by omega) rfl rfl (by decide +kernel) rfl)).trans (pdo_is (n := 2) (p := [[0, 1]]) (q := [[0, 1]]) (by omega) (by omega) rfl rfl (by decide +kernel) rfl))) (w_skip ?_))
    refine w_seq (w_for [nd 1, nd 2, nd 3] (fun _ e h' => TapeOk t k h' ∧ ∃ x2 x3, e = [some (.ref 0), some (.ref t), x2, x3, none, none, none, none, none]) sgo_n
      (Rs.wp_of (seqI_tup rfl) ⟨⟨tp, none, none, rfl⟩, by simp; omega, fun j e h _ => rfl⟩) ?_ ?_)
    · rintro j d e h2 ed ⟨tp2, x2, x3, rfl⟩
      obtain ⟨n, rfl, n1, n7⟩ : ∃ n, d = nd n ∧ 1 ≤ n ∧ n ≤ 7 := by
        match j, ed with
        | 0, ed => cases ed; exact ⟨1, rfl, by omega, by omega⟩
        | 1, ed => cases ed; exact ⟨2, rfl, by omega, by omega⟩
        | 2, ed => cases ed; exact ⟨3, rfl, by omega, by omega⟩
      refine w_gn rfl (w_seq (w_asg (Rs.wp_of (every_fn (n := n) n1 n7 rfl) (w_gn rfl ?_))))
      exact w_seq (w_of (if_f (notT_ok (tru_bl (all_pairs (n := n) n1 n7 (ev := h2.length) new_at)))) (w_skip (w_skip ⟨(Tq.add tp2 _).tape, _, _, rfl⟩)))
    · rintro e h2 ⟨tp2, x2, x3, rfl⟩
      refine w_seq (w_for ((List.range 6).map fun i => D.int (0 + (i : Nat))) (fun _ e h' => TapeOk t k h' ∧ ∃ x2 x3 x4 x5 x6 x7 x8, e = [some (.ref 0), some (.ref t), x2, x3, x4, x5, x6, x7, x8]) sgo_n
        (Rs.wp_of (rngI_1 (n := 6) rfl (rb_lt (by omega))) ⟨⟨tp2, _, _, _, _, _, _, _, rfl⟩, by simp; omega, fun j e h _ => nxRng_at j⟩) ?_ ?_)
      · rintro j d e h3 _ ⟨tp3, y2, y3, y4, y5, y6, y7, y8, rfl⟩
        obtain ⟨v, h4, e4, hv, q4⟩ := draw_fn (A := dCons (dVar 1) (dCons (dC (.int 6)) dNil)) (env := [some (.ref 0), some (.ref t), y2, y3, some d, y5, y6, y7, y8]) (h := h3) (t := t) (k := k) (m := 6) rfl (by omega) (by omega) tp3
        obtain ⟨n, hn⟩ : ∃ n, n = 2 + v := ⟨_, rfl⟩
        refine w_gn rfl (w_seq (w_asg (Rs.wp_of (bin_ok (g := dAdd) (x := .int 2) (d := nd n) rfl e4 (show dAdd (.int 2) (.int v) h4 = some (nd n, h4) from by subst hn; simp [dAdd, nd])) (w_gn rfl ?_))))
        have n1 : 1 ≤ n := by omega
        have n7 : n ≤ 7 := by omega
        obtain ⟨p, h5, m5, q5, ok5⟩ := drawn_ok (n := n) q4.tape n7
        obtain ⟨h6, e6, q6⟩ := fn_val (n := 2) (A := dCons (dVar 1) (dCons (dVar 2) dNil)) (env := [some (.ref 0), some (.ref t), some (nd n), y3, some d, y5, y6, y7, y8]) q4.tape rfl rfl m5 q5 (pt_it p)
        refine w_seq (w_par (x_cons' (Rs.wp_of e6 (x_cons' (Rs.wp_of (single_call (n := n) n7 (single_lc n7 rfl (by simp) fun d => rfl)) (x_nil' ⟨_, _, rfl, ?_⟩))))))
        show Ro.wp (dSeq _ _ [some (.ref 0), some (.ref t), some (nd n), y3, some d, some (pt p), some (pt (single n)), y7, y8] h6) _ _ _
        have dr : ∀ h0, TapeOk t k h0 → ∃ q h', dFn 2 m_law_drawn (dCons (dVar 1) (dCons (dVar 2) dNil)) [some (.ref 0), some (.ref t), some (nd n), y3, some d, some (pt p), some (pt (single n)), y7, y8] h0 = .ok (pt q) h' ∧ okPart n q = true ∧ TapeOk t k h' := fun h0 tp0 => by
          obtain ⟨q, h', m, q', ok⟩ := drawn_ok (n := n) tp0 n7
          obtain ⟨h'', e, q''⟩ := fn_val (n := 2) (A := dCons (dVar 1) (dCons (dVar 2) dNil)) (env := [some (.ref 0), some (.ref t), some (nd n), y3, some d, some (pt p), some (pt (single n)), y7, y8]) tp0 rfl rfl m q' (pt_it q)
          exact ⟨q, h'', e, ok, q''.tape⟩
        have me : ∀ h0, TapeOk t k h0 → ∃ q h', dFn 3 m_law_meeting (dCons (dVar 1) (dCons (dVar 2) (dCons (dVar 5) dNil))) [some (.ref 0), some (.ref t), some (nd n), y3, some d, some (pt p), some (pt (single n)), y7, y8] h0 = .ok (pt q) h' ∧ okPart n q = true ∧ TapeOk t k h' := fun h0 tp0 => by
          obtain ⟨q, h', m, q', ok⟩ := meeting_ok (n := n) tp0 n1 n7 ok5
          obtain ⟨h'', e, q''⟩ := fn_val (n := 3) (A := dCons (dVar 1) (dCons (dVar 2) (dCons (dVar 5) dNil))) (env := [some (.ref 0), some (.ref t), some (nd n), y3, some d, some (pt p), some (pt (single n)), y7, y8]) tp0 rfl rfl m q' (pt_it q)
          exact ⟨q, h'', e, ok, q''.tape⟩
        obtain ⟨r1, g1, a1, o1, t1⟩ := dr h6 q6.tape
        obtain ⟨r2, g2, a2, o2, t2⟩ := me g1 t1
        obtain ⟨r3, g3, a3, o3, t3⟩ := me g2 t2
        refine w_seq (w_for [pt r1, pt r2, pt r3] (fun _ e h' => TapeOk t k h' ∧ ∃ x7, e = [some (.ref 0), some (.ref t), some (nd n), y3, some d, some (pt p), some (pt (single n)), x7, y8]) sgo_n
          (Rs.wp_of (seqI_tup (tup_ok (dCons_ok a1 (dCons_ok a2 (dCons_ok a3 dNil_ok))) (by simp; omega))) ⟨⟨t3, _, rfl⟩, by simp; omega, fun j e h _ => rfl⟩) ?_ ?_)
        · rintro i d' e h7 ed ⟨tp7, x7, rfl⟩
          obtain ⟨r, rfl, okr⟩ : ∃ r, d' = pt r ∧ okPart n r = true := by
            match i, ed with
            | 0, ed => cases ed; exact ⟨r1, rfl, o1⟩
            | 1, ed => cases ed; exact ⟨r2, rfl, o2⟩
            | 2, ed => cases ed; exact ⟨r3, rfl, o3⟩
          obtain ⟨h8, m8, q8⟩ := pair_ok (p := p) (q := r) tp7 n1 n7 ok5 okr
          obtain ⟨h9, e9, q9⟩ := fn_bl (n := 4) (A := dCons (dVar 1) (dCons (dVar 2) (dCons (dVar 5) (dCons (dVar 7) dNil)))) (env := [some (.ref 0), some (.ref t), some (nd n), y3, some d, some (pt p), some (pt (single n)), some (pt r), y8]) tp7 rfl rfl m8 q8
          exact w_gn rfl (w_seq (w_of (if_f (notT_ok (tru_bl e9))) (w_skip (w_skip ⟨q9.tape, _, rfl⟩))))
        · rintro e h7 ⟨tp7, x7, rfl⟩
          have f1 := pdo_fn (n := n) (h := h7) (p := [List.range n]) (q := p) n1 n7 (ok_whole n1) ok5 (A := dCons (dVar 2) (dCons (dTup (dCons (dTRg (dVar 2)) dNil)) (dCons (dVar 5) dNil))) (env := [some (.ref 0), some (.ref t), some (nd n), y3, some d, some (pt p), some (pt (single n)), x7, y8])
            (dCons_ok rfl (dCons_ok (tup_ok (dCons_ok (trg_ok (by omega) rfl) dNil_ok) (by simp; omega)) (dCons_ok rfl dNil_ok)))
          rw [meets_whole n1 n7 ok5] at f1
          have f2 := pdo_fn (n := n) (h := h7) (p := p) (q := single n) n1 n7 ok5 ok_single (A := dCons (dVar 2) (dCons (dVar 5) (dCons (dVar 6) dNil))) (env := [some (.ref 0), some (.ref t), some (nd n), y3, some d, some (pt p), some (pt (single n)), x7, y8]) rfl
          rw [meets_single n1 n7 ok5] at f2
          have g2' : dBin dEq (dVar 5) (dVar 6) [some (.ref 0), some (.ref t), some (nd n), y3, some d, some (pt p), some (pt (single n)), x7, y8] h7 = .ok (.bl (decide (pt p = pt (single n)))) h7 := bin_ok (g := dEq) rfl rfl (dEq_it (pt_it _) (pt_it _) (Nat.le_trans (pt_depth _) (by omega)) (Nat.le_trans (pt_depth _) (by omega)))
          have c1 := flag_ok (bin_ok (g := dNe) f1 g2' bl_ne_self)
          have l5 : dCall cLen (dCons (dVar 5) dNil) [some (.ref 0), some (.ref t), some (nd n), y3, some d, some (pt p), some (pt (single n)), x7, y8] h7 = .ok (.int (p.map bk).length) h7 := len_tup rfl (List.prefix_refl _) (by have := (ok_parts ok5).2.2; simp; omega)
          have g3' : dBin dEq (dCall cLen (dCons (dVar 5) dNil)) (dC (.int 1)) [some (.ref 0), some (.ref t), some (nd n), y3, some d, some (pt p), some (pt (single n)), x7, y8] h7 = .ok (.bl (decide (p.length = 1))) h7 := by
            refine bin_ok (g := dEq) (y := .int 1) l5 rfl ((dEq_it rfl rfl (by simp [D.depth]) (by simp [D.depth])).trans ?_)
            rw [List.length_map, int_one]
          have c2 := flag_ok (bin_ok (g := dNe) f2 g3' bl_ne_self)
          exact w_seq (w_of (if_f ((orT_f c1).trans c2)) (w_skip (w_skip ⟨tp7, _, _, _, _, _, _, _, rfl⟩)))
      · rintro e h3 ⟨tp3, y2, y3, y4, y5, y6, y7, y8, rfl⟩
        exact w_seq (w_ret (x_c' rfl)))
  exact ⟨h', e⟩
end K47
namespace K47
open PySem L2 PyProof.Rows PN
/-! ## what the top has written -/
theorem all_mk {l : PySem.W.OpenLaw} {w : World} {K : PySem.W.Frag} {h : Heap} {mg : Str → Option Value} {fa : Addr} (KI : K.In h) (G : h.Ns mainGlobals mg) (hfa : mg "law" = some (.ref fa))
    {f0 : Addr} {od0 an0 : Option Addr} {sl0 : Array (Option Value)} {oc0 kV0 dc0 pm0 cd0 ct0 : Value}
    (a0 : PySem.W.nsIn K mainGlobals "_law_tape" = some (some (.ref f0)))
    (l0 : K.lookup f0 = some ⟨oc0, od0, .func (PySem.W.fnOf "_law_tape" "_law_tape" (defArgs s_law_tape) (defBody s_law_tape) (defScope s_law_tape) .none kV0 dc0 pm0 an0 cd0 ct0), sl0⟩) (c0 : PySem.W.codeIn K cd0 "_law_tape" = true) (k0 : PySem.W.keepIn K (.ref f0) = true)
    {f1 : Addr} {od1 an1 : Option Addr} {sl1 : Array (Option Value)} {oc1 kV1 dc1 pm1 cd1 ct1 : Value}
    (a1 : PySem.W.nsIn K mainGlobals "_law_parted" = some (some (.ref f1)))
    (l1 : K.lookup f1 = some ⟨oc1, od1, .func (PySem.W.fnOf "_law_parted" "_law_parted" (defArgs s_law_parted) (defBody s_law_parted) (defScope s_law_parted) .none kV1 dc1 pm1 an1 cd1 ct1), sl1⟩) (c1 : PySem.W.codeIn K cd1 "_law_parted" = true) (k1 : PySem.W.keepIn K (.ref f1) = true)
    {f2 : Addr} {od2 an2 : Option Addr} {sl2 : Array (Option Value)} {oc2 kV2 dc2 pm2 cd2 ct2 : Value}
    (a2 : PySem.W.nsIn K mainGlobals "is_integer" = some (some (.ref f2)))
    (l2 : K.lookup f2 = some ⟨oc2, od2, .func (PySem.W.fnOf "is_integer" "is_integer" (defArgs s_is_integer) (defBody s_is_integer) (defScope s_is_integer) .none kV2 dc2 pm2 an2 cd2 ct2), sl2⟩) (c2 : PySem.W.codeIn K cd2 "is_integer" = true) (k2 : PySem.W.keepIn K (.ref f2) = true)
    {f3 : Addr} {od3 an3 : Option Addr} {sl3 : Array (Option Value)} {oc3 kV3 dc3 pm3 cd3 ct3 : Value}
    (a3 : PySem.W.nsIn K mainGlobals "is_within" = some (some (.ref f3)))
    (l3 : K.lookup f3 = some ⟨oc3, od3, .func (PySem.W.fnOf "is_within" "is_within" (defArgs s_is_within) (defBody s_is_within) (defScope s_is_within) .none kV3 dc3 pm3 an3 cd3 ct3), sl3⟩) (c3 : PySem.W.codeIn K cd3 "is_within" = true) (k3 : PySem.W.keepIn K (.ref f3) = true)
    {f4 : Addr} {od4 an4 : Option Addr} {sl4 : Array (Option Value)} {oc4 kV4 dc4 pm4 cd4 ct4 : Value}
    (a4 : PySem.W.nsIn K mainGlobals "check_many" = some (some (.ref f4)))
    (l4 : K.lookup f4 = some ⟨oc4, od4, .func (PySem.W.fnOf "check_many" "check_many" (defArgs s_check_many) (defBody s_check_many) (defScope s_check_many) .none kV4 dc4 pm4 an4 cd4 ct4), sl4⟩) (c4 : PySem.W.codeIn K cd4 "check_many" = true) (k4 : PySem.W.keepIn K (.ref f4) = true)
    {f5 : Addr} {od5 an5 : Option Addr} {sl5 : Array (Option Value)} {oc5 kV5 dc5 pm5 cd5 ct5 : Value}
    (a5 : PySem.W.nsIn K mainGlobals "root_of" = some (some (.ref f5)))
    (l5 : K.lookup f5 = some ⟨oc5, od5, .func (PySem.W.fnOf "root_of" "root_of" (defArgs s_root_of) (defBody s_root_of) (defScope s_root_of) .none kV5 dc5 pm5 an5 cd5 ct5), sl5⟩) (c5 : PySem.W.codeIn K cd5 "root_of" = true) (k5 : PySem.W.keepIn K (.ref f5) = true)
    {f6 : Addr} {od6 an6 : Option Addr} {sl6 : Array (Option Value)} {oc6 kV6 dc6 pm6 cd6 ct6 : Value}
    (a6 : PySem.W.nsIn K mainGlobals "is_tree" = some (some (.ref f6)))
    (l6 : K.lookup f6 = some ⟨oc6, od6, .func (PySem.W.fnOf "is_tree" "is_tree" (defArgs s_is_tree) (defBody s_is_tree) (defScope s_is_tree) .none kV6 dc6 pm6 an6 cd6 ct6), sl6⟩) (c6 : PySem.W.codeIn K cd6 "is_tree" = true) (k6 : PySem.W.keepIn K (.ref f6) = true)
    {f7 : Addr} {od7 an7 : Option Addr} {sl7 : Array (Option Value)} {oc7 kV7 dc7 pm7 cd7 ct7 : Value}
    (a7 : PySem.W.nsIn K mainGlobals "meet" = some (some (.ref f7)))
    (l7 : K.lookup f7 = some ⟨oc7, od7, .func (PySem.W.fnOf "meet" "meet" (defArgs s_meet) (defBody s_meet) (defScope s_meet) .none kV7 dc7 pm7 an7 cd7 ct7), sl7⟩) (c7 : PySem.W.codeIn K cd7 "meet" = true) (k7 : PySem.W.keepIn K (.ref f7) = true)
    {f8 : Addr} {od8 an8 : Option Addr} {sl8 : Array (Option Value)} {oc8 kV8 dc8 pm8 cd8 ct8 : Value}
    (a8 : PySem.W.nsIn K mainGlobals "are_ascending" = some (some (.ref f8)))
    (l8 : K.lookup f8 = some ⟨oc8, od8, .func (PySem.W.fnOf "are_ascending" "are_ascending" (defArgs s_are_ascending) (defBody s_are_ascending) (defScope s_are_ascending) .none kV8 dc8 pm8 an8 cd8 ct8), sl8⟩) (c8 : PySem.W.codeIn K cd8 "are_ascending" = true) (k8 : PySem.W.keepIn K (.ref f8) = true)
    {f9 : Addr} {od9 an9 : Option Addr} {sl9 : Array (Option Value)} {oc9 kV9 dc9 pm9 cd9 ct9 : Value}
    (a9 : PySem.W.nsIn K mainGlobals "is_tuple" = some (some (.ref f9)))
    (l9 : K.lookup f9 = some ⟨oc9, od9, .func (PySem.W.fnOf "is_tuple" "is_tuple" (defArgs s_is_tuple) (defBody s_is_tuple) (defScope s_is_tuple) .none kV9 dc9 pm9 an9 cd9 ct9), sl9⟩) (c9 : PySem.W.codeIn K cd9 "is_tuple" = true) (k9 : PySem.W.keepIn K (.ref f9) = true)
    {f10 : Addr} {od10 an10 : Option Addr} {sl10 : Array (Option Value)} {oc10 kV10 dc10 pm10 cd10 ct10 : Value}
    (a10 : PySem.W.nsIn K mainGlobals "is_block" = some (some (.ref f10)))
    (l10 : K.lookup f10 = some ⟨oc10, od10, .func (PySem.W.fnOf "is_block" "is_block" (defArgs s_is_block) (defBody s_is_block) (defScope s_is_block) .none kV10 dc10 pm10 an10 cd10 ct10), sl10⟩) (c10 : PySem.W.codeIn K cd10 "is_block" = true) (k10 : PySem.W.keepIn K (.ref f10) = true)
    {f11 : Addr} {od11 an11 : Option Addr} {sl11 : Array (Option Value)} {oc11 kV11 dc11 pm11 cd11 ct11 : Value}
    (a11 : PySem.W.nsIn K mainGlobals "is_partition" = some (some (.ref f11)))
    (l11 : K.lookup f11 = some ⟨oc11, od11, .func (PySem.W.fnOf "is_partition" "is_partition" (defArgs s_is_partition) (defBody s_is_partition) (defScope s_is_partition) .none kV11 dc11 pm11 an11 cd11 ct11), sl11⟩) (c11 : PySem.W.codeIn K cd11 "is_partition" = true) (k11 : PySem.W.keepIn K (.ref f11) = true)
    {f12 : Addr} {od12 an12 : Option Addr} {sl12 : Array (Option Value)} {oc12 kV12 dc12 pm12 cd12 ct12 : Value}
    (a12 : PySem.W.nsIn K mainGlobals "do_meet" = some (some (.ref f12)))
    (l12 : K.lookup f12 = some ⟨oc12, od12, .func (PySem.W.fnOf "do_meet" "do_meet" (defArgs s_do_meet) (defBody s_do_meet) (defScope s_do_meet) .none kV12 dc12 pm12 an12 cd12 ct12), sl12⟩) (c12 : PySem.W.codeIn K cd12 "do_meet" = true) (k12 : PySem.W.keepIn K (.ref f12) = true)
    {f13 : Addr} {od13 an13 : Option Addr} {sl13 : Array (Option Value)} {oc13 kV13 dc13 pm13 cd13 ct13 : Value}
    (a13 : PySem.W.nsIn K mainGlobals "_law_draw" = some (some (.ref f13)))
    (l13 : K.lookup f13 = some ⟨oc13, od13, .func (PySem.W.fnOf "_law_draw" "_law_draw" (defArgs s_law_draw) (defBody s_law_draw) (defScope s_law_draw) .none kV13 dc13 pm13 an13 cd13 ct13), sl13⟩) (c13 : PySem.W.codeIn K cd13 "_law_draw" = true) (k13 : PySem.W.keepIn K (.ref f13) = true)
    {f14 : Addr} {od14 an14 : Option Addr} {sl14 : Array (Option Value)} {oc14 kV14 dc14 pm14 cd14 ct14 : Value}
    (a14 : PySem.W.nsIn K mainGlobals "_law_drawn" = some (some (.ref f14)))
    (l14 : K.lookup f14 = some ⟨oc14, od14, .func (PySem.W.fnOf "_law_drawn" "_law_drawn" (defArgs s_law_drawn) (defBody s_law_drawn) (defScope s_law_drawn) .none kV14 dc14 pm14 an14 cd14 ct14), sl14⟩) (c14 : PySem.W.codeIn K cd14 "_law_drawn" = true) (k14 : PySem.W.keepIn K (.ref f14) = true)
    {f15 : Addr} {od15 an15 : Option Addr} {sl15 : Array (Option Value)} {oc15 kV15 dc15 pm15 cd15 ct15 : Value}
    (a15 : PySem.W.nsIn K mainGlobals "_law_any" = some (some (.ref f15)))
    (l15 : K.lookup f15 = some ⟨oc15, od15, .func (PySem.W.fnOf "_law_any" "_law_any" (defArgs s_law_any) (defBody s_law_any) (defScope s_law_any) .none kV15 dc15 pm15 an15 cd15 ct15), sl15⟩) (c15 : PySem.W.codeIn K cd15 "_law_any" = true) (k15 : PySem.W.keepIn K (.ref f15) = true)
    {f16 : Addr} {od16 an16 : Option Addr} {sl16 : Array (Option Value)} {oc16 kV16 dc16 pm16 cd16 ct16 : Value}
    (a16 : PySem.W.nsIn K mainGlobals "_law_meeting" = some (some (.ref f16)))
    (l16 : K.lookup f16 = some ⟨oc16, od16, .func (PySem.W.fnOf "_law_meeting" "_law_meeting" (defArgs s_law_meeting) (defBody s_law_meeting) (defScope s_law_meeting) .none kV16 dc16 pm16 an16 cd16 ct16), sl16⟩) (c16 : PySem.W.codeIn K cd16 "_law_meeting" = true) (k16 : PySem.W.keepIn K (.ref f16) = true)
    {f17 : Addr} {od17 an17 : Option Addr} {sl17 : Array (Option Value)} {oc17 kV17 dc17 pm17 cd17 ct17 : Value}
    (a17 : PySem.W.nsIn K mainGlobals "_law_do_meet" = some (some (.ref f17)))
    (l17 : K.lookup f17 = some ⟨oc17, od17, .func (PySem.W.fnOf "_law_do_meet" "_law_do_meet" (defArgs s_law_do_meet) (defBody s_law_do_meet) (defScope s_law_do_meet) .none kV17 dc17 pm17 an17 cd17 ct17), sl17⟩) (c17 : PySem.W.codeIn K cd17 "_law_do_meet" = true) (k17 : PySem.W.keepIn K (.ref f17) = true)
    {f18 : Addr} {od18 an18 : Option Addr} {sl18 : Array (Option Value)} {oc18 kV18 dc18 pm18 cd18 ct18 : Value}
    (a18 : PySem.W.nsIn K mainGlobals "_law_mixed" = some (some (.ref f18)))
    (l18 : K.lookup f18 = some ⟨oc18, od18, .func (PySem.W.fnOf "_law_mixed" "_law_mixed" (defArgs s_law_mixed) (defBody s_law_mixed) (defScope s_law_mixed) .none kV18 dc18 pm18 an18 cd18 ct18), sl18⟩) (c18 : PySem.W.codeIn K cd18 "_law_mixed" = true) (k18 : PySem.W.keepIn K (.ref f18) = true)
    {f19 : Addr} {od19 an19 : Option Addr} {sl19 : Array (Option Value)} {oc19 kV19 dc19 pm19 cd19 ct19 : Value}
    (a19 : PySem.W.nsIn K mainGlobals "_law_renamed" = some (some (.ref f19)))
    (l19 : K.lookup f19 = some ⟨oc19, od19, .func (PySem.W.fnOf "_law_renamed" "_law_renamed" (defArgs s_law_renamed) (defBody s_law_renamed) (defScope s_law_renamed) .none kV19 dc19 pm19 an19 cd19 ct19), sl19⟩) (c19 : PySem.W.codeIn K cd19 "_law_renamed" = true) (k19 : PySem.W.keepIn K (.ref f19) = true)
    {f20 : Addr} {od20 an20 : Option Addr} {sl20 : Array (Option Value)} {oc20 kV20 dc20 pm20 cd20 ct20 : Value}
    (a20 : PySem.W.nsIn K mainGlobals "_law_pair_right" = some (some (.ref f20)))
    (l20 : K.lookup f20 = some ⟨oc20, od20, .func (PySem.W.fnOf "_law_pair_right" "_law_pair_right" (defArgs s_law_pair_right) (defBody s_law_pair_right) (defScope s_law_pair_right) .none kV20 dc20 pm20 an20 cd20 ct20), sl20⟩) (c20 : PySem.W.codeIn K cd20 "_law_pair_right" = true) (k20 : PySem.W.keepIn K (.ref f20) = true)
    {f21 : Addr} {od21 an21 : Option Addr} {sl21 : Array (Option Value)} {oc21 kV21 dc21 pm21 cd21 ct21 : Value}
    (a21 : PySem.W.nsIn K mainGlobals "law" = some (some (.ref f21)))
    (l21 : K.lookup f21 = some ⟨oc21, od21, .func (PySem.W.fnOf "law" "law" (defArgs s_law) (defBody s_law) (defScope s_law) .none kV21 dc21 pm21 an21 cd21 ct21), sl21⟩) (c21 : PySem.W.codeIn K cd21 "law" = true) (k21 : PySem.W.keepIn K (.ref f21) = true)
    (z_abs : PySem.W.nsIn K mainGlobals "abs" = some none)
    (z_all : PySem.W.nsIn K mainGlobals "all" = some none)
    (z_any : PySem.W.nsIn K mainGlobals "any" = some none)
    (z_bool : PySem.W.nsIn K mainGlobals "bool" = some none)
    (z_enumerate : PySem.W.nsIn K mainGlobals "enumerate" = some none)
    (z_int : PySem.W.nsIn K mainGlobals "int" = some none)
    (z_isinstance : PySem.W.nsIn K mainGlobals "isinstance" = some none)
    (z_len : PySem.W.nsIn K mainGlobals "len" = some none)
    (z_list : PySem.W.nsIn K mainGlobals "list" = some none)
    (z_range : PySem.W.nsIn K mainGlobals "range" = some none)
    (z_sorted : PySem.W.nsIn K mainGlobals "sorted" = some none)
    (z_sum : PySem.W.nsIn K mainGlobals "sum" = some none)
    (z_tuple : PySem.W.nsIn K mainGlobals "tuple" = some none)
    (z_zip : PySem.W.nsIn K mainGlobals "zip" = some none)
    {u_MOST_MEETING : Tok} (g_MOST_MEETING : PySem.W.nsIn K mainGlobals "MOST_MEETING" = some (some (.int 7 u_MOST_MEETING)))
    : ∃ (fd : FuncData) (k : Kx), (∀ (s : Shared) (v : Value), BindsTo s fd ⟨[v], []⟩ [("script", v)]) ∧ ∀ base : Heap, K.In base → base.Ns mainGlobals mg → FnG l.prog w K mg base 44 fa fd p_law (spM k 1 m_law) := by
  have e := hfa.symm.trans (PySem.W.mg_of KI G a21)
  cases e
  refine ⟨PySem.W.fnOf "law" "law" (defArgs s_law) (defBody s_law) (defScope s_law) .none kV21 dc21 pm21 an21 cd21 ct21, ⟨K, fun _ => none⟩, fun s v => .of_eq rfl, fun base _ _ => ?_⟩
  have M : ModOk K mg (⟨K, fun _ => none⟩ : Kx) gG gB := by
    refine ⟨rfl, fun x hx => ?_, fun x d hx => ?_⟩
    · simp only [gB, List.contains_cons, List.contains_nil, Bool.or_false, Bool.or_eq_true, beq_iff_eq] at hx
      rcases hx with rfl | rfl | rfl | rfl | rfl | rfl | rfl | rfl | rfl | rfl | rfl | rfl | rfl | rfl
      · exact PySem.W.mg_none_of KI G z_abs
      · exact PySem.W.mg_none_of KI G z_all
      · exact PySem.W.mg_none_of KI G z_any
      · exact PySem.W.mg_none_of KI G z_bool
      · exact PySem.W.mg_none_of KI G z_enumerate
      · exact PySem.W.mg_none_of KI G z_int
      · exact PySem.W.mg_none_of KI G z_isinstance
      · exact PySem.W.mg_none_of KI G z_len
      · exact PySem.W.mg_none_of KI G z_list
      · exact PySem.W.mg_none_of KI G z_range
      · exact PySem.W.mg_none_of KI G z_sorted
      · exact PySem.W.mg_none_of KI G z_sum
      · exact PySem.W.mg_none_of KI G z_tuple
      · exact PySem.W.mg_none_of KI G z_zip
    · unfold gG at hx
      rw [List.lookup_cons] at hx
      split at hx
      · rename_i ex
        have ex := eq_of_beq ex; subst ex; cases hx
        exact ⟨.int 7, _, PySem.W.mg_of KI G g_MOST_MEETING, ⟨_, rfl⟩, fun _ _ => RD.int _⟩
      cases hx
  have T0 : TabOk l.prog w K mg base (⟨K, fun _ => none⟩ : Kx) 0 t_0 [] := TabOk.nil
  have X0 : TabOk l.prog w K mg base (⟨K, fun _ => none⟩ : Kx) 0 t_0 ct_0 := T0
  have F0 := fun_mk (st := s_law_tape) l0 c0 k0
  have X1 := tab_add M X0 F0 c_law_tape (PySem.W.mg_of KI G a0) (F0.binds (ps := p_law_tape) fun _ _ _ _ _ _ us hl => match us, hl with | [_], _ => rfl) b_law_tape
  have F1 := fun_mk (st := s_law_parted) l1 c1 k1
  have X2 := tab_add M X1 F1 c_law_parted (PySem.W.mg_of KI G a1) (F1.binds (ps := p_law_parted) fun _ _ _ _ _ _ us hl => match us, hl with | [_], _ => rfl) b_law_parted
  have F2 := fun_mk (st := s_is_integer) l2 c2 k2
  have X3 := tab_add M X2 F2 c_is_integer (PySem.W.mg_of KI G a2) (F2.binds (ps := p_is_integer) fun _ _ _ _ _ _ us hl => match us, hl with | [_], _ => rfl) b_is_integer
  have F3 := fun_mk (st := s_is_within) l3 c3 k3
  have X4 := tab_add M X3 F3 c_is_within (PySem.W.mg_of KI G a3) (F3.binds (ps := p_is_within) fun _ _ _ _ _ _ us hl => match us, hl with | [_, _, _], _ => rfl) b_is_within
  have F4 := fun_mk (st := s_check_many) l4 c4 k4
  have X5 := tab_add M X4 F4 c_check_many (PySem.W.mg_of KI G a4) (F4.binds (ps := p_check_many) fun _ _ _ _ _ _ us hl => match us, hl with | [_], _ => rfl) b_check_many
  have F5 := fun_mk (st := s_root_of) l5 c5 k5
  have X6 := tab_add M X5 F5 c_root_of (PySem.W.mg_of KI G a5) (F5.binds (ps := p_root_of) fun _ _ _ _ _ _ us hl => match us, hl with | [_, _], _ => rfl) b_root_of
  have F6 := fun_mk (st := s_is_tree) l6 c6 k6
  have X7 := tab_add M X6 F6 c_is_tree (PySem.W.mg_of KI G a6) (F6.binds (ps := p_is_tree) fun _ _ _ _ _ _ us hl => match us, hl with | [_, _], _ => rfl) b_is_tree
  have F7 := fun_mk (st := s_meet) l7 c7 k7
  have X8 := tab_add M X7 F7 c_meet (PySem.W.mg_of KI G a7) (F7.binds (ps := p_meet) fun _ _ _ _ _ _ us hl => match us, hl with | [_, _, _], _ => rfl) b_meet
  have F8 := fun_mk (st := s_are_ascending) l8 c8 k8
  have X9 := tab_add M X8 F8 c_are_ascending (PySem.W.mg_of KI G a8) (F8.binds (ps := p_are_ascending) fun _ _ _ _ _ _ us hl => match us, hl with | [_], _ => rfl) b_are_ascending
  have F9 := fun_mk (st := s_is_tuple) l9 c9 k9
  have X10 := tab_add M X9 F9 c_is_tuple (PySem.W.mg_of KI G a9) (F9.binds (ps := p_is_tuple) fun _ _ _ _ _ _ us hl => match us, hl with | [_, _, _], _ => rfl) b_is_tuple
  have F10 := fun_mk (st := s_is_block) l10 c10 k10
  have X11 := tab_add M X10 F10 c_is_block (PySem.W.mg_of KI G a10) (F10.binds (ps := p_is_block) fun _ _ _ _ _ _ us hl => match us, hl with | [_, _], _ => rfl) b_is_block
  have F11 := fun_mk (st := s_is_partition) l11 c11 k11
  have X12 := tab_add M X11 F11 c_is_partition (PySem.W.mg_of KI G a11) (F11.binds (ps := p_is_partition) fun _ _ _ _ _ _ us hl => match us, hl with | [_, _], _ => rfl) b_is_partition
  have F12 := fun_mk (st := s_do_meet) l12 c12 k12
  have X13 := tab_add M X12 F12 c_do_meet (PySem.W.mg_of KI G a12) (F12.binds (ps := p_do_meet) fun _ _ _ _ _ _ us hl => match us, hl with | [_, _, _], _ => rfl) b_do_meet
  have F13 := fun_mk (st := s_law_draw) l13 c13 k13
  have X14 := tab_add M X13 F13 c_law_draw (PySem.W.mg_of KI G a13) (F13.binds (ps := p_law_draw) fun _ _ _ _ _ _ us hl => match us, hl with | [_, _], _ => rfl) b_law_draw
  have F14 := fun_mk (st := s_law_drawn) l14 c14 k14
  have X15 := tab_add M X14 F14 c_law_drawn (PySem.W.mg_of KI G a14) (F14.binds (ps := p_law_drawn) fun _ _ _ _ _ _ us hl => match us, hl with | [_, _], _ => rfl) b_law_drawn
  have F15 := fun_mk (st := s_law_any) l15 c15 k15
  have X16 := tab_add M X15 F15 c_law_any (PySem.W.mg_of KI G a15) (F15.binds (ps := p_law_any) fun _ _ _ _ _ _ us hl => match us, hl with | [_, _], _ => rfl) b_law_any
  have F16 := fun_mk (st := s_law_meeting) l16 c16 k16
  have X17 := tab_add M X16 F16 c_law_meeting (PySem.W.mg_of KI G a16) (F16.binds (ps := p_law_meeting) fun _ _ _ _ _ _ us hl => match us, hl with | [_, _, _], _ => rfl) b_law_meeting
  have F17 := fun_mk (st := s_law_do_meet) l17 c17 k17
  have X18 := tab_add M X17 F17 c_law_do_meet (PySem.W.mg_of KI G a17) (F17.binds (ps := p_law_do_meet) fun _ _ _ _ _ _ us hl => match us, hl with | [_, _, _], _ => rfl) b_law_do_meet
  have F18 := fun_mk (st := s_law_mixed) l18 c18 k18
  have X19 := tab_add M X18 F18 c_law_mixed (PySem.W.mg_of KI G a18) (F18.binds (ps := p_law_mixed) fun _ _ _ _ _ _ us hl => match us, hl with | [_, _], _ => rfl) b_law_mixed
  have F19 := fun_mk (st := s_law_renamed) l19 c19 k19
  have X20 := tab_add M X19 F19 c_law_renamed (PySem.W.mg_of KI G a19) (F19.binds (ps := p_law_renamed) fun _ _ _ _ _ _ us hl => match us, hl with | [_, _], _ => rfl) b_law_renamed
  have F20 := fun_mk (st := s_law_pair_right) l20 c20 k20
  have X21 := tab_add M X20 F20 c_law_pair_right (PySem.W.mg_of KI G a20) (F20.binds (ps := p_law_pair_right) fun _ _ _ _ _ _ us hl => match us, hl with | [_, _, _, _], _ => rfl) b_law_pair_right
  have F21 := fun_mk (st := s_law) l21 c21 k21
  exact fn_add M X21 F21 c_law b_law
end K47
open PySem PyProof.Rows
set_option maxHeartbeats 0 in
theorem PySem.Challenge.cw_pairnets_k47_whole_partitions_that_meet_holds : PySem.Challenge.rw_pairnets_k47_whole_partitions_that_meet.Holds := by
  w_on; o_law; k_head; (case hw => w_witness2)
  k_fill
  refine PN.walk_ofG (l := PySem.Challenge.rw_pairnets_k47_whole_partitions_that_meet) (n := 63) (kk := 44) (x := "script") (m := K47.m_law) rfl (by decide) rfl ⟨rfl, by decide, by decide⟩ (fun w h Y => PySem.W.kIn_of Y) (fun w => ?nl) ?F K47.plain
  case nl => kernel_rfl
  case F =>
    intro w mg fa h KX G hmg
    refine' K47.all_mk KX G hmg ?a0 ?l0 ?c0 ?k0 ?a1 ?l1 ?c1 ?k1 ?a2 ?l2 ?c2 ?k2 ?a3 ?l3 ?c3 ?k3 ?a4 ?l4 ?c4 ?k4 ?a5 ?l5 ?c5 ?k5 ?a6 ?l6 ?c6 ?k6 ?a7 ?l7 ?c7 ?k7 ?a8 ?l8 ?c8 ?k8 ?a9 ?l9 ?c9 ?k9 ?a10 ?l10 ?c10 ?k10 ?a11 ?l11 ?c11 ?k11 ?a12 ?l12 ?c12 ?k12 ?a13 ?l13 ?c13 ?k13 ?a14 ?l14 ?c14 ?k14 ?a15 ?l15 ?c15 ?k15 ?a16 ?l16 ?c16 ?k16 ?a17 ?l17 ?c17 ?k17 ?a18 ?l18 ?c18 ?k18 ?a19 ?l19 ?c19 ?k19 ?a20 ?l20 ?c20 ?k20 ?a21 ?l21 ?c21 ?k21 ?z_abs ?z_all ?z_any ?z_bool ?z_enumerate ?z_int ?z_isinstance ?z_len ?z_list ?z_range ?z_sorted ?z_sum ?z_tuple ?z_zip ?g_MOST_MEETING
    (case a0 => k_is)
    (case l0 => k_is)
    (case c0 => k_is)
    (case k0 => k_is)
    (case a1 => k_is)
    (case l1 => k_is)
    (case c1 => k_is)
    (case k1 => k_is)
    (case a2 => k_is)
    (case l2 => k_is)
    (case c2 => k_is)
    (case k2 => k_is)
    (case a3 => k_is)
    (case l3 => k_is)
    (case c3 => k_is)
    (case k3 => k_is)
    (case a4 => k_is)
    (case l4 => k_is)
    (case c4 => k_is)
    (case k4 => k_is)
    (case a5 => k_is)
    (case l5 => k_is)
    (case c5 => k_is)
    (case k5 => k_is)
    (case a6 => k_is)
    (case l6 => k_is)
    (case c6 => k_is)
    (case k6 => k_is)
    (case a7 => k_is)
    (case l7 => k_is)
    (case c7 => k_is)
    (case k7 => k_is)
    (case a8 => k_is)
    (case l8 => k_is)
    (case c8 => k_is)
    (case k8 => k_is)
    (case a9 => k_is)
    (case l9 => k_is)
    (case c9 => k_is)
    (case k9 => k_is)
    (case a10 => k_is)
    (case l10 => k_is)
    (case c10 => k_is)
    (case k10 => k_is)
    (case a11 => k_is)
    (case l11 => k_is)
    (case c11 => k_is)
    (case k11 => k_is)
    (case a12 => k_is)
    (case l12 => k_is)
    (case c12 => k_is)
    (case k12 => k_is)
    (case a13 => k_is)
    (case l13 => k_is)
    (case c13 => k_is)
    (case k13 => k_is)
    (case a14 => k_is)
    (case l14 => k_is)
    (case c14 => k_is)
    (case k14 => k_is)
    (case a15 => k_is)
    (case l15 => k_is)
    (case c15 => k_is)
    (case k15 => k_is)
    (case a16 => k_is)
    (case l16 => k_is)
    (case c16 => k_is)
    (case k16 => k_is)
    (case a17 => k_is)
    (case l17 => k_is)
    (case c17 => k_is)
    (case k17 => k_is)
    (case a18 => k_is)
    (case l18 => k_is)
    (case c18 => k_is)
    (case k18 => k_is)
    (case a19 => k_is)
    (case l19 => k_is)
    (case c19 => k_is)
    (case k19 => k_is)
    (case a20 => k_is)
    (case l20 => k_is)
    (case c20 => k_is)
    (case k20 => k_is)
    (case a21 => k_is)
    (case l21 => k_is)
    (case c21 => k_is)
    (case k21 => k_is)
    (case z_abs => k_is)
    (case z_all => k_is)
    (case z_any => k_is)
    (case z_bool => k_is)
    (case z_enumerate => k_is)
    (case z_int => k_is)
    (case z_isinstance => k_is)
    (case z_len => k_is)
    (case z_list => k_is)
    (case z_range => k_is)
    (case z_sorted => k_is)
    (case z_sum => k_is)
    (case z_tuple => k_is)
    (case z_zip => k_is)
    (case g_MOST_MEETING => k_is)
