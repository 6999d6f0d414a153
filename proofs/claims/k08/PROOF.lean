import PyProof.Rows.All
import HandS.ForMost
import HandS.Wide
import HandS.WordsExc
import HandS.TupAny
import HandS.IsInst
import HandS.Lambda
import HandS.TupMul
import HandS.Flow
import HandS.Style
import HandS.Text
import HandS.Zip
import HandS.Iter
import HandS.RevRange
import KE.GoesEnum
import HandS.Comp
import HandS.CallSlots
import HandS.ExcOwn
import HandS.Defaults
import KE.SortData
import HandS.WordsDict
import HandS.Deep
import HandS.SetFor
import KE.KUnpackStar
import PyProof.ReprRoads
import HandS.RaiseMore
import HandS.Conv
import HandS.Ends
import HandS.HeadEnd
import HandS.Head0
import HandS.Head1
import HandS.Head2
import HandS.HeadHook1
import HandS.HeadHook2
import HandS.ExcInit
import HandS.ClsMeth
import HandS.ExcField
import HandS.Codes
import HandS.ExcIs
import HandS.TryOnly
import HandS.HeadHook4
import HandS.HeadWalk
import KE.KTryMore
import KE.KIsAll
import KE.DataFind
import KE.KRevSl
import HandS.DictComp
import HandS.Strs
import KE.KExcInit
import HandS.ExcValue
import HandS.NoneIn
import PySem.Challenge.RW_dialforest_k08_errors_by_hand
set_option Elab.async false
set_option linter.all false
set_option maxRecDepth 100000
/-! DL: values with tuples by value, an abstract heap of mutable objects, deterministic denotations over HandS. -/
namespace DL
open PySem PySem.Spec PyProof.Rows L2

/-- a value; tuples by value, mutable objects by their number; the script (a list that nobody writes) by value -/
inductive W where
  | non | bl (b : Bool) | int (i : Int) | str (x : Str) | tup (ws : List W) | ref (n : Nat) | fro (ws : List W) | ftp (ws : List W)

mutual
def W.beq : W → W → Bool
  | .non, .non => true
  | .bl a, .bl b => a == b
  | .int a, .int b => a == b
  | .str a, .str b => a == b
  | .tup a, .tup b => W.beqs a b
  | .fro a, .fro b => W.beqs a b
  | .ftp a, .ftp b => W.beqs a b
  | .ref a, .ref b => a == b
  | _, _ => false
def W.beqs : List W → List W → Bool
  | [], [] => true
  | a :: r, b :: s => W.beq a b && W.beqs r s
  | _, _ => false
end
mutual
theorem W.beq_iff : ∀ a b : W, W.beq a b = true ↔ a = b
  | .non, b => by cases b <;> simp [W.beq]
  | .bl x, b => by cases b <;> simp [W.beq]
  | .int x, b => by cases b <;> simp [W.beq]
  | .str x, b => by cases b <;> simp [W.beq]
  | .ref x, b => by cases b <;> simp [W.beq]
  | .tup xs, b => by
    cases b with
    | tup ys => simp only [W.beq, W.tup.injEq]; exact W.beqs_iff xs ys
    | _ => simp [W.beq]
  | .fro xs, b => by
    cases b with
    | fro ys => simp only [W.beq, W.fro.injEq]; exact W.beqs_iff xs ys
    | _ => simp [W.beq]
  | .ftp xs, b => by
    cases b with
    | ftp ys => simp only [W.beq, W.ftp.injEq]; exact W.beqs_iff xs ys
    | _ => simp [W.beq]
theorem W.beqs_iff : ∀ a b : List W, W.beqs a b = true ↔ a = b
  | [], b => by cases b <;> simp [W.beqs]
  | a :: r, b => by
    cases b with
    | nil => simp [W.beqs]
    | cons c s => simp only [W.beqs, Bool.and_eq_true, List.cons.injEq, W.beq_iff a c, W.beqs_iff r s]
end
instance : DecidableEq W := fun a b => if h : W.beq a b = true then .isTrue ((W.beq_iff a b).mp h) else .isFalse fun e => h ((W.beq_iff a b).mpr e)

/-- a mutable object: a list, a dict, an instance of an own class, an exception; a dict while it is walked -/
inductive WO where
  | lst (ws : List W)
  | dic (kvs : List (Key × W))
  | ins (C : Str) (fs : List (Str × W))
  | exc (C : Str) (fs : List (Str × W))
  | loc (kvs : List (Key × W))
  deriving DecidableEq

abbrev Hs := List WO
abbrev SW := List (Option W)

inductive R (α : Type) where
  | ok (a : α) (S : Hs)
  | exc (C : Str) (fs : List (Str × W)) (S : Hs)
  | bad
def R.bind {α β : Type} (r : R α) (k : α → Hs → R β) : R β := match r with
  | .ok a S => k a S
  | .exc C fs S => .exc C fs S
  | .bad => .bad

/-- behind a statement -/
inductive RS where
  | nx (sw : SW) (S : Hs)
  | rt (w : W) (S : Hs)
  | bk (sw : SW) (S : Hs)
  | ct (sw : SW) (S : Hs)
  | exc (C : Str) (fs : List (Str × W)) (sw : SW) (S : Hs)
  | bad
def RS.seq (r : RS) (k : SW → Hs → RS) : RS := match r with
  | .nx sw S => k sw S
  | r => r
/-- an expression's result within a statement -/
def R.to {α : Type} (r : R α) (sw : SW) (k : α → Hs → RS) : RS := match r with
  | .ok a S => k a S
  | .exc C fs S => .exc C fs sw S
  | .bad => .bad

abbrev DE := SW → Hs → R W
abbrev DT := SW → Hs → R Bool
abbrev DA := SW → Hs → R (List W)
abbrev DS := SW → Hs → RS
abbrev DG := W → SW → Hs → R SW
abbrev DF := List W → Hs → R W

/-! ### the relation -/
/-- where the classes stand; the tables of code objects of the defs that make lambdas -/
structure Cla where
  at_ : Str → Addr
  tabs : List (Addr × Str)
instance : CoeFun Cla fun _ => Str → Addr := ⟨Cla.at_⟩
/-- the tables stand apart from what is numbered -/
def TabR (cl : Cla) (ι : Nat → Addr) (n : Nat) (H : Hp) : Prop := ∀ p ∈ cl.tabs, ∃ ps : Array Value, H p.1 = some (.tbl ps) ∧ TriplesOk ps.toList ∧ (∀ i, i < n → p.1 ≠ ι i) ∧
  ∀ (pos : Pos) (cv : Value), codeAmong pos ps.toList = some cv → ∃ c, cv = .ref c ∧ H c = some (LamX.CodeO c p.2) ∧ ∀ i, i < n → c ≠ ι i
theorem TabR.mono {cl : Cla} {ι ι' : Nat → Addr} {n n' : Nat} {H H' : Hp} (h : TabR cl ι n H) (off : ∀ a o, H a = some o → (∀ i, i < n → a ≠ ι i) → (∀ i, i < n' → a ≠ ι' i) ∧ H' a = some o) : TabR cl ι' n' H' := fun p hp => by
  obtain ⟨ps, h1, h2, h3, h4⟩ := h p hp
  obtain ⟨a1, a2⟩ := off _ _ h1 h3
  refine ⟨ps, a2, h2, a1, fun pos cv e => ?_⟩
  obtain ⟨c, e1, e2, e3⟩ := h4 pos cv e
  obtain ⟨b1, b2⟩ := off _ _ e2 e3
  exact ⟨c, e1, b2, b1⟩
theorem codeO_lst {c : Addr} {q : Str} {vs : List V} : (LamX.CodeO c q : HO) ≠ .lst vs := fun z => by
  have z' : HO.ext _ = HO.lst vs := z
  cases z'
def TupAt (K : PySem.W.Frag) (H : Hp) (a : Addr) (vs : List V) : Prop :=
  (H a = some (.tup vs) ∨ ∃ o, H a = some (.frz o (.tup vs))) ∨ ∃ (o : Obj) (its : Array Value) (n : Nat), K.lookup a = some o ∧ o.cls = .type "tuple" ∧ o.data = .seq its n ∧ its.size ≤ sizeLine ∧ Vals vs its.toList
def FroAt (K : PySem.W.Frag) (H : Hp) (a : Addr) (vs : List V) : Prop :=
  (∃ o, H a = some (.frz o (.lst vs))) ∨ ∃ (its : List Value) (n : Nat), K.lookup a = some ({ cls := .type "list", data := .seq its.toArray n } : Obj) ∧ its.length ≤ sizeLine ∧ Vals vs its
theorem FroAt.sq {K : PySem.W.Frag} {H : Hp} {a : Addr} {vs : List V} (h : FroAt K H a vs) : SqL K H a vs := h.imp (fun h => .inr h) fun ⟨its, n, e, z, r⟩ => ⟨_, its.toArray, n, e, rfl, rfl, rfl, by simpa using z, by simpa using r⟩
theorem TupAt.sq {K : PySem.W.Frag} {H : Hp} {a : Addr} {vs : List V} (h : TupAt K H a vs) : SqT K H a vs := h.imp (fun h => h) fun h => h
/-- a tuple that is known to have no own dict -/
def FtpAt (H : Hp) (a : Addr) (vs : List V) : Prop := ∃ o, H a = some (.frz o (.tup vs)) ∧ o.cls = .type "tuple" ∧ o.dict = none
theorem FtpAt.tup {K : PySem.W.Frag} {H : Hp} {a : Addr} {vs : List V} (h : FtpAt H a vs) : TupAt K H a vs := let ⟨o, e, _⟩ := h; .inl (.inr ⟨o, e⟩)

mutual
inductive Rep (K : PySem.W.Frag) (ι : Nat → Addr) (n : Nat) (H : Hp) : W → V → Prop
  | non : Rep K ι n H .non .non
  | bl (b : Bool) : Rep K ι n H (.bl b) (.bl b)
  | int (i : Int) : Rep K ι n H (.int i) (.int i)
  | str (x : Str) : Rep K ι n H (.str x) (.str x)
  | tup {a : Addr} {vs : List V} {ws : List W} : TupAt K H a vs → Reps K ι n H ws vs → Rep K ι n H (.tup ws) (.ref a)
  | ref {i : Nat} : i < n → Rep K ι n H (.ref i) (.ref (ι i))
  | fro {a : Addr} {vs : List V} {ws : List W} : FroAt K H a vs → Reps K ι n H ws vs → Rep K ι n H (.fro ws) (.ref a)
  | ftp {a : Addr} {vs : List V} {ws : List W} : FtpAt H a vs → Reps K ι n H ws vs → Rep K ι n H (.ftp ws) (.ref a)
inductive Reps (K : PySem.W.Frag) (ι : Nat → Addr) (n : Nat) (H : Hp) : List W → List V → Prop
  | nil : Reps K ι n H [] []
  | cons {w : W} {v : V} {ws : List W} {vs : List V} : Rep K ι n H w v → Reps K ι n H ws vs → Reps K ι n H (w :: ws) (v :: vs)
end
/-- dict items, fields -/
def KReps {κ : Type} (K : PySem.W.Frag) (ι : Nat → Addr) (n : Nat) (H : Hp) (kw : List (κ × W)) (kv : List (κ × V)) : Prop :=
  kw.map (·.1) = kv.map (·.1) ∧ Reps K ι n H (kw.map (·.2)) (kv.map (·.2))

/-- an exception object of class C with its own dict at d -/
def XO (e C : Addr) (d : Addr) : HO := .ext fun h => ∃ (oe : Obj) (vs : Array Value), h.get? e = some oe ∧ oe.cls = .ref C ∧ oe.dict = some d ∧ oe.data = .fields vs

def RepO (K : PySem.W.Frag) (cl : Cla) (ι : Nat → Addr) (n : Nat) (H : Hp) (a : Addr) : WO → Prop
  | .lst ws => ∃ vs, H a = some (.lst vs) ∧ Reps K ι n H ws vs
  | .dic kws => ∃ kvs, H a = some (.dK kvs) ∧ KReps K ι n H kws kvs
  | .ins C fs => ∃ dx gs, H a = some (.ins (cl C) dx gs) ∧ KReps K ι n H fs gs
  | .exc C fs => ∃ d gs, H a = some (XO a (cl C) d) ∧ H d = some (.xd gs) ∧ KReps K ι n H fs gs ∧ ∀ i, i < n → d ≠ ι i
  | .loc kws => ∃ o kvs, H a = some (.frz o (.dK kvs)) ∧ KReps K ι n H kws kvs

structure Rel (K : PySem.W.Frag) (cl : Cla) (ι : Nat → Addr) (S : Hs) (H : Hp) : Prop where
  obj : ∀ (i : Nat) (o : WO), S[i]? = some o → RepO K cl ι S.length H (ι i) o
  inj : ∀ i j, i < S.length → j < S.length → ι i = ι j → i = j
  tab : TabR cl ι S.length H

structure Go (K : PySem.W.Frag) (cl : Cla) (ι : Nat → Addr) (S : Hs) (H : Hp) (ι' : Nat → Addr) (S' : Hs) (H' : Hp) : Prop where
  le : S.length ≤ S'.length
  ext : ∀ i, i < S.length → ι' i = ι i
  fresh : ∀ i, S.length ≤ i → i < S'.length → H (ι' i) = none
  fr : ∀ a o, H a = some o → (∀ ps, o ≠ .tbl ps) → (∀ i, i < S.length → a ≠ ι i) → H' a = some o
  tb : ∀ a ps, H a = some (.tbl ps) → ∃ ps', H' a = some (.tbl ps')
  rel : Rel K cl ι' S' H'

section
variable {K : PySem.W.Frag} {cl : Cla} {ι ι' ι'' : Nat → Addr} {S S' S'' : Hs} {H H' H'' : Hp}
theorem RepO.there {n : Nat} {a : Addr} {o : WO} (h : RepO K cl ι n H a o) : ∃ u, H a = some u ∧ (∀ vs, u ≠ .tup vs) ∧ ∀ o vs, u ≠ .frz o (.lst vs) ∧ u ≠ .frz o (.tup vs) := by
  cases o with
  | lst ws => obtain ⟨vs, e, _⟩ := h; exact ⟨_, e, fun _ z => (by simp [XO] at z), fun _ _ => ⟨fun z => (by simp [XO] at z), fun z => (by simp [XO] at z)⟩⟩
  | dic ws => obtain ⟨vs, e, _⟩ := h; exact ⟨_, e, fun _ z => (by simp [XO] at z), fun _ _ => ⟨fun z => (by simp [XO] at z), fun z => (by simp [XO] at z)⟩⟩
  | ins C ws => obtain ⟨d, vs, e, _⟩ := h; exact ⟨_, e, fun _ z => (by simp [XO] at z), fun _ _ => ⟨fun z => (by simp [XO] at z), fun z => (by simp [XO] at z)⟩⟩
  | exc C ws => obtain ⟨d, vs, e, _⟩ := h; exact ⟨_, e, fun _ z => (by simp [XO] at z), fun _ _ => ⟨fun z => (by simp [XO] at z), fun z => (by simp [XO] at z)⟩⟩
  | loc ws => obtain ⟨o, vs, e, _⟩ := h; exact ⟨_, e, fun _ z => (by simp [XO] at z), fun _ _ => ⟨fun z => (by simp [XO] at z), fun z => (by simp [XO] at z)⟩⟩
theorem RepO.ntb {n : Nat} {a : Addr} {o : WO} (h : RepO K cl ι n H a o) (ps : Array Value) : H a ≠ some (.tbl ps) := fun z => by
  cases o with
  | lst ws => obtain ⟨vs, e, _⟩ := h; rw [e] at z; cases z
  | dic ws => obtain ⟨vs, e, _⟩ := h; rw [e] at z; cases z
  | ins C ws => obtain ⟨d, vs, e, _⟩ := h; rw [e] at z; cases z
  | exc C ws => obtain ⟨d, vs, e, _⟩ := h; rw [e] at z; cases z
  | loc ws => obtain ⟨o, vs, e, _⟩ := h; rw [e] at z; cases z
theorem Rel.at_ (r : Rel K cl ι S H) {i : Nat} (hi : i < S.length) : ∃ u, H (ι i) = some u ∧ (∀ vs, u ≠ .tup vs) ∧ ∀ o vs, u ≠ .frz o (.lst vs) ∧ u ≠ .frz o (.tup vs) :=
  (r.obj i S[i] (by simp [hi])).there
theorem Go.refl (r : Rel K cl ι S H) : Go K cl ι S H ι S H :=
  ⟨Nat.le_refl _, fun _ _ => rfl, fun i a b => absurd b (Nat.not_lt.mpr a), fun _ _ e _ _ => e, fun _ ps e => ⟨ps, e⟩, r⟩
theorem Go.trans (a : Go K cl ι S H ι' S' H') (b : Go K cl ι' S' H' ι'' S'' H'') : Go K cl ι S H ι'' S'' H'' where
  le := Nat.le_trans a.le b.le
  ext := fun i h => (b.ext i (Nat.lt_of_lt_of_le h a.le)).trans (a.ext i h)
  fresh := fun i h1 h2 => by
    by_cases hi : i < S'.length
    · rw [b.ext i hi]; exact a.fresh i h1 hi
    · have hn := b.fresh i (Nat.le_of_not_lt hi) h2
      cases q : H (ι'' i) with
      | none => rfl
      | some o =>
        by_cases hj : ∃ j, j < S.length ∧ ι'' i = ι j
        · obtain ⟨j, hj, e⟩ := hj
          obtain ⟨u, hu, _⟩ := a.rel.at_ (Nat.lt_of_lt_of_le hj a.le)
          rw [a.ext j hj, ← e, hn] at hu
          cases hu
        · by_cases hp : ∃ ps, o = .tbl ps
          · obtain ⟨ps, rfl⟩ := hp
            obtain ⟨ps', this⟩ := a.tb _ ps q
            rw [hn] at this
            cases this
          · have := a.fr _ o q (fun ps z => hp ⟨ps, z⟩) (fun j h z => hj ⟨j, h, z⟩)
            rw [hn] at this
            cases this
  tb := fun c ps e => let ⟨ps', e'⟩ := a.tb c ps e; b.tb c ps' e'
  fr := fun c o e hp h => by
    refine b.fr c o (a.fr c o e hp h) hp fun i hi z => ?_
    by_cases hs : i < S.length
    · exact h i hs (z.trans (a.ext i hs))
    · have := a.fresh i (Nat.le_of_not_lt hs) hi
      rw [← z, e] at this
      cases this
  rel := b.rel
/-- tuples and the script are kept -/
def Kpt (H H' : Hp) : Prop := ∀ a u, ((∃ vs, u = .tup vs) ∨ ∃ o vs, u = HO.frz o (.lst vs) ∨ u = HO.frz o (.tup vs)) → H a = some u → H' a = some u
theorem Kpt.refl (H : Hp) : Kpt H H := fun _ _ _ e => e
mutual
theorem Rep.mono {n n' : Nat} (le : n ≤ n') (ext : ∀ i, i < n → ι' i = ι i) (tp : Kpt H H') : ∀ {w : W} {v : V}, Rep K ι n H w v → Rep K ι' n' H' w v
  | _, _, .non => .non
  | _, _, .bl b => .bl b
  | _, _, .int i => .int i
  | _, _, .str x => .str x
  | _, _, .tup t s => .tup (t.imp (fun z => z.imp (tp _ _ (.inl ⟨_, rfl⟩)) fun ⟨o, e⟩ => ⟨o, tp _ _ (.inr ⟨_, _, .inr rfl⟩) e⟩) fun z => z) (Reps.mono le ext tp s)
  | _, _, .ftp t s => .ftp (let ⟨o, e, f⟩ := t; ⟨o, tp _ _ (.inr ⟨_, _, .inr rfl⟩) e, f⟩) (Reps.mono le ext tp s)
  | _, _, .fro t s => .fro (t.imp (fun ⟨o, e⟩ => ⟨o, tp _ _ (.inr ⟨_, _, .inl rfl⟩) e⟩) fun z => z) (Reps.mono le ext tp s)
  | _, _, .ref hi => by rw [← ext _ hi]; exact .ref (Nat.lt_of_lt_of_le hi le)
theorem Reps.mono {n n' : Nat} (le : n ≤ n') (ext : ∀ i, i < n → ι' i = ι i) (tp : Kpt H H') : ∀ {ws : List W} {vs : List V}, Reps K ι n H ws vs → Reps K ι' n' H' ws vs
  | _, _, .nil => .nil
  | _, _, .cons a b => .cons (Rep.mono le ext tp a) (Reps.mono le ext tp b)
end
theorem Rel.tupOff (r : Rel K cl ι S H) {a : Addr} {u : HO} (hu : (∃ vs, u = .tup vs) ∨ ∃ o vs, u = HO.frz o (.lst vs) ∨ u = HO.frz o (.tup vs)) (h : H a = some u) : ∀ i, i < S.length → a ≠ ι i := fun i hi z => by
  obtain ⟨u', hu', hn, hn'⟩ := r.at_ hi
  rw [← z, h] at hu'
  cases hu'
  rcases hu with ⟨vs, e⟩ | ⟨o, vs, e | e⟩
  · exact hn vs e
  · exact (hn' o vs).1 e
  · exact (hn' o vs).2 e
theorem Go.kpt (r : Rel K cl ι S H) (g : Go K cl ι S H ι' S' H') : Kpt H H' := fun a u k h => g.fr a u h (fun ps z => by subst z; rcases k with ⟨_, z⟩ | ⟨_, _, z | z⟩ <;> cases z) (r.tupOff k h)
theorem Rep.go {w : W} {v : V} (h : Rep K ι S.length H w v) (r : Rel K cl ι S H) (g : Go K cl ι S H ι' S' H') : Rep K ι' S'.length H' w v := h.mono g.le g.ext (g.kpt r)
theorem Reps.go {w : List W} {v : List V} (h : Reps K ι S.length H w v) (r : Rel K cl ι S H) (g : Go K cl ι S H ι' S' H') : Reps K ι' S'.length H' w v := h.mono g.le g.ext (g.kpt r)
theorem KReps.go {κ : Type} {kw : List (κ × W)} {kv : List (κ × V)} (h : KReps K ι S.length H kw kv) (r : Rel K cl ι S H) (g : Go K cl ι S H ι' S' H') : KReps K ι' S'.length H' kw kv := ⟨h.1, h.2.go r g⟩
theorem KReps.mono {κ : Type} {n n' : Nat} {kw : List (κ × W)} {kv : List (κ × V)} (h : KReps K ι n H kw kv) (le : n ≤ n') (ext : ∀ i, i < n → ι' i = ι i) (tp : Kpt H H') : KReps K ι' n' H' kw kv := ⟨h.1, h.2.mono le ext tp⟩

/-! ### lists of values -/
theorem Reps.length {n : Nat} : ∀ {ws : List W} {vs : List V}, Reps K ι n H ws vs → ws.length = vs.length
  | _, _, .nil => rfl
  | _, _, .cons _ b => by rw [List.length_cons, List.length_cons, b.length]
theorem Reps.get {n : Nat} : ∀ {ws : List W} {vs : List V} {i : Nat} {w : W}, Reps K ι n H ws vs → ws[i]? = some w → ∃ v, vs[i]? = some v ∧ Rep K ι n H w v
  | _, _, _, _, .nil, e => by simp at e
  | _, _, 0, _, .cons a _, e => by simp at e; subst e; exact ⟨_, rfl, a⟩
  | _, _, i + 1, _, .cons _ b, e => by
    obtain ⟨v, h1, h2⟩ := b.get (i := i) (by simpa using e)
    exact ⟨v, by simpa using h1, h2⟩
theorem Reps.get' {n : Nat} : ∀ {ws : List W} {vs : List V} {i : Nat} {v : V}, Reps K ι n H ws vs → vs[i]? = some v → ∃ w, ws[i]? = some w ∧ Rep K ι n H w v
  | _, _, _, _, .nil, e => by simp at e
  | _, _, 0, _, .cons a _, e => by simp at e; subst e; exact ⟨_, rfl, a⟩
  | _, _, i + 1, _, .cons _ b, e => by
    obtain ⟨v, h1, h2⟩ := b.get' (i := i) (by simpa using e)
    exact ⟨v, by simpa using h1, h2⟩
theorem Reps.append {n : Nat} : ∀ {ws ws' : List W} {vs vs' : List V}, Reps K ι n H ws vs → Reps K ι n H ws' vs' → Reps K ι n H (ws ++ ws') (vs ++ vs')
  | _, _, _, _, .nil, s => s
  | _, _, _, _, .cons r t, s => .cons r (Reps.append t s)
theorem Reps.set {n : Nat} {w : W} {v : V} (r : Rep K ι n H w v) : ∀ {ws : List W} {vs : List V} (i : Nat), Reps K ι n H ws vs → Reps K ι n H (ws.set i w) (vs.set i v)
  | _, _, _, .nil => .nil
  | _, _, 0, .cons _ t => .cons r t
  | _, _, i + 1, .cons q t => .cons q (Reps.set r i t)
theorem Reps.take {n : Nat} : ∀ {ws : List W} {vs : List V} (k : Nat), Reps K ι n H ws vs → Reps K ι n H (ws.take k) (vs.take k)
  | _, _, 0, _ => .nil
  | _, _, _ + 1, .nil => .nil
  | _, _, k + 1, .cons r t => .cons r (Reps.take k t)
theorem Reps.drop {n : Nat} : ∀ {ws : List W} {vs : List V} (k : Nat), Reps K ι n H ws vs → Reps K ι n H (ws.drop k) (vs.drop k)
  | _, _, 0, r => r
  | _, _, _ + 1, .nil => .nil
  | _, _, k + 1, .cons _ t => Reps.drop k t
theorem Reps.eraseIdx {n : Nat} : ∀ {ws : List W} {vs : List V} (i : Nat), Reps K ι n H ws vs → Reps K ι n H (ws.eraseIdx i) (vs.eraseIdx i)
  | _, _, _, .nil => .nil
  | _, _, 0, .cons _ t => t
  | _, _, i + 1, .cons q t => .cons q (Reps.eraseIdx i t)
theorem Reps.of_get {n : Nat} : ∀ {ws : List W} {vs : List V}, ws.length = vs.length → (∀ (i : Nat) (w : W) (v : V), ws[i]? = some w → vs[i]? = some v → Rep K ι n H w v) → Reps K ι n H ws vs
  | [], [], _, _ => .nil
  | [], _ :: _, e, _ => by simp at e
  | _ :: _, [], e, _ => by simp at e
  | w :: ws, v :: vs, e, h => .cons (h 0 w v rfl rfl) (Reps.of_get (by simpa using e) fun i a b e1 e2 => h (i + 1) a b (by simpa using e1) (by simpa using e2))
theorem Reps.reverse {n : Nat} {ws : List W} {vs : List V} (h : Reps K ι n H ws vs) : Reps K ι n H ws.reverse vs.reverse := by
  refine Reps.of_get (by simp [h.length]) fun i w v e1 e2 => ?_
  have hl := h.length
  by_cases hi : i < ws.length
  · rw [List.getElem?_reverse hi] at e1
    rw [List.getElem?_reverse (by omega), ← hl] at e2
    obtain ⟨v', q, r⟩ := h.get e1
    rw [q] at e2; cases e2; exact r
  · rw [List.getElem?_eq_none (by simp; omega)] at e1; cases e1
theorem Reps.ints {n : Nat} : ∀ {vs : List V} {ns : List Int}, Reps K ι n H (ns.map W.int) vs → vs = ns.map V.int
  | _, [], h => by cases h; rfl
  | _, i :: r, h => by
    cases h with
    | cons a b => cases a; rw [b.ints]; rfl
theorem Reps.of_ints {n : Nat} : ∀ ns : List Int, Reps K ι n H (ns.map W.int) (ns.map V.int)
  | [] => .nil
  | i :: r => .cons (.int i) (Reps.of_ints r)
theorem Reps.bls {n : Nat} : ∀ {vs : List V} {ns : List Bool}, Reps K ι n H (ns.map W.bl) vs → vs = ns.map V.bl
  | _, [], h => by cases h; rfl
  | _, i :: r, h => by
    cases h with
    | cons a b => cases a; rw [b.bls]; rfl

/-! ### slots -/
structure Slots (K : PySem.W.Frag) (ι : Nat → Addr) (n : Nat) (H : Hp) (sw : SW) (σ : L2.St) : Prop where
  len : sw.length = σ.length
  get : ∀ (i : Nat) (w : W), sw[i]? = some (some w) → ∃ v, σ[i]? = some (some v) ∧ Rep K ι n H w v
theorem Slots.go {sw : SW} {σ : L2.St} (h : Slots K ι S.length H sw σ) (r : Rel K cl ι S H) (g : Go K cl ι S H ι' S' H') : Slots K ι' S'.length H' sw σ :=
  ⟨h.len, fun i w e => let ⟨v, q, x⟩ := h.get i w e; ⟨v, q, x.go r g⟩⟩
theorem Slots.set {n : Nat} {sw : SW} {σ : L2.St} {w : W} {v : V} (h : Slots K ι n H sw σ) (i : Nat) (r : Rep K ι n H w v) : Slots K ι n H (sw.set i (some w)) (σ.set i (some v)) := by
  refine ⟨by simp [h.len], fun j w' e => ?_⟩
  by_cases hj : j = i
  · subst hj
    by_cases hl : j < sw.length
    · rw [List.getElem?_set_self hl] at e
      cases e
      exact ⟨v, by rw [List.getElem?_set_self (by rw [← h.len]; exact hl)], r⟩
    · rw [List.getElem?_eq_none (by simpa using Nat.le_of_not_lt hl)] at e; cases e
  · rw [List.getElem?_set_ne (Ne.symm hj)] at e
    rw [List.getElem?_set_ne (Ne.symm hj)]
    exact h.get j w' e
theorem Slots.unset {n : Nat} {sw : SW} {σ : L2.St} (h : Slots K ι n H sw σ) (i : Nat) : Slots K ι n H (sw.set i none) (σ.set i none) := by
  refine ⟨by simp [h.len], fun j w' e => ?_⟩
  by_cases hj : j = i
  · subst hj
    by_cases hl : j < sw.length
    · rw [List.getElem?_set_self hl] at e; cases e
    · rw [List.getElem?_eq_none (by simpa using Nat.le_of_not_lt hl)] at e; cases e
  · rw [List.getElem?_set_ne (Ne.symm hj)] at e
    rw [List.getElem?_set_ne (Ne.symm hj)]
    exact h.get j w' e

/-! ### one object new, one object changed -/
theorem RepO.mono {n n' : Nat} {a : Addr} {o : WO} (h : RepO K cl ι n H a o) (le : n ≤ n') (ext : ∀ i, i < n → ι' i = ι i) (fresh : ∀ i, n ≤ i → i < n' → H (ι' i) = none) (tp : Kpt H H')
    (ha : ∀ u, H a = some u → H' a = some u) (hx : ∀ d gs, H d = some (.xd gs) → (∀ i, i < n → d ≠ ι i) → H' d = some (.xd gs)) : RepO K cl ι' n' H' a o := by
  cases o with
  | lst ws => obtain ⟨vs, e, r⟩ := h; exact ⟨vs, ha _ e, r.mono le ext tp⟩
  | dic ws => obtain ⟨vs, e, r⟩ := h; exact ⟨vs, ha _ e, r.mono le ext tp⟩
  | ins C ws => obtain ⟨d, vs, e, r⟩ := h; exact ⟨d, vs, ha _ e, r.mono le ext tp⟩
  | loc ws => obtain ⟨o, vs, e, r⟩ := h; exact ⟨o, vs, ha _ e, r.mono le ext tp⟩
  | exc C ws =>
    obtain ⟨d, vs, e, ed, r, ne⟩ := h
    refine ⟨d, vs, ha _ e, hx d vs ed ne, r.mono le ext tp, fun i hi z => ?_⟩
    by_cases hn : i < n
    · exact ne i hn (z.trans (ext i hn))
    · have := fresh i (Nat.le_of_not_lt hn) hi
      rw [← z, ed] at this
      cases this
/-- the number of a new object -/
def ins_ (ι : Nat → Addr) (n : Nat) (p : Addr) : Nat → Addr := fun i => if i = n then p else ι i
theorem ins_same {n : Nat} {p : Addr} : ins_ ι n p n = p := if_pos rfl
theorem ins_lt {n i : Nat} {p : Addr} (h : i < n) : ins_ ι n p i = ι i := if_neg (Nat.ne_of_lt h)
/-- the heap grew by what has no number -/
theorem Rel.grown (r : Rel K cl ι S H) (k : ∀ b u, H b = some u → H' b = some u) : Go K cl ι S H ι S H' :=
  ⟨Nat.le_refl _, fun _ _ => rfl, fun i a b => absurd b (Nat.not_lt.mpr a), fun _ _ e _ _ => k _ _ e, fun _ ps e => ⟨ps, k _ _ e⟩,
    fun i o e => (r.obj i o e).mono (Nat.le_refl _) (fun _ _ => rfl) (fun i a b => absurd b (Nat.not_lt.mpr a)) (fun _ _ _ => k _ _) (fun _ => k _ _) (fun _ _ e _ => k _ _ e), r.inj, r.tab.mono fun a o e h => ⟨h, k _ _ e⟩⟩
theorem upd_keep {p : Addr} {o : HO} (hp : H p = none) : ∀ b u, H b = some u → upd H p o b = some u := fun b u e => by rw [upd_ne (ne_of_none e hp)]; exact e
theorem Rel.tuple (r : Rel K cl ι S H) {p : Addr} {o : HO} (hp : H p = none) : Go K cl ι S H ι S (upd H p o) := r.grown (upd_keep hp)
/-- an object that stands gets a number -/
theorem Rel.push (r : Rel K cl ι S H) {p : Addr} {o : WO} (hf : ∀ i, i < S.length → p ≠ ι i) (hx : ∀ (i : Nat) (C : Str) (fs : List (Str × W)), S[i]? = some (WO.exc C fs) → ∀ gs, H p ≠ some (.xd gs)) (new : RepO K cl (ins_ ι S.length p) (S.length + 1) H p o) (ht : TabR cl (ins_ ι S.length p) (S.length + 1) H) : Rel K cl (ins_ ι S.length p) (S ++ [o]) H := by
  refine ⟨fun i u e => ?_, fun i j hi hj e => ?_, by rw [List.length_append, List.length_singleton]; exact ht⟩
  · rw [List.length_append, List.length_singleton]
    by_cases hi : i < S.length
    · rw [List.getElem?_append_left hi] at e
      rw [ins_lt hi]
      cases u with
      | exc C fs =>
        obtain ⟨d, vs, e1, ed, rr, ne⟩ := r.obj i _ e
        refine ⟨d, vs, e1, ed, rr.mono (Nat.le_succ _) (fun _ h => ins_lt h) (Kpt.refl _), fun j hj z => ?_⟩
        by_cases hn : j < S.length
        · rw [ins_lt hn] at z; exact ne j hn z
        · have : j = S.length := by omega
          subst this
          rw [ins_same] at z
          exact hx i C fs e vs (by rw [← z]; exact ed)
      | lst ws => obtain ⟨vs, e, r⟩ := r.obj i _ e; exact ⟨vs, e, r.mono (Nat.le_succ _) (fun _ h => ins_lt h) (Kpt.refl _)⟩
      | dic ws => obtain ⟨vs, e, r⟩ := r.obj i _ e; exact ⟨vs, e, r.mono (Nat.le_succ _) (fun _ h => ins_lt h) (Kpt.refl _)⟩
      | ins C ws => obtain ⟨d, vs, e, r⟩ := r.obj i _ e; exact ⟨d, vs, e, r.mono (Nat.le_succ _) (fun _ h => ins_lt h) (Kpt.refl _)⟩
      | loc ws => obtain ⟨o, vs, e, r⟩ := r.obj i _ e; exact ⟨o, vs, e, r.mono (Nat.le_succ _) (fun _ h => ins_lt h) (Kpt.refl _)⟩
    · by_cases hs : i = S.length
      · subst hs
        rw [List.getElem?_append_right (Nat.le_refl _), Nat.sub_self] at e
        cases e
        rw [ins_same]; exact new
      · rw [List.getElem?_eq_none (by simp; omega)] at e; cases e
  · rw [List.length_append, List.length_singleton] at hi hj
    by_cases h1 : i < S.length <;> by_cases h2 : j < S.length
    · rw [ins_lt h1, ins_lt h2] at e; exact r.inj i j h1 h2 e
    · have : j = S.length := by omega
      subst this
      rw [ins_lt h1, ins_same] at e
      exact absurd e.symm (hf i h1)
    · have : i = S.length := by omega
      subst this
      rw [ins_lt h2, ins_same] at e
      exact absurd e (hf j h2)
    · omega
/-- a new object is laid -/
theorem Rel.alloc (r : Rel K cl ι S H) {p : Addr} {u : HO} {o : WO} (hp : H p = none) (new : RepO K cl (ins_ ι S.length p) (S.length + 1) (upd H p u) p o) : Go K cl ι S H (ins_ ι S.length p) (S ++ [o]) (upd H p u) := by
  have hne : ∀ i, i < S.length → p ≠ ι i := fun i hi z => by
    obtain ⟨u, hu, _⟩ := r.at_ hi
    rw [← z, hp] at hu; cases hu
  have r' := (r.tuple (o := u) hp).rel
  have ht : TabR cl (ins_ ι S.length p) (S.length + 1) (upd H p u) := r.tab.mono fun a o e h => ⟨fun i hi => by
    by_cases hi2 : i < S.length
    · rw [ins_lt hi2]; exact h i hi2
    · have : i = S.length := by omega
      subst this
      rw [ins_same]; exact ne_of_none e hp, upd_keep hp a o e⟩
  refine ⟨by simp, fun i hi => ins_lt hi, fun i h1 h2 => ?_, fun a o e _ _ => upd_keep hp a o e, fun a ps e => ⟨ps, upd_keep hp a _ e⟩, r'.push hne ?_ new ht⟩
  · have : i = S.length := by simp at h2; omega
    subst this
    rw [ins_same]; exact hp
  · intro i C fs e gs q
    obtain ⟨u', hu'⟩ : ∃ u', upd H p u p = some u' := ⟨_, upd_same⟩
    cases o with
    | lst ws => obtain ⟨vs, e, r⟩ := new; rw [q] at e; cases e
    | dic ws => obtain ⟨vs, e, r⟩ := new; rw [q] at e; cases e
    | ins C ws => obtain ⟨d, vs, e, r⟩ := new; rw [q] at e; cases e
    | loc ws => obtain ⟨o, vs, e, r⟩ := new; rw [q] at e; cases e
    | exc C ws => obtain ⟨d, vs, e, r⟩ := new; rw [q] at e; cases e
/-- an object is changed -/
theorem Rel.write (r : Rel K cl ι S H) {i : Nat} {u : HO} {o : WO} (hi : i < S.length) (new : RepO K cl ι S.length (upd H (ι i) u) (ι i) o) : Go K cl ι S H ι (S.set i o) (upd H (ι i) u) := by
  have tp : Kpt H (upd H (ι i) u) := fun a u k e => by rw [upd_ne (r.tupOff k e i hi)]; exact e
  refine ⟨by simp, fun _ _ => rfl, fun j h1 h2 => absurd (by simpa using h2) (Nat.not_lt.mpr h1), fun a o' e _ h => by rw [upd_ne (h i hi)]; exact e, fun a ps e => ⟨ps, by rw [upd_ne (fun z => (r.obj i S[i] (by simp [hi])).ntb ps (by rw [← z]; exact e))]; exact e⟩, ⟨fun j o' e => ?_, fun j k hj hk => r.inj j k (by simpa using hj) (by simpa using hk), by rw [List.length_set]; exact r.tab.mono fun a o e h => ⟨h, by rw [upd_ne (h i hi)]; exact e⟩⟩⟩
  rw [List.length_set]
  by_cases hj : j = i
  · subst hj
    rw [List.getElem?_set_self hi] at e
    cases e
    exact new
  · rw [List.getElem?_set_ne (Ne.symm hj)] at e
    have hjl : j < S.length := (List.getElem?_eq_some_iff.mp e).1
    exact (r.obj j o' e).mono (Nat.le_refl _) (fun _ _ => rfl) (fun i a b => absurd b (Nat.not_lt.mpr a)) tp
      (fun v e => by rw [upd_ne (fun z => hj (r.inj j i hjl hi z))]; exact e) (fun d gs e h => by rw [upd_ne (h i hi)]; exact e)
end
end DL

set_option Elab.async false
set_option linter.all false
set_option maxRecDepth 100000
/-! DL2: readings by denotation; what is evaluated in a row; statements in a row. -/
namespace DL
open PySem PySem.Spec PyProof.Rows L2
section
variable {K : PySem.W.Frag} {cl : Cla} {ι ι' : Nat → Addr} {S S' : Hs} {H H' : Hp} {α β γ δ : Type}

/-- what is wanted of a result -/
def Res (K : PySem.W.Frag) (cl : Cla) (RA : (Nat → Addr) → Nat → Hp → α → β → Prop) (ι : Nat → Addr) (S : Hs) (H : Hp) (r : R α) (Q : β → Hp → Prop) (E : XK) : Prop :=
  match r with
  | .ok a S' => ∀ (ι' : Nat → Addr) (b : β) (H' : Hp), Go K cl ι S H ι' S' H' → RA ι' S'.length H' a b → Q b H'
  | .exc C fs S' => ∀ (ι' : Nat → Addr) (d : Addr) (gs : List (Str × V)) (H' : Hp), Go K cl ι S H ι' S' H' → H' d = some (.xd gs) → KReps K ι' S'.length H' fs gs → (∀ i, i < S'.length → d ≠ ι' i) → E (.ref (cl C)) (some d) H'
  | .bad => False
theorem Res.imp {RA : (Nat → Addr) → Nat → Hp → α → β → Prop} {r : R α} {Q Q' : β → Hp → Prop} {E : XK} (h : Res K cl RA ι S H r Q E) (q : ∀ b H', Q b H' → Q' b H') : Res K cl RA ι S H r Q' E := by
  cases r with
  | ok a S' => exact fun ι' b H' g x => q _ _ (h ι' b H' g x)
  | exc C fs S' => exact h
  | bad => exact h
theorem Res.split {RA : (Nat → Addr) → Nat → Hp → α → β → Prop} {RB : (Nat → Addr) → Nat → Hp → γ → δ → Prop} {r : R α} {k : α → Hs → R γ} {Q : δ → Hp → Prop} {E : XK} (h : Res K cl RB ι S H (r.bind k) Q E) :
    Res K cl RA ι S H r (fun b H1 => ∃ ι1 S1 a, Go K cl ι S H ι1 S1 H1 ∧ RA ι1 S1.length H1 a b ∧ r = .ok a S1 ∧ Res K cl RB ι1 S1 H1 (k a S1) Q E) E := by
  cases r with
  | ok a S1 =>
    intro ι1 b H1 g x
    refine ⟨ι1, S1, a, g, x, rfl, ?_⟩
    have h' : Res K cl RB ι S H (k a S1) Q E := h
    cases q : k a S1 with
    | ok c S2 => rw [q] at h'; exact fun ι2 b2 H2 g2 x2 => h' ι2 b2 H2 (g.trans g2) x2
    | exc C fs S2 => rw [q] at h'; exact fun ι2 d gs H2 g2 x2 => h' ι2 d gs H2 (g.trans g2) x2
    | bad => rw [q] at h'; exact h'
  | exc C fs S' => exact h
  | bad => exact h
/-- a value without effect -/
theorem Res.ok {RA : (Nat → Addr) → Nat → Hp → α → β → Prop} {a : α} {b : β} {Q : β → Hp → Prop} {E : XK} (h : Res K cl RA ι S H (.ok a S) Q E) (r : Rel K cl ι S H) (x : RA ι S.length H a b) : Q b H := h ι b H (Go.refl r) x

/-! ### readings -/
abbrev RV (K : PySem.W.Frag) : (Nat → Addr) → Nat → Hp → W → V → Prop := fun ι n H w v => Rep K ι n H w v
abbrev RVs (K : PySem.W.Frag) : (Nat → Addr) → Nat → Hp → List W → List V → Prop := fun ι n H w v => Reps K ι n H w v
abbrev RB : (Nat → Addr) → Nat → Hp → Bool → Bool → Prop := fun _ _ _ a b => a = b
structure At (K : PySem.W.Frag) (cl : Cla) (ι : Nat → Addr) (S : Hs) (sw : SW) (σ : L2.St) (H : Hp) : Prop where
  rel : Rel K cl ι S H
  sl : Slots K ι S.length H sw σ
theorem At.go {sw : SW} {σ : L2.St} (a : At K cl ι S sw σ H) (g : Go K cl ι S H ι' S' H') : At K cl ι' S' sw σ H' := ⟨g.rel, a.sl.go a.rel g⟩
def tE (K : PySem.W.Frag) (cl : Cla) (Wx : L2.WX) (f : DE) : TE := fun σ H Q => ∃ ι S sw, At K cl ι S sw σ H ∧ Res K cl (RV K) ι S H (f sw S) Q fun c d H' => Wx c d σ H'
def tA (K : PySem.W.Frag) (cl : Cla) (Wx : L2.WX) (f : DA) : TA := fun σ H Q => ∃ ι S sw, At K cl ι S sw σ H ∧ Res K cl (RVs K) ι S H (f sw S) Q fun c d H' => Wx c d σ H'
def tT (K : PySem.W.Frag) (cl : Cla) (Wx : L2.WX) (f : DT) : TT := fun σ H Q => ∃ ι S sw, At K cl ι S sw σ H ∧ Res K cl RB ι S H (f sw S) Q fun c d H' => Wx c d σ H'
def tO (K : PySem.W.Frag) (cl : Cla) (Wx : L2.WX) (f : SW → Hs → R (Option Int)) : TO := fun σ H Q => ∃ ι S sw, At K cl ι S sw σ H ∧ Res K cl (fun _ _ _ a b => a = b) ι S H (f sw S) Q fun c d H' => Wx c d σ H'

end
theorem _root_.L2.PE.dimp {X : Cx} {e : Expr} {t u : TE} (h : PE X e t) (i : ∀ σ H Q, u σ H Q → t σ H Q) : PE X e u := ⟨fun pins s σ H Q I q => h.run pins s σ H Q I (i σ H Q q)⟩
theorem _root_.L2.PT.dimp {X : Cx} {e : Expr} {t u : TT} (h : PT X e t) (i : ∀ σ H Q, u σ H Q → t σ H Q) : PT X e u := ⟨fun pins s σ H Q I q => h.run pins s σ H Q I (i σ H Q q)⟩
theorem _root_.L2.PW.dimp {X : Cx} {e : Expr} {t u : TT} (h : PW X e t) (i : ∀ σ H Q, u σ H Q → t σ H Q) : PW X e u := ⟨fun wh pins s σ H Q I q => h.run wh pins s σ H Q I (i σ H Q q)⟩
theorem _root_.L2.PA.dimp {X : Cx} {e : List Expr} {t u : TA} (h : PA X e t) (i : ∀ σ H Q, u σ H Q → t σ H Q) : PA X e u := ⟨fun pos pins s σ H Q I q => h.run pos pins s σ H Q I (i σ H Q q)⟩
theorem _root_.L2.PK.dimp {X : Cx} {e : List Keyword} {t u : TA} (h : PK X e t) (i : ∀ σ H Q, u σ H Q → t σ H Q) : PK X e u := ⟨fun pos pins s σ H Q I q => h.run pos pins s σ H Q I (i σ H Q q)⟩
theorem _root_.L2.PO.dimp {X : Cx} {e : Option Expr} {t u : TO} (h : PO X e t) (i : ∀ σ H Q, u σ H Q → t σ H Q) : PO X e u := ⟨fun pins s σ H Q I q => h.run pins s σ H Q I (i σ H Q q)⟩
theorem _root_.L2.PS.dimp {X : Cx} {e : Stmt} {t u : TS} (h : PS X e t) (i : ∀ D σ H, u D σ H → t D σ H) : PS X e u := ⟨fun pins s σ H D I q => h.run pins s σ H D I (i D σ H q)⟩
theorem _root_.L2.PSs.dimp {X : Cx} {e : List Stmt} {t u : TS} (h : PSs X e t) (i : ∀ D σ H, u D σ H → t D σ H) : PSs X e u := ⟨fun pins s σ H D I q => h.run pins s σ H D I (i D σ H q)⟩

/-! ### small expressions -/
def dvar (i : Nat) : DE := fun sw S => match sw[i]? with | some (some w) => .ok w S | _ => .bad
def dcon (w : W) : DE := fun _ S => .ok w S
section
variable {X : Cx} {cl : Cla} {Wx : L2.WX} {pos : Pos}
theorem d_var {i : Nat} {x : Str} (hN : X.N[i]? = some x := by rfl) (hv : Vis X.env.scope x := by first | exact Or.inl rfl | exact Or.inr (Or.inl rfl) | exact Or.inr (Or.inr rfl)) (hd : (x == ("__debug__" : Str)) = false := by decide) (hcd : (x == ("__classdict__" : Str)) = false := by decide) :
    PE X (.Name x pos) (tE X.K cl Wx (dvar i)) := (pe_var hN hv hd hcd).dimp fun σ H Q h => by
  obtain ⟨ι, S, sw, a, h⟩ := h
  unfold dvar at h
  split at h
  · rename_i w e
    obtain ⟨v, q, r⟩ := a.sl.get i w e
    exact ⟨v, q, h.ok a.rel r⟩
  · exact h.elim
theorem d_con {e : Expr} {w : W} {v : V} (h : PE X e (tC v)) (r : ∀ ι n H, Rep X.K ι n H w v) : PE X e (tE X.K cl Wx (dcon w)) := h.dimp fun σ H Q h => by
  obtain ⟨ι, S, sw, a, h⟩ := h
  exact Res.ok (a := w) h a.rel (r ι _ H)
theorem d_int {i : Int} {j : Nat} : PE X (.Constant (.int i) j pos) (tE X.K cl Wx (dcon (.int i))) := d_con pe_int fun _ _ _ => .int i
theorem d_bl {i : Bool} {j : Nat} : PE X (.Constant (.bool i) j pos) (tE X.K cl Wx (dcon (.bl i))) := d_con pe_bl fun _ _ _ => .bl i
theorem d_non {j : Nat} : PE X (.Constant .none j pos) (tE X.K cl Wx (dcon .non)) := d_con pe_non fun _ _ _ => .non
theorem d_str {x : Str} {j : Nat} : PE X (.Constant (.str x) j pos) (tE X.K cl Wx (dcon (.str x))) := d_con pe_str fun _ _ _ => .str x
theorem d_glob {x : Str} {u : Value} {v : V} {w : W} (hg : Gl X x) (hm : X.mg x = some u) (r : RelV v u) (hr : ∀ ι n H, Rep X.K ι n H w v) (hd : (x == ("__debug__" : Str)) = false := by decide) : PE X (.Name x pos) (tE X.K cl Wx (dcon w)) := d_con (pe_glob hg hm r hd) hr
end

/-! ### two, one value -/
def dbin (g : W → W → Hs → R W) (a b : DE) : DE := fun sw S => (a sw S).bind fun x S1 => (b sw S1).bind fun y S2 => g x y S2
def dun (g : W → Hs → R W) (a : DE) : DE := fun sw S => (a sw S).bind fun x S1 => g x S1
/-- g is what r gives -/
def OpG (K : PySem.W.Frag) (r : R2) (g : W → W → Hs → R W) : Prop :=
  ∀ (cl : Cla) (ι : Nat → Addr) (S : Hs) (H : Hp) (x y : W) (v u : V) (Q : VK) (E : XK), Rel K cl ι S H → Rep K ι S.length H x v → Rep K ι S.length H y u → Res K cl (RV K) ι S H (g x y S) Q E → r v u H Q
def UnG (K : PySem.W.Frag) (r : V → Hp → VK → Prop) (g : W → Hs → R W) : Prop :=
  ∀ (cl : Cla) (ι : Nat → Addr) (S : Hs) (H : Hp) (x : W) (v : V) (Q : VK) (E : XK), Rel K cl ι S H → Rep K ι S.length H x v → Res K cl (RV K) ι S H (g x S) Q E → r v H Q
section
variable {X : Cx} {cl : Cla} {Wx : L2.WX} {pos : Pos} {a b c : Expr} {fa fb fc : DE}
theorem t_bin {K : PySem.W.Frag} {r : R2} {g : W → W → Hs → R W} (hr : OpG K r g) {σ : L2.St} {H : Hp} {Q : VK} (h : tE K cl Wx (dbin g fa fb) σ H Q) : tOp r (tE K cl Wx fa) (tE K cl Wx fb) σ H Q := by
  obtain ⟨ι, S, sw, A, h⟩ := h
  refine ⟨ι, S, sw, A, Res.imp (Res.split (RA := RV K) h) fun x H1 ⟨ι1, S1, w1, g1, r1, _, h1⟩ => ?_⟩
  refine ⟨ι1, S1, sw, A.go g1, Res.imp (Res.split (RA := RV K) h1) fun y H2 ⟨ι2, S2, w2, g2, r2, _, h2⟩ => ?_⟩
  exact hr cl ι2 S2 H2 w1 w2 x y Q _ g2.rel (r1.go g1.rel g2) r2 h2
theorem t_un {K : PySem.W.Frag} {r : V → Hp → VK → Prop} {g : W → Hs → R W} (hr : UnG K r g) {σ : L2.St} {H : Hp} {Q : VK} (h : tE K cl Wx (dun g fa) σ H Q) : tUn r (tE K cl Wx fa) σ H Q := by
  obtain ⟨ι, S, sw, A, h⟩ := h
  refine ⟨ι, S, sw, A, Res.imp (Res.split (RA := RV K) h) fun x H1 ⟨ι1, S1, w1, g1, r1, _, h1⟩ => ?_⟩
  exact hr cl ι1 S1 H1 w1 x Q _ g1.rel r1 h1
theorem d_op {op : Operator} {r : R2} {g : W → W → Hs → R W} (ho : OpR X (binaryOp op) r) (hr : OpG X.K r g) (ha : PE X a (tE X.K cl Wx fa)) (hb : PE X b (tE X.K cl Wx fb)) : PE X (.BinOp a op b pos) (tE X.K cl Wx (dbin g fa fb)) :=
  (pe_op ho ha hb).dimp fun _ _ _ => t_bin hr
theorem d_cmp {op : CmpOp} {r : R2} {g : W → W → Hs → R W} (ho : OpR X (compareOp op) r) (hr : OpG X.K r g) (ha : PE X a (tE X.K cl Wx fa)) (hb : PE X b (tE X.K cl Wx fb)) (hm : behindInMarks op b = false) : PE X (.Compare a [op] [b] pos) (tE X.K cl Wx (dbin g fa fb)) :=
  (pe_cmpR ho ha hb hm).dimp fun _ _ _ => t_bin hr
theorem d_un {op : UnaryOp} {r : V → Hp → VK → Prop} {g : W → Hs → R W} (ho : UnR X (unaryOp op) r) (hr : UnG X.K r g) (ha : PE X a (tE X.K cl Wx fa)) : PE X (.UnaryOp op a pos) (tE X.K cl Wx (dun g fa)) :=
  (pe_un ho ha).dimp fun _ _ _ => t_un hr
/-- a <= b <= c -/
def dchain (g g' : W → W → Hs → R W) (a b c : DE) : DE := fun sw S => (a sw S).bind fun x S1 => (b sw S1).bind fun y S2 => (g x y S2).bind fun z S3 => match z with
  | .bl true => (c sw S3).bind fun u S4 => g' y u S4
  | .bl false => .ok (.bl false) S3
  | _ => .bad
end
end DL

set_option Elab.async false
set_option linter.all false
set_option maxRecDepth 100000
/-! DL3: operators. -/
namespace DL
open PySem PySem.Spec PyProof.Rows L2

/-- a list that is written or the script -/
def LstAt (K : PySem.W.Frag) (H : Hp) (a : Addr) (xs : List V) : Prop := H a = some (.lst xs) ∨ FroAt K H a xs
theorem LstAt.sq {K : PySem.W.Frag} {H : Hp} {a : Addr} {vs : List V} (h : LstAt K H a vs) : SqL K H a vs := h.elim (fun h => .inl (.inl h)) fun h => h.sq
/-- the items of a list -/
def lstOf (S : Hs) : W → Option (List W)
  | .ref i => match S[i]? with | some (.lst ws) => some ws | _ => none
  | .fro ws => some ws
  | _ => none
section
variable {K : PySem.W.Frag} {cl : Cla} {ι : Nat → Addr} {S : Hs} {H : Hp}
theorem lstOf_at (r : Rel K cl ι S H) {w : W} {v : V} {ws : List W} (h : Rep K ι S.length H w v) (e : lstOf S w = some ws) : ∃ a vs, v = .ref a ∧ LstAt K H a vs ∧ Reps K ι S.length H ws vs := by
  cases w with
  | ref i =>
    cases h with
    | ref hi =>
      have e' : (match S[i]? with | some (.lst ws) => some ws | _ => none) = some ws := e
      split at e'
      · rename_i q
        cases e'
        obtain ⟨vs, h1, h2⟩ := r.obj _ _ q
        exact ⟨_, vs, rfl, .inl h1, h2⟩
      · cases e'
  | fro xs =>
    cases h with
    | fro h1 h2 => cases e; exact ⟨_, _, rfl, .inr h1, h2⟩
  | _ => cases e
theorem lst_at (r : Rel K cl ι S H) {i : Nat} {ws : List W} (e : S[i]? = some (.lst ws)) : ∃ vs, H (ι i) = some (.lst vs) ∧ Reps K ι S.length H ws vs := r.obj _ _ e
/-- a new list -/
theorem Rel.newL (r : Rel K cl ι S H) {p : Addr} {ws : List W} {vs : List V} (hp : H p = none) (h : Reps K ι S.length H ws vs) : Go K cl ι S H (ins_ ι S.length p) (S ++ [WO.lst ws]) (upd H p (.lst vs)) ∧ Rep K (ins_ ι S.length p) (S ++ [WO.lst ws]).length (upd H p (.lst vs)) (.ref S.length) (.ref p) := by
  refine ⟨r.alloc hp ⟨vs, upd_same, h.mono (Nat.le_succ _) (fun i hi => ins_lt hi) fun a u _ e => upd_keep hp a u e⟩, ?_⟩
  have : Rep K (ins_ ι S.length p) (S ++ [WO.lst ws]).length (upd H p (.lst vs)) (.ref S.length) (.ref (ins_ ι S.length p S.length)) := .ref (by simp)
  rwa [ins_same] at this
/-- a new tuple -/
theorem Rel.newT (r : Rel K cl ι S H) {p : Addr} {ws : List W} {vs : List V} (hp : H p = none) (h : Reps K ι S.length H ws vs) : Go K cl ι S H ι S (upd H p (.tup vs)) ∧ Rep K ι S.length (upd H p (.tup vs)) (.tup ws) (.ref p) := by
  have g := r.tuple (o := .tup vs) hp
  exact ⟨g, .tup (.inl (.inl upd_same)) (h.go r g)⟩
theorem Rep.tup_inv {n : Nat} {ws : List W} {v : V} (h : Rep K ι n H (.tup ws) v) : ∃ a vs, v = .ref a ∧ TupAt K H a vs ∧ Reps K ι n H ws vs := by
  cases h with
  | tup a b => exact ⟨_, _, rfl, a, b⟩
theorem Rep.int_inv {n : Nat} {i : Int} {v : V} (h : Rep K ι n H (.int i) v) : v = .int i := by cases h; rfl
theorem Rep.bl_inv {n : Nat} {i : Bool} {v : V} (h : Rep K ι n H (.bl i) v) : v = .bl i := by cases h; rfl
theorem Rep.str_inv {n : Nat} {i : Str} {v : V} (h : Rep K ι n H (.str i) v) : v = .str i := by cases h; rfl
theorem Rep.non_inv {n : Nat} {v : V} (h : Rep K ι n H .non v) : v = .non := by cases h; rfl
theorem Rep.ref_inv {n : Nat} {i : Nat} {v : V} (h : Rep K ι n H (.ref i) v) : v = .ref (ι i) ∧ i < n := by cases h; exact ⟨rfl, by assumption⟩
end

/-! ### + -/
def addW (x y : W) (S : Hs) : R W := match x, y with
  | .int i, .int j => .ok (.int (i + j)) S
  | .int i, .bl k => .ok (.int (i + b2i k)) S
  | .str a, .str b => if a.length + b.length ≤ sizeLine then .ok (.str (a ++ b)) S else .bad
  | .tup a, .tup b => if a.length + b.length ≤ sizeLine then .ok (.tup (a ++ b)) S else .bad
  | x, y => match lstOf S x, lstOf S y with
    | some a, some b => if a.length + b.length ≤ sizeLine then .ok (.ref S.length) (S ++ [.lst (a ++ b)]) else .bad
    | _, _ => .bad
section
variable {X : Cx}
def rCatF (K : PySem.W.Frag) : R2 := fun x y H Q => ∃ l b xs zs, x = .ref l ∧ y = .ref b ∧ LstAt K H l xs ∧ LstAt K H b zs ∧ xs.length + zs.length ≤ sizeLine ∧ ∀ p, H p = none → Q (.ref p) (upd H p (.lst (xs ++ zs)))
theorem lstRaw {pins : List (Addr × Obj)} {s : Shared} {σ : L2.St} {H : Hp} {a : Addr} {xs : List V} (I : Inv X pins σ H s) (h : LstAt X.K H a xs) :
    ∃ (its : List Value) (n : Nat), Vals xs its ∧ s.heap.get? a = some { cls := .type "list", data := .seq its.toArray n } ∧ xs.length ≤ sizeLine := by
  rcases h with h | ⟨o, h⟩ | ⟨its, n, e, z, r⟩
  · obtain ⟨z, its, n, r, e⟩ := I.hok a _ h
    exact ⟨its, n, r, e, z⟩
  · obtain ⟨q, z, its, n, r, e⟩ := I.hok a _ h
    exact ⟨its, n, r, e, z⟩
  · exact ⟨its, n, r, I.kIn a _ e, by rw [r.length]; exact z⟩
theorem op_catF : OpR X (binaryOp .Add) (rCatF X.K) := by
  intro pins s σ H x y v u Q I rx ry h
  obtain ⟨l, b, xs, zs, rfl, rfl, hH, hB, hz, q⟩ := h
  cases rx
  cases ry
  obtain ⟨its, n, r, e, hl⟩ := lstRaw I hH
  obtain ⟨its2, n2, r2, e2, hl2⟩ := lstRaw I hB
  have z1 := r.length
  have z2 := r2.length
  refine PySem.P.add_list e e2 ?_ (by rw [List.size_toArray, List.size_toArray]; omega)
  have ea : its.toArray ++ its2.toArray = (its ++ its2).toArray := by simp
  rw [ea]
  exact ⟨.ref _, _, I.lnew (t' := s.toks) (r.append r2) (by rw [List.length_append]; omega), rfl, q _ I.fresh⟩
def rAddW (K : PySem.W.Frag) : R2 := fun x y H Q => rI0 (fun i j => .int (i + j)) x y H Q ∨ (∃ i k, x = .int i ∧ y = .bl k ∧ Q (.int (i + b2i k)) H) ∨ (∃ i j, x = .str i ∧ y = .str j ∧ i.length + j.length ≤ sizeLine ∧ Q (.str (i ++ j)) H) ∨ rCatA K x y H Q ∨ rCatF K x y H Q
theorem o_add : OpR X (binaryOp .Add) (rAddW X.K) := op_add.or (op_add_ib.or (op_add_str.or (op_catA.or op_catF)))
theorem g_add {K : PySem.W.Frag} : OpG K (rAddW K) addW := by
  intro cl ι S H x y v u Q E r rx ry h
  have lists : ∀ {a b : List W}, lstOf S x = some a → lstOf S y = some b → a.length + b.length ≤ sizeLine → Res K cl (RV K) ι S H (.ok (.ref S.length) (S ++ [WO.lst (a ++ b)])) Q E → rAddW K v u H Q := fun {a b} e1 e2 hz h => by
    obtain ⟨l, vs, rfl, h1, r1⟩ := lstOf_at r rx e1
    obtain ⟨l2, vs2, rfl, h2, r2⟩ := lstOf_at r ry e2
    refine .inr (.inr (.inr (.inr ⟨l, l2, vs, vs2, rfl, rfl, h1, h2, by rw [← r1.length, ← r2.length]; exact hz, fun p hp => ?_⟩)))
    obtain ⟨g, rp⟩ := r.newL hp (r1.append r2)
    exact h _ _ _ g rp
  unfold addW at h
  split at h
  · cases rx; cases ry; exact .inl ⟨_, _, rfl, rfl, Res.ok h r (.int _)⟩
  · cases rx; cases ry; exact .inr (.inl ⟨_, _, rfl, rfl, Res.ok h r (.int _)⟩)
  · split at h
    · rename_i hz
      cases rx; cases ry; exact .inr (.inr (.inl ⟨_, _, rfl, rfl, hz, Res.ok h r (.str _)⟩))
    · exact h.elim
  · split at h
    · rename_i a b hz
      obtain ⟨l, vs, rfl, h1, r1⟩ := rx.tup_inv
      obtain ⟨l2, vs2, rfl, h2, r2⟩ := ry.tup_inv
      have z1 := r1.length
      have z2 := r2.length
      refine .inr (.inr (.inr (.inl ⟨l, l2, vs, vs2, rfl, rfl, h1.sq, h2.sq, by omega, fun e => ?_, fun _ e => ?_, fun _ _ p hp => ?_⟩)))
      · subst e
        have : a = [] := List.eq_nil_of_length_eq_zero z1
        subst this
        exact Res.ok h r (.tup h2 r2)
      · subst e
        have : b = [] := List.eq_nil_of_length_eq_zero z2
        subst this
        rw [List.append_nil] at h
        exact Res.ok h r (.tup h1 r1)
      · obtain ⟨g, rp⟩ := r.newT hp (r1.append r2)
        exact h _ _ _ g rp
    · exact h.elim
  · split at h
    · rename_i e1 e2
      split at h
      · rename_i hz
        exact lists e1 e2 hz h
      · exact h.elim
    · exact h.elim
end
end DL

set_option Elab.async false
set_option linter.all false
set_option maxRecDepth 100000
/-! DL4: data as a whole: ==, repr, in. -/
namespace DL
open PySem PySem.Spec PyProof.Rows L2

def toDs (f : W → Option PyData) : List W → Option (List PyData)
  | [] => some []
  | w :: r => match f w, toDs f r with
    | some d, some ds => some (d :: ds)
    | _, _ => none
def toD (S : Hs) : Nat → W → Option PyData
  | 0 => fun w => match w with
    | .non => some .none
    | .bl b => some (.bool b)
    | .int i => some (.int i)
    | .str x => some (.str x)
    | _ => none
  | k + 1 => fun w => match w with
    | .non => some .none
    | .bl b => some (.bool b)
    | .int i => some (.int i)
    | .str x => some (.str x)
    | .tup ws => (toDs (toD S k) ws).map .tuple
    | .fro ws => (toDs (toD S k) ws).map .list
    | .ftp _ => none
    | .ref i => match S[i]? with
      | some (.lst ws) => (toDs (toD S k) ws).map .list
      | some (.dic []) => some (.dict [])
      | _ => none
section
variable {X : Cx} {pins : List (Addr × Obj)} {σ : L2.St} {s : Shared} {cl : Cla} {ι : Nat → Addr} {S : Hs} {H : Hp}
theorem reads_all {f : W → Option PyData} {n : Nat} (hf : ∀ (w : W) (v : V) (u : Value) (d : PyData), Rep X.K ι n H w v → RelV v u → f w = some d → ∃ as, Reads s.heap u d as) :
    ∀ (ws : List W) (vs : List V) (us : List Value) (ds : List PyData), Reps X.K ι n H ws vs → Vals vs us → toDs f ws = some ds → ∃ as, ReadsAll s.heap us ds as
  | [], _, _, _, h, r, e => by cases h; cases r; cases e; exact ⟨_, .nil⟩
  | w :: ws, _, _, _, h, r, e => by
    cases h with
    | cons h1 h2 =>
      cases r with
      | cons r1 r2 =>
        unfold toDs at e
        split at e
        · rename_i d ds e1 e2
          cases e
          obtain ⟨as, q1⟩ := hf w _ _ d h1 r1 e1
          obtain ⟨bs, q2⟩ := reads_all hf ws _ _ ds h2 r2 e2
          exact ⟨_, .cons q1 q2⟩
        · cases e
theorem reads_of (I : Inv X pins σ H s) (R : Rel X.K cl ι S H) : ∀ (k : Nat) (w : W) (v : V) (u : Value) (d : PyData), Rep X.K ι S.length H w v → RelV v u → toD S k w = some d → ∃ as, Reads s.heap u d as := by
  have leaf : ∀ (w : W) (v : V) (u : Value) (d : PyData), Rep X.K ι S.length H w v → RelV v u → toD S 0 w = some d → ∃ as, Reads s.heap u d as := by
    intro w v u d h r e
    cases h <;> first
      | (cases e; cases r; exact ⟨_, .none⟩)
      | (cases e; cases r; exact ⟨_, .bool _⟩)
      | (cases e; obtain ⟨t, rfl⟩ := r; exact ⟨_, .int _ t⟩)
      | (cases e; obtain ⟨t, rfl⟩ := r; exact ⟨_, .str _ t⟩)
      | cases e
  intro k
  induction k with
  | zero => exact leaf
  | succ k ih =>
    intro w v u d h r e
    cases h with
    | non => exact leaf _ _ _ _ .non r e
    | bl b => exact leaf _ _ _ _ (.bl b) r e
    | int b => exact leaf _ _ _ _ (.int b) r e
    | str b => exact leaf _ _ _ _ (.str b) r e
    | tup ht hr =>
      rename_i a vs ws
      have e' : (toDs (toD S k) ws).map PyData.tuple = some d := e
      obtain ⟨ds, e1, rfl⟩ := Option.map_eq_some_iff.mp e'
      cases r
      obtain ⟨its, rv, ⟨o, ho, hc, n, hd⟩, _⟩ := I.tuple ht.sq
      obtain ⟨as, q⟩ := reads_all ih ws _ its ds hr rv e1
      exact ⟨_, .tuple ho hc hd q⟩
    | fro ht hr =>
      rename_i a vs ws
      have e' : (toDs (toD S k) ws).map PyData.list = some d := e
      obtain ⟨ds, e1, rfl⟩ := Option.map_eq_some_iff.mp e'
      cases r
      obtain ⟨its, n, rv, ho, _⟩ := lstRaw I (.inr ht)
      obtain ⟨as, q⟩ := reads_all ih ws _ its ds hr rv e1
      exact ⟨_, .list ho rfl rfl q⟩
    | ftp ht hr => cases e
    | ref hi =>
      rename_i i
      have e' : (match S[i]? with | some (.lst ws) => (toDs (toD S k) ws).map .list | some (.dic []) => some (.dict []) | _ => none) = some d := e
      cases r
      split at e'
      · rename_i ws q
        obtain ⟨ds, e1, rfl⟩ := Option.map_eq_some_iff.mp e'
        obtain ⟨vs, h1, h2⟩ := lst_at R q
        obtain ⟨its, n, rv, ho, _⟩ := lstRaw I (.inl h1)
        obtain ⟨as, q⟩ := reads_all ih ws _ its ds h2 rv e1
        exact ⟨_, .list ho rfl rfl q⟩
      · rename_i q
        cases e'
        obtain ⟨kvs, h1, h2, h3⟩ := R.obj _ _ q
        have hk : kvs = [] := by
          cases kvs with
          | nil => rfl
          | cons _ _ => simp at h2
        subst hk
        obtain ⟨_, _, vs, kv, o, es, ep, ho, hx, hd, _, pr, _⟩ := I.hok _ _ h1
        cases kv
        have he : es.toList = [] := by cases q2 : es.toList with
          | nil => rfl
          | cons _ _ => rw [q2] at pr; cases pr
        exact ⟨_, .dict ho hx.1 hd (by rw [he]; exact .nil) (by rw [he]; exact .nil)⟩
      · cases e'
end

/-! ### == and != -/
def dataDepth : Nat := 40
def eqD (x y : W) (S : Hs) : Option Bool := match toD S dataDepth x, toD S dataDepth y with
  | some d, some e => if SeqAt.shaped d = true ∧ SeqAt.shaped e = true then some (PyData.eqv d e) else none
  | _, _ => none
def eqW (x y : W) (S : Hs) : R W := match eqD x y S with
  | some b => .ok (.bl b) S
  | none => .bad
def neW (x y : W) (S : Hs) : R W := match eqD x y S with
  | some b => .ok (.bl (!b)) S
  | none => .bad
/-- two values and their relation, for a rule of two values -/
def DOp (X : Cx) (f : Value → Value → Sem Value) (g : W → W → Hs → R W) : Prop :=
  ∀ (pins : List (Addr × Obj)) (s : Shared) (σ : L2.St) (cl : Cla) (ι : Nat → Addr) (S : Hs) (H : Hp) (x y : W) (a b : V) (v u : Value) (Q : VK) (E : XK), Inv X pins σ H s → Rel X.K cl ι S H → Rep X.K ι S.length H x a → Rep X.K ι S.length H y b → RelV a v → RelV b u →
    Res X.K cl (RV X.K) ι S H (g x y S) Q E → wpAny (model X.prog X.w) X.A (f v u) (EP X pins σ Q) X.xe s
/-- the reading of such a rule -/
def rD (K : PySem.W.Frag) (g : W → W → Hs → R W) : R2 := fun a b H Q => ∃ (cl : Cla) (ι : Nat → Addr) (S : Hs) (x y : W) (E : XK), Rel K cl ι S H ∧ Rep K ι S.length H x a ∧ Rep K ι S.length H y b ∧ Res K cl (RV K) ι S H (g x y S) Q E
section
variable {X : Cx}
theorem DOp.op {f : Value → Value → Sem Value} {g : W → W → Hs → R W} (h : DOp X f g) : OpR X f (rD X.K g) := by
  intro pins s σ H a b v u Q I ra rb q
  obtain ⟨cl, ι, S, x, y, E, r, rx, ry, q⟩ := q
  exact h pins s σ cl ι S H x y a b v u Q E I r rx ry ra rb q
theorem g_D {K : PySem.W.Frag} {g : W → W → Hs → R W} : OpG K (rD K g) g := fun cl ι S H x y v u Q E r rx ry h => ⟨cl, ι, S, x, y, E, r, rx, ry, h⟩
theorem DOp.of {f : Value → Value → Sem Value} {g : W → W → Hs → R W} {r : R2} (h : OpR X f r) (hg : OpG X.K r g) : DOp X f g := fun pins s σ cl ι S H x y a b v u Q E I R rx ry ra rb q => h pins s σ H a b v u Q I ra rb (hg cl ι S H x y a b Q E R rx ry q)
theorem dop_eq (hu : X.A.units + 64 < cLine) : DOp X (compareOp .Eq) eqW := by
  intro pins s σ cl ι S H x y a b v u Q E I R rx ry ra rb h
  unfold eqW eqD at h
  cases e1 : toD S dataDepth x with
  | none => rw [e1] at h; exact h.elim
  | some d =>
    cases e2 : toD S dataDepth y with
    | none => rw [e1, e2] at h; exact h.elim
    | some e =>
      rw [e1, e2] at h
      by_cases hs : SeqAt.shaped d = true ∧ SeqAt.shaped e = true
      · simp only [if_pos hs] at h
        obtain ⟨as, r1⟩ := reads_of I R _ x a v d rx ra e1
        obtain ⟨bs, r2⟩ := reads_of I R _ y b u e ry rb e2
        exact SeqAt.compareEq_shaped r1 r2 hs.1 hs.2 hu ⟨.bl _, H, I, rfl, Res.ok h R (.bl _)⟩
      · simp only [if_neg hs] at h
        exact h.elim
theorem dop_ne (hu : X.A.units + 64 < cLine) : DOp X (compareOp .NotEq) neW := by
  intro pins s σ cl ι S H x y a b v u Q E I R rx ry ra rb h
  unfold neW eqD at h
  cases e1 : toD S dataDepth x with
  | none => rw [e1] at h; exact h.elim
  | some d =>
    cases e2 : toD S dataDepth y with
    | none => rw [e1, e2] at h; exact h.elim
    | some e =>
      rw [e1, e2] at h
      by_cases hs : SeqAt.shaped d = true ∧ SeqAt.shaped e = true
      · simp only [if_pos hs] at h
        obtain ⟨as, r1⟩ := reads_of I R _ x a v d rx ra e1
        obtain ⟨bs, r2⟩ := reads_of I R _ y b u e ry rb e2
        exact SeqAt.compareNe_shaped r1 r2 hs.1 hs.2 hu ⟨.bl _, H, I, rfl, Res.ok h R (.bl _)⟩
      · simp only [if_neg hs] at h
        exact h.elim
end
end DL

set_option Elab.async false
set_option linter.all false
set_option maxRecDepth 100000
/-! DL5: truth, tests, and, or, not, if; more operators. -/
namespace DL
open PySem PySem.Spec PyProof.Rows L2

def truthW (w : W) (S : Hs) : Option Bool := match w with
  | .non => some false
  | .bl b => some b
  | .int i => some (i != 0)
  | .str y => if y.length ≤ sizeLine then some ((y.length : Int) != 0) else none
  | .tup ws => some (!ws.isEmpty)
  | .fro ws => some (!ws.isEmpty)
  | .ftp _ => none
  | .ref i => match S[i]? with
    | some (.lst ws) => some (!ws.isEmpty)
    | some (.dic kvs) => some (!kvs.isEmpty)
    | _ => none
section
variable {K : PySem.W.Frag} {cl : Cla} {ι : Nat → Addr} {S : Hs} {H : Hp}
theorem Reps.isEmpty {n : Nat} {ws : List W} {vs : List V} (h : Reps K ι n H ws vs) : vs.isEmpty = ws.isEmpty := by cases h <;> rfl
theorem truth_at (r : Rel K cl ι S H) {w : W} {v : V} {b : Bool} (h : Rep K ι S.length H w v) (e : truthW w S = some b) : TruV K v H b := by
  cases h with
  | non => cases e; rfl
  | bl b => cases e; rfl
  | int i => cases e; rfl
  | str x =>
    unfold truthW at e
    simp only at e
    split at e
    · cases e; exact ⟨by assumption, rfl⟩
    · cases e
  | tup ht hr => cases e; exact .inr (.inl ⟨_, ht.sq, by rw [hr.isEmpty]⟩)
  | fro ht hr => cases e; exact .inl ⟨_, ht.sq, by rw [hr.isEmpty]⟩
  | ftp ht hr => cases e
  | ref hi =>
    rename_i i
    have e' : (match S[i]? with | some (.lst ws) => some (!ws.isEmpty) | some (.dic kvs) => some (!kvs.isEmpty) | _ => none) = some b := e
    split at e'
    · rename_i ws q
      cases e'
      obtain ⟨vs, h1, h2⟩ := lst_at r q
      exact .inl ⟨vs, .inl (.inl h1), by rw [h2.isEmpty]⟩
    · rename_i kvs q
      cases e'
      obtain ⟨vs, h1, h2, h3⟩ := r.obj _ _ q
      refine .inr (.inr ⟨vs, h1, ?_⟩)
      cases kvs <;> cases vs <;> first | rfl | simp at h2
    · cases e'
end
/-! ### tests -/
def dtru (f : DE) : DT := fun sw S => (f sw S).bind fun w S1 => match truthW w S1 with
  | some b => .ok b S1
  | none => .bad
def dtst (f : DE) : DT := fun sw S => (f sw S).bind fun w S1 => match w with
  | .bl b => .ok b S1
  | _ => .bad
def dandT (t u : DT) : DT := fun sw S => (t sw S).bind fun b S1 => if b = true then u sw S1 else .ok false S1
def dorT (t u : DT) : DT := fun sw S => (t sw S).bind fun b S1 => if b = true then .ok true S1 else u sw S1
def dnotT (t : DT) : DT := fun sw S => (t sw S).bind fun b S1 => .ok (!b) S1
def difE (t : DT) (a b : DE) : DE := fun sw S => (t sw S).bind fun c S1 => if c = true then a sw S1 else b sw S1
def dandV (a b : DE) : DE := fun sw S => (a sw S).bind fun w S1 => match truthW w S1 with
  | some true => b sw S1
  | some false => .ok w S1
  | none => .bad
def dorV (a b : DE) : DE := fun sw S => (a sw S).bind fun w S1 => match truthW w S1 with
  | some true => .ok w S1
  | some false => b sw S1
  | none => .bad
def dnotV (a : DE) : DE := fun sw S => (a sw S).bind fun w S1 => match truthW w S1 with
  | some b => .ok (.bl (!b)) S1
  | none => .bad
section
variable {X : Cx} {cl : Cla} {Wx : L2.WX} {pos : Pos} {a b c : Expr} {rest : List Expr} {fa fb fc : DE} {ta tb : DT} {σ : L2.St} {H : Hp}
theorem t_tru {K : PySem.W.Frag} {Q : Bool → Hp → Prop} (h : tT K cl Wx (dtru fa) σ H Q) : tE K cl Wx fa σ H fun x H' => ∃ k, TruV K x H' k ∧ Q k H' := by
  obtain ⟨ι, S, sw, A, h⟩ := h
  refine ⟨ι, S, sw, A, Res.imp (Res.split (RA := RV K) h) fun x H1 ⟨ι1, S1, w1, g1, r1, _, h1⟩ => ?_⟩
  split at h1
  · rename_i b e
    exact ⟨b, truth_at g1.rel r1 e, Res.ok (RA := RB) h1 g1.rel rfl⟩
  · exact h1.elim
theorem d_tru (ha : PE X a (tE X.K cl Wx fa)) (he : ∀ whole, isTrue a X.env whole = (do let v ← whole; standAt a.pos; holding [v] (truthy v)) := by intro _; rfl) : PT X a (tT X.K cl Wx (dtru fa)) :=
  (pt_truth ha he).dimp fun _ _ _ => t_tru
theorem t_tst {K : PySem.W.Frag} {Q : Bool → Hp → Prop} {t : TE} (ht : ∀ Q, tE K cl Wx fa σ H Q → t σ H Q) (h : tT K cl Wx (dtst fa) σ H Q) : tTest t σ H Q := by
  obtain ⟨ι, S, sw, A, h⟩ := h
  refine ht _ ⟨ι, S, sw, A, Res.imp (Res.split (RA := RV K) h) fun x H1 ⟨ι1, S1, w1, g1, r1, _, h1⟩ => ?_⟩
  split at h1
  · cases r1
    exact ⟨_, rfl, Res.ok (RA := RB) h1 g1.rel rfl⟩
  · exact h1.elim
theorem d_tcmp {op : CmpOp} {r : R2} {g : W → W → Hs → R W} (ho : OpR X (compareOp op) r) (hr : OpG X.K r g) (ha : PE X a (tE X.K cl Wx fa)) (hb : PE X b (tE X.K cl Wx fb)) (hm : behindInMarks op b = false) :
    PT X (.Compare a [op] [b] pos) (tT X.K cl Wx (dtst (dbin g fa fb))) := (pt_cmpR ho ha hb hm).dimp fun _ _ _ => t_tst fun _ => t_bin hr
theorem t_chain {K : PySem.W.Frag} {r r' : R2} {g g' : W → W → Hs → R W} (hr : OpG K r g) (hr' : OpG K r' g') {Q : VK} (h : tE K cl Wx (dchain g g' fa fb fc) σ H Q) : tChain r r' (tE K cl Wx fa) (tE K cl Wx fb) (tE K cl Wx fc) σ H Q := by
  obtain ⟨ι, S, sw, A, h⟩ := h
  refine ⟨ι, S, sw, A, Res.imp (Res.split (RA := RV K) h) fun x H1 ⟨ι1, S1, w1, g1, r1, _, h1⟩ => ?_⟩
  refine ⟨ι1, S1, sw, A.go g1, Res.imp (Res.split (RA := RV K) h1) fun y H2 ⟨ι2, S2, w2, g2, r2, _, h2⟩ => ?_⟩
  refine hr cl ι2 S2 H2 w1 w2 x y _ _ g2.rel (r1.go g1.rel g2) r2 (Res.imp (Res.split (RA := RV K) h2) fun z H3 ⟨ι3, S3, w3, g3, r3, _, h3⟩ => ?_)
  split at h3
  · cases r3
    refine ⟨true, rfl, ?_⟩
    rw [if_pos rfl]
    refine ⟨ι3, S3, sw, (A.go g1).go (g2.trans g3), Res.imp (Res.split (RA := RV K) h3) fun u H4 ⟨ι4, S4, w4, g4, r4, _, h4⟩ => ?_⟩
    exact hr' cl ι4 S4 H4 w2 w4 y u Q _ g4.rel (r2.go g2.rel (g3.trans g4)) r4 h4
  · cases r3
    refine ⟨false, rfl, ?_⟩
    rw [if_neg (by decide)]
    exact Res.ok h3 g3.rel (.bl false)
  · exact h3.elim
theorem d_chain {op op' : CmpOp} {r r' : R2} {g g' : W → W → Hs → R W} (ho : OpR X (compareOp op) r) (hr : OpG X.K r g) (ho' : OpR X (compareOp op') r') (hr' : OpG X.K r' g') (ha : PE X a (tE X.K cl Wx fa)) (hb : PE X b (tE X.K cl Wx fb)) (hc : PE X c (tE X.K cl Wx fc))
    (hm : lastMarks [op, op'] [b, c] = false := by with_unfolding_all rfl) : PE X (.Compare a [op, op'] [b, c] pos) (tE X.K cl Wx (dchain g g' fa fb fc)) := (pe_chain ho ho' ha hb hc hm).dimp fun _ _ _ => t_chain hr hr'
theorem d_tchain {op op' : CmpOp} {r r' : R2} {g g' : W → W → Hs → R W} (ho : OpR X (compareOp op) r) (hr : OpG X.K r g) (ho' : OpR X (compareOp op') r') (hr' : OpG X.K r' g') (ha : PE X a (tE X.K cl Wx fa)) (hb : PE X b (tE X.K cl Wx fb)) (hc : PE X c (tE X.K cl Wx fc))
    (hm : lastMarks [op, op'] [b, c] = false := by with_unfolding_all rfl) : PT X (.Compare a [op, op'] [b, c] pos) (tT X.K cl Wx (dtst (dchain g g' fa fb fc))) := (pt_chain ho ho' ha hb hc hm).dimp fun _ _ _ => t_tst fun _ => t_chain hr hr'
theorem t_and {K : PySem.W.Frag} {Q : Bool → Hp → Prop} (h : tT K cl Wx (dandT ta tb) σ H Q) : tAnd (tT K cl Wx ta) (tT K cl Wx tb) σ H Q := by
  obtain ⟨ι, S, sw, A, h⟩ := h
  refine ⟨ι, S, sw, A, Res.imp (Res.split (RA := RB) h) fun x H1 ⟨ι1, S1, w1, g1, r1, _, h1⟩ => ?_⟩
  cases r1
  cases x with
  | true => rw [if_pos rfl] at h1 ⊢; exact ⟨ι1, S1, sw, A.go g1, h1⟩
  | false => rw [if_neg (by decide)] at h1 ⊢; exact Res.ok (RA := RB) h1 g1.rel rfl
theorem t_or {K : PySem.W.Frag} {Q : Bool → Hp → Prop} (h : tT K cl Wx (dorT ta tb) σ H Q) : tOr (tT K cl Wx ta) (tT K cl Wx tb) σ H Q := by
  obtain ⟨ι, S, sw, A, h⟩ := h
  refine ⟨ι, S, sw, A, Res.imp (Res.split (RA := RB) h) fun x H1 ⟨ι1, S1, w1, g1, r1, _, h1⟩ => ?_⟩
  cases r1
  cases x with
  | false => rw [if_neg (by decide)] at h1 ⊢; exact ⟨ι1, S1, sw, A.go g1, h1⟩
  | true => rw [if_pos rfl] at h1 ⊢; exact Res.ok (RA := RB) h1 g1.rel rfl
theorem d_wand1 (ha : PT X a (tT X.K cl Wx ta)) : PW X (.BoolOp .And [a] pos) (tT X.K cl Wx ta) := pw_and1 ha
theorem d_wor1 (ha : PT X a (tT X.K cl Wx ta)) : PW X (.BoolOp .Or [a] pos) (tT X.K cl Wx ta) := pw_or1 ha
theorem d_wand (ha : PT X a (tT X.K cl Wx ta)) (hb : PW X (.BoolOp .And (b :: rest) pos) (tT X.K cl Wx tb)) : PW X (.BoolOp .And (a :: b :: rest) pos) (tT X.K cl Wx (dandT ta tb)) := (pw_and ha hb).dimp fun _ _ _ => t_and
theorem d_wor (ha : PT X a (tT X.K cl Wx ta)) (hb : PW X (.BoolOp .Or (b :: rest) pos) (tT X.K cl Wx tb)) : PW X (.BoolOp .Or (a :: b :: rest) pos) (tT X.K cl Wx (dorT ta tb)) := (pw_or ha hb).dimp fun _ _ _ => t_or
theorem d_tnot (ha : PT X a (tT X.K cl Wx ta)) : PT X (.UnaryOp .Not a pos) (tT X.K cl Wx (dnotT ta)) := (pt_not ha).dimp fun σ H Q h => by
  obtain ⟨ι, S, sw, A, h⟩ := h
  refine ⟨ι, S, sw, A, Res.imp (Res.split (RA := RB) h) fun x H1 ⟨ι1, S1, w1, g1, r1, _, h1⟩ => ?_⟩
  cases r1
  exact Res.ok (RA := RB) h1 g1.rel rfl
theorem d_if {e : Expr} (hc : PT X e (tT X.K cl Wx ta)) (ha : PE X a (tE X.K cl Wx fa)) (hb : PE X b (tE X.K cl Wx fb)) : PE X (.IfExp e a b pos) (tE X.K cl Wx (difE ta fa fb)) := (pe_ifExp hc ha hb).dimp fun σ H Q h => by
  obtain ⟨ι, S, sw, A, h⟩ := h
  refine ⟨ι, S, sw, A, Res.imp (Res.split (RA := RB) h) fun x H1 ⟨ι1, S1, w1, g1, r1, _, h1⟩ => ?_⟩
  cases r1
  cases x with
  | true => rw [if_pos rfl] at h1 ⊢; exact ⟨ι1, S1, sw, A.go g1, h1⟩
  | false => rw [if_neg (by decide)] at h1 ⊢; exact ⟨ι1, S1, sw, A.go g1, h1⟩
end
end DL

set_option Elab.async false
set_option linter.all false
set_option maxRecDepth 100000
/-! DL6: and, or, not as values; arguments, displays; arithmetic, comparisons; items, slices. -/
namespace DL
open PySem PySem.Spec PyProof.Rows L2

section
variable {X : Cx} {cl : Cla} {Wx : L2.WX} {pos : Pos} {a b c e : Expr} {rest es : List Expr} {fa fb fc fe : DE} {ta tb : DT} {σ : L2.St} {H : Hp}
theorem d_one {op} (h : PE X a (tE X.K cl Wx fa)) : PE X (.BoolOp op [a] pos) (tE X.K cl Wx fa) := pe_one h
theorem d_vand (ha : PE X a (tE X.K cl Wx fa)) (hb : PE X (.BoolOp .And (b :: rest) pos) (tE X.K cl Wx fb)) : PE X (.BoolOp .And (a :: b :: rest) pos) (tE X.K cl Wx (dandV fa fb)) := (pe_andT ha hb).dimp fun σ H Q h => by
  obtain ⟨ι, S, sw, A, h⟩ := h
  refine ⟨ι, S, sw, A, Res.imp (Res.split (RA := RV X.K) h) fun x H1 ⟨ι1, S1, w1, g1, r1, _, h1⟩ => ?_⟩
  split at h1
  · rename_i q
    exact ⟨true, truth_at g1.rel r1 q, by rw [if_pos rfl]; exact ⟨ι1, S1, sw, A.go g1, h1⟩⟩
  · rename_i q
    exact ⟨false, truth_at g1.rel r1 q, by rw [if_neg (by decide)]; exact Res.ok (RA := RV X.K) h1 g1.rel r1⟩
  · exact h1.elim
theorem d_vor (ha : PE X a (tE X.K cl Wx fa)) (hb : PE X (.BoolOp .Or (b :: rest) pos) (tE X.K cl Wx fb)) : PE X (.BoolOp .Or (a :: b :: rest) pos) (tE X.K cl Wx (dorV fa fb)) := (pe_orT ha hb).dimp fun σ H Q h => by
  obtain ⟨ι, S, sw, A, h⟩ := h
  refine ⟨ι, S, sw, A, Res.imp (Res.split (RA := RV X.K) h) fun x H1 ⟨ι1, S1, w1, g1, r1, _, h1⟩ => ?_⟩
  split at h1
  · rename_i q
    exact ⟨true, truth_at g1.rel r1 q, by rw [if_pos rfl]; exact Res.ok (RA := RV X.K) h1 g1.rel r1⟩
  · rename_i q
    exact ⟨false, truth_at g1.rel r1 q, by rw [if_neg (by decide)]; exact ⟨ι1, S1, sw, A.go g1, h1⟩⟩
  · exact h1.elim
theorem d_vnot (ha : PE X a (tE X.K cl Wx fa)) : PE X (.UnaryOp .Not a pos) (tE X.K cl Wx (dnotV fa)) := (pe_notT ha).dimp fun σ H Q h => by
  obtain ⟨ι, S, sw, A, h⟩ := h
  refine ⟨ι, S, sw, A, Res.imp (Res.split (RA := RV X.K) h) fun x H1 ⟨ι1, S1, w1, g1, r1, _, h1⟩ => ?_⟩
  split at h1
  · rename_i q
    exact ⟨_, truth_at g1.rel r1 q, Res.ok (RA := RV X.K) h1 g1.rel (.bl _)⟩
  · exact h1.elim
end
/-! ### arguments, displays -/
def dnil : DA := fun _ S => .ok [] S
def dcons (a : DE) (r : DA) : DA := fun sw S => (a sw S).bind fun w S1 => (r sw S1).bind fun ws S2 => .ok (w :: ws) S2
def dtup (t : DA) : DE := fun sw S => (t sw S).bind fun ws S1 => if ws.length ≤ sizeLine then .ok (.tup ws) S1 else .bad
def dlst (t : DA) : DE := fun sw S => (t sw S).bind fun ws S1 => if ws.length ≤ sizeLine then .ok (.ref S1.length) (S1 ++ [.lst ws]) else .bad
section
variable {X : Cx} {cl : Cla} {Wx : L2.WX} {pos : Pos} {a b c e : Expr} {rest es : List Expr} {fa fb fc fe : DE} {t : DA} {σ : L2.St} {H : Hp}
theorem d_nil : PA X [] (tA X.K cl Wx dnil) := pa_nil.dimp fun σ H Q h => by
  obtain ⟨ι, S, sw, A, h⟩ := h
  exact Res.ok (RA := RVs X.K) h A.rel .nil
theorem t_cons {K : PySem.W.Frag} {Q : List V → Hp → Prop} (h : tA K cl Wx (dcons fe t) σ H Q) : tCons (tE K cl Wx fe) (tA K cl Wx t) σ H Q := by
  obtain ⟨ι, S, sw, A, h⟩ := h
  refine ⟨ι, S, sw, A, Res.imp (Res.split (RA := RV K) h) fun x H1 ⟨ι1, S1, w1, g1, r1, _, h1⟩ => ?_⟩
  refine ⟨ι1, S1, sw, A.go g1, Res.imp (Res.split (RA := RVs K) h1) fun ys H2 ⟨ι2, S2, w2, g2, r2, _, h2⟩ => ?_⟩
  exact Res.ok (RA := RVs K) h2 g2.rel (.cons (r1.go g1.rel g2) r2)
theorem d_cons (ha : PE X e (tE X.K cl Wx fe)) (hr : PA X es (tA X.K cl Wx t)) (hs : starEach (e :: es) X.env = (false, eval e X.env) :: starEach es X.env := by rfl) : PA X (e :: es) (tA X.K cl Wx (dcons fe t)) :=
  (pa_cons ha hr hs).dimp fun _ _ _ => t_cons
theorem d_knil : PK X [] (tA X.K cl Wx dnil) := pk_nil.dimp fun σ H Q h => by
  obtain ⟨ι, S, sw, A, h⟩ := h
  exact Res.ok (RA := RVs X.K) h A.rel .nil
theorem d_kcons {kws : List Keyword} {nm : Option Str} {kpos : Pos} (ha : PE X e (tE X.K cl Wx fe)) (hr : PK X kws (tA X.K cl Wx t)) : PK X (⟨nm, e, kpos⟩ :: kws) (tA X.K cl Wx (dcons fe t)) :=
  (pk_cons ha hr).dimp fun _ _ _ => t_cons
theorem d_tup {x1 : Nat} (h : PA X es (tA X.K cl Wx t)) : PE X (.Tuple es x1 pos) (tE X.K cl Wx (dtup t)) := (pe_tup h).dimp fun σ H Q h => by
  obtain ⟨ι, S, sw, A, h⟩ := h
  refine ⟨ι, S, sw, A, Res.imp (Res.split (RA := RVs X.K) h) fun xs H1 ⟨ι1, S1, w1, g1, r1, _, h1⟩ => ?_⟩
  split at h1
  · rename_i hz
    refine ⟨by rw [← r1.length]; exact hz, fun p hp => ?_⟩
    obtain ⟨g, rp⟩ := g1.rel.newT hp r1
    exact h1 _ _ _ g rp
  · exact h1.elim
theorem d_lst (h : PA X es (tA X.K cl Wx t)) : PE X (.List es pos) (tE X.K cl Wx (dlst t)) := (pe_lst h).dimp fun σ H Q h => by
  obtain ⟨ι, S, sw, A, h⟩ := h
  refine ⟨ι, S, sw, A, Res.imp (Res.split (RA := RVs X.K) h) fun xs H1 ⟨ι1, S1, w1, g1, r1, _, h1⟩ => ?_⟩
  split at h1
  · rename_i hz
    refine ⟨by rw [← r1.length]; exact hz, fun p hp => ?_⟩
    obtain ⟨g, rp⟩ := g1.rel.newL hp r1
    exact h1 _ _ _ g rp
  · exact h1.elim
end
/-! ### arithmetic -/
def intOp (C : Int → Int → Bool) (f : Int → Int → W) (x y : W) (S : Hs) : R W := match x, y with
  | .int i, .int j => if C i j = true then .ok (f i j) S else .bad
  | _, _ => .bad
def subW := intOp (fun _ _ => true) fun i j => .int (i - j)
def modW := intOp (fun _ j => decide (0 < j)) fun i j => .int (i % j)
def divW := intOp (fun _ j => decide (0 < j) && decide (j.natAbs.log2 < 9000)) fun i j => .int (i / j)
def powW := intOp (fun i j => decide (0 ≤ j) && decide (j ≤ 1000000) && decide (i.natAbs < 18446744073709551616)) fun i j => .int (i ^ j.toNat)
def shlW := intOp (fun i j => decide (0 ≤ j) && decide (j ≤ 1000000) && decide (i.natAbs < 18446744073709551616)) fun i j => .int (i * 2 ^ j.toNat)
def shrW := intOp (fun _ j => decide (0 ≤ j)) fun i j => .int (i / 2 ^ j.toNat)
def andW := intOp (fun _ _ => true) fun i j => .int (Builtin.bitAnd i j)
def orW := intOp (fun _ _ => true) fun i j => .int (Builtin.bitOr i j)
def xorW := intOp (fun _ _ => true) fun i j => .int (Builtin.bitXor i j)
def ltW := intOp (fun _ _ => true) fun i j => .bl (decide (i < j))
def leW := intOp (fun _ _ => true) fun i j => .bl (decide (i ≤ j))
def gtW := intOp (fun _ _ => true) fun i j => .bl (decide (j < i))
def geW := intOp (fun _ _ => true) fun i j => .bl (decide (j ≤ i))
def negW (x : W) (S : Hs) : R W := match x with
  | .int i => .ok (.int (-i)) S
  | _ => .bad
def repV (k : Int) (ws : List W) : List W := (List.replicate k.toNat ws).flatten
def mulW (x y : W) (S : Hs) : R W := match x, y with
  | .int i, .int j => if i.natAbs.log2 + j.natAbs.log2 < 1000000 then .ok (.int (i * j)) S else .bad
  | .ref l, .int k => match S[l]? with
    | some (.lst ws) => if -9223372036854775808 ≤ k ∧ k < 9223372036854775808 ∧ ws.length * k.toNat ≤ sizeLine then .ok (.ref S.length) (S ++ [.lst (repV k ws)]) else .bad
    | _ => .bad
  | .tup ws, .int k => if ws ≠ [] ∧ 2 ≤ k ∧ k ≤ 1000 ∧ ws.length ≤ 1000 then .ok (.tup (repV k ws)) S else .bad
  | _, _ => .bad
section
variable {X : Cx}
theorem g_int {K : PySem.W.Frag} {C : Int → Int → Bool} {f : Int → Int → W} {C' : Int → Int → Prop} {f' : Int → Int → V} (hC : ∀ i j, C i j = true → C' i j) (hf : ∀ ι n H i j, Rep K ι n H (f i j) (f' i j)) : OpG K (rI C' f') (intOp C f) := by
  intro cl ι S H x y v u Q E r rx ry h
  unfold intOp at h
  split at h
  · split at h
    · rename_i hc
      cases rx; cases ry
      exact ⟨_, _, rfl, rfl, hC _ _ hc, Res.ok h r (hf _ _ _ _ _)⟩
    · exact h.elim
  · exact h.elim
theorem g_int0 {K : PySem.W.Frag} {C : Int → Int → Bool} {f : Int → Int → W} {f' : Int → Int → V} (hf : ∀ ι n H i j, Rep K ι n H (f i j) (f' i j)) : OpG K (rI0 f') (intOp C f) := by
  intro cl ι S H x y v u Q E r rx ry h
  obtain ⟨i, j, e1, e2, _, q⟩ := g_int (C' := fun _ _ => True) (fun _ _ _ => trivial) hf cl ι S H x y v u Q E r rx ry h
  exact ⟨i, j, e1, e2, q⟩
theorem p_add : DOp X (binaryOp .Add) addW := .of o_add g_add
theorem p_sub : DOp X (binaryOp .Sub) subW := .of op_sub (g_int0 fun _ _ _ _ _ => .int _)
theorem p_mod : DOp X (binaryOp .Mod) modW := .of op_mod (g_int (fun _ _ h => by simpa using h) fun _ _ _ _ _ => .int _)
theorem p_div : DOp X (binaryOp .FloorDiv) divW := .of op_fdivW (g_int (fun _ _ h => by simpa [CDivW] using h) fun _ _ _ _ _ => .int _)
theorem p_pow : DOp X (binaryOp .Pow) powW := .of op_pow (g_int (fun _ _ h => by simp only [Bool.and_eq_true, decide_eq_true_eq] at h; exact ⟨h.1.1, h.1.2, h.2⟩) fun _ _ _ _ _ => .int _)
theorem p_shl : DOp X (binaryOp .LShift) shlW := .of op_shl (g_int (fun _ _ h => by simp only [Bool.and_eq_true, decide_eq_true_eq] at h; exact ⟨h.1.1, h.1.2, h.2⟩) fun _ _ _ _ _ => .int _)
theorem p_shr : DOp X (binaryOp .RShift) shrW := .of op_shr (g_int (fun _ _ h => by simpa using h) fun _ _ _ _ _ => .int _)
theorem p_and : DOp X (binaryOp .BitAnd) andW := .of op_and (g_int0 fun _ _ _ _ _ => .int _)
theorem p_or : DOp X (binaryOp .BitOr) orW := .of op_or (g_int0 fun _ _ _ _ _ => .int _)
theorem p_xor : DOp X (binaryOp .BitXor) xorW := .of op_xor (g_int0 fun _ _ _ _ _ => .int _)
theorem p_lt : DOp X (compareOp .Lt) ltW := .of op_lt (g_int0 fun _ _ _ _ _ => .bl _)
theorem p_le : DOp X (compareOp .LtE) leW := .of op_le (g_int0 fun _ _ _ _ _ => .bl _)
theorem p_gt : DOp X (compareOp .Gt) gtW := .of op_gt (g_int0 fun _ _ _ _ _ => .bl _)
theorem p_ge : DOp X (compareOp .GtE) geW := .of op_ge (g_int0 fun _ _ _ _ _ => .bl _)
theorem g_neg {K : PySem.W.Frag} : UnG K (rU fun i => .int (-i)) negW := by
  intro cl ι S H x v Q E r rx h
  unfold negW at h
  split at h
  · cases rx; exact ⟨_, rfl, Res.ok h r (.int _)⟩
  · exact h.elim
theorem Reps.rep {K : PySem.W.Frag} {ι : Nat → Addr} {n : Nat} {H : Hp} {ws : List W} {vs : List V} (h : Reps K ι n H ws vs) : ∀ k : Nat, Reps K ι n H (List.replicate k ws).flatten (List.replicate k vs).flatten
  | 0 => .nil
  | k + 1 => by rw [List.replicate_succ, List.replicate_succ, List.flatten_cons, List.flatten_cons]; exact h.append (h.rep k)
def rMulW (K : PySem.W.Frag) : R2 := fun x y H Q => rI CMulW (fun i j => .int (i * j)) x y H Q ∨ rRep x y H Q ∨ rRepT K x y H Q
theorem o_mul : OpR X (binaryOp .Mult) (rMulW X.K) := op_mulW.or (op_rep.or op_repT)
theorem g_mul {K : PySem.W.Frag} : OpG K (rMulW K) mulW := by
  intro cl ι S H x y v u Q E r rx ry h
  unfold mulW at h
  split at h
  · split at h
    · rename_i hc
      cases rx; cases ry; exact .inl ⟨_, _, rfl, rfl, hc, Res.ok h r (.int _)⟩
    · exact h.elim
  · split at h
    · rename_i l k _ ws q
      split at h
      · rename_i hc
        cases ry
        obtain ⟨rfl, hi⟩ := rx.ref_inv
        obtain ⟨vs, h1, h2⟩ := lst_at r q
        refine .inr (.inl ⟨_, _, _, rfl, rfl, h1, hc.1, hc.2.1, by rw [← h2.length]; exact hc.2.2, fun p hp => ?_⟩)
        obtain ⟨g, rp⟩ := r.newL hp (h2.rep k.toNat)
        exact h _ _ _ g rp
      · exact h.elim
    · exact h.elim
  · split at h
    · rename_i ws k hc
      cases ry
      obtain ⟨a, vs, rfl, h1, h2⟩ := rx.tup_inv
      refine .inr (.inr ⟨_, _, _, rfl, rfl, h1.sq, ?_, hc.2.1, hc.2.2.1, by rw [← h2.length]; exact hc.2.2.2, fun p hp => ?_⟩)
      · intro e
        subst e
        cases h2
        exact hc.1 rfl
      · obtain ⟨g, rp⟩ := r.newT hp (h2.rep k.toNat)
        exact h _ _ _ g rp
    · exact h.elim
  · exact h.elim
theorem p_mul : DOp X (binaryOp .Mult) mulW := .of o_mul g_mul
end
end DL

set_option Elab.async false
set_option linter.all false
set_option maxRecDepth 100000
/-! DL7: items, slices, stores. -/
namespace DL
open PySem PySem.Spec PyProof.Rows L2

def keyW : W → Option Key
  | .int i => some (.inl i)
  | .str x => some (.inr x)
  | _ => none
def atK {α β : Type} [DecidableEq α] (kvs : List (α × β)) (k : α) : Option β := (kvs.find? fun kv => decide (kv.1 = k)).map (·.2)
def putW {α β : Type} [DecidableEq α] (kvs : List (α × β)) (k : α) (v : β) : List (α × β) :=
  if (kvs.any fun kv => decide (kv.1 = k)) = true then kvs.map (fun kv => if kv.1 = k then (kv.1, v) else kv) else kvs ++ [(k, v)]
section
variable {K : PySem.W.Frag} {cl : Cla} {ι : Nat → Addr} {S : Hs} {H : Hp} {κ : Type} [DecidableEq κ] {n : Nat}
theorem keyW_rep {w : W} {v : V} {k : Key} (h : Rep K ι n H w v) (e : keyW w = some k) : v = kV k := by
  cases h <;> first | (cases e; rfl) | cases e
theorem KReps.nil : KReps K ι n H ([] : List (κ × W)) [] := ⟨rfl, .nil⟩
theorem KReps.cons_inv {p : κ × W} {r : List (κ × W)} {kv : List (κ × V)} (h : KReps K ι n H (p :: r) kv) : ∃ v s, kv = (p.1, v) :: s ∧ Rep K ι n H p.2 v ∧ KReps K ι n H r s := by
  obtain ⟨h1, h2⟩ := h
  cases kv with
  | nil => simp at h1
  | cons q s =>
    simp only [List.map_cons, List.cons.injEq] at h1
    cases h2 with
    | cons a b => exact ⟨q.2, s, by rw [h1.1], a, h1.2, b⟩
theorem KReps.cons {k : κ} {w : W} {v : V} {r : List (κ × W)} {s : List (κ × V)} (h : Rep K ι n H w v) (t : KReps K ι n H r s) : KReps K ι n H ((k, w) :: r) ((k, v) :: s) :=
  ⟨by simp [t.1], .cons h t.2⟩
theorem KReps.length {r : List (κ × W)} {s : List (κ × V)} (t : KReps K ι n H r s) : r.length = s.length := by
  have := congrArg List.length t.1
  simpa using this
theorem KReps.at_ {k : κ} {w : W} : ∀ {kw : List (κ × W)} {kv : List (κ × V)}, KReps K ι n H kw kv → atK kw k = some w → ∃ v, valV kv k = some v ∧ Rep K ι n H w v
  | [], _, h, e => by simp [atK] at e
  | p :: r, _, h, e => by
    obtain ⟨v, s, rfl, h1, h2⟩ := h.cons_inv
    by_cases q : p.1 = k
    · have : w = p.2 := by simp [atK, q] at e; exact e.symm
      subst this
      exact ⟨v, by rw [valV_pos q], h1⟩
    · obtain ⟨v', e1, e2⟩ := KReps.at_ (kw := r) h2 (by simpa [atK, q] using e)
      exact ⟨v', by rw [valV_neg q]; exact e1, e2⟩
theorem KReps.none_ {k : κ} : ∀ {kw : List (κ × W)} {kv : List (κ × V)}, KReps K ι n H kw kv → atK kw k = none → valV kv k = none
  | [], kv, h, e => by
    have : kv = [] := by
      have := h.length
      cases kv with
      | nil => rfl
      | cons _ _ => simp at this
    subst this; rfl
  | p :: r, _, h, e => by
    obtain ⟨v, s, rfl, h1, h2⟩ := h.cons_inv
    by_cases q : p.1 = k
    · simp [atK, q] at e
    · rw [valV_neg q]; exact KReps.none_ (kw := r) h2 (by simpa [atK, q] using e)
theorem KReps.opt {k : κ} {kw : List (κ × W)} {kv : List (κ × V)} (h : KReps K ι n H kw kv) : (valV kv k).isSome = (atK kw k).isSome := by
  cases e : atK kw k with
  | none => rw [h.none_ e]; rfl
  | some w => obtain ⟨v, e1, _⟩ := h.at_ e; rw [e1]; rfl
theorem KReps.any {k : κ} {kw : List (κ × W)} {kv : List (κ × V)} (h : KReps K ι n H kw kv) : (kv.any fun p => decide (p.1 = k)) = kw.any fun p => decide (p.1 = k) := by
  have e : ∀ {β : Type} (l : List (κ × β)), (l.any fun p => decide (p.1 = k)) = (l.map (·.1)).any fun q => decide (q = k) := fun l => by induction l <;> simp_all
  rw [e, e, h.1]
theorem KReps.repl {k : κ} {w : W} {v : V} (rv : Rep K ι n H w v) : ∀ {kw : List (κ × W)} {kv : List (κ × V)}, KReps K ι n H kw kv →
    KReps K ι n H (kw.map fun p => if p.1 = k then (p.1, w) else p) (kv.map fun p => if p.1 = k then (p.1, v) else p)
  | [], kv, h => by
    have : kv = [] := by
      have := h.length
      cases kv with
      | nil => rfl
      | cons _ _ => simp at this
    subst this; exact .nil
  | p :: r, _, h => by
    obtain ⟨u, s, rfl, h1, h2⟩ := h.cons_inv
    have t := KReps.repl (k := k) (kw := r) rv h2
    rw [List.map_cons, List.map_cons]
    by_cases q : p.1 = k
    · rw [if_pos q, if_pos q]; exact .cons rv t
    · rw [if_neg q, if_neg q]; exact .cons (k := p.1) h1 t
theorem KReps.snoc {k : κ} {w : W} {v : V} (rv : Rep K ι n H w v) {kw : List (κ × W)} {kv : List (κ × V)} (h : KReps K ι n H kw kv) : KReps K ι n H (kw ++ [(k, w)]) (kv ++ [(k, v)]) := by
  refine ⟨by simp [h.1], ?_⟩
  rw [List.map_append, List.map_append]
  exact h.2.append (.cons rv .nil)
theorem KReps.put {k : κ} {w : W} {v : V} (rv : Rep K ι n H w v) {kw : List (κ × W)} {kv : List (κ × V)} (h : KReps K ι n H kw kv) : KReps K ι n H (putW kw k w) (putK kv k v) := by
  unfold putW putK
  rw [h.any]
  split
  · exact h.repl rv
  · exact h.snoc rv
theorem atI_rep {ws : List W} {vs : List V} {i : Int} {w : W} (h : Reps K ι n H ws vs) (e : atI ws i = some w) : ∃ v, atI vs i = some v ∧ Rep K ι n H w v := by
  unfold atI at e ⊢
  rw [← h.length]
  cases q : ixN ws.length i with
  | none => rw [q] at e; cases e
  | some j => rw [q] at e; exact h.get e
end
def itemL (ws : List W) (i : W) (S : Hs) : R W := match i with
  | .int i => match atI ws i with
    | some w => .ok w S
    | none => .bad
  | _ => .bad
def itemK (kvs : List (Key × W)) (i : W) (S : Hs) : R W := match keyW i with
  | some k => match atK kvs k with
    | some w => .ok w S
    | none => .bad
  | none => .bad
def getW (x i : W) (S : Hs) : R W := match x with
  | .tup ws => itemL ws i S
  | .fro ws => itemL ws i S
  | .str z => match i with
    | .int i => if z.length ≤ sizeLine then (match atI z.cps.toList i with
      | some c => .ok (.str ⟨#[c]⟩) S
      | none => .bad) else .bad
    | _ => .bad
  | .ref n => match S[n]? with
    | some (.lst ws) => itemL ws i S
    | some (.dic kvs) => itemK kvs i S
    | some (.loc kvs) => itemK kvs i S
    | _ => .bad
  | _ => .bad
section
variable {X : Cx}
def rIxD : R2 := fun x y H Q => ∃ a v, x = .ref a ∧ DGet H a y (some v) ∧ Q v H
theorem ix_dict (hu : X.A.units + 1 < cLine) : IxR X rIxD := by
  intro value slice pins s σ H x y v u Q I rx ry h hs
  obtain ⟨a, w, rfl, g, q⟩ := h
  cases rx
  exact tail_any (dict_typeIs I g) PySem.F.slot_dict_getitem.lookup (d_getItem hu I g ry fun w' s' I' r' => ⟨w, H, I', r', q⟩) hs
def rGetW (K : PySem.W.Frag) : R2 := fun x y H Q => rIx K x y H Q ∨ rIxD x y H Q
theorem ix_W (hu : X.A.units + 1 < cLine) : IxR X (rGetW X.K) := ix_seq.or (ix_dict hu)
theorem g_get {K : PySem.W.Frag} : OpG K (rGetW K) getW := by
  intro cl ι S H x y v u Q E r rx ry h
  have dk : ∀ {n : Nat} {kvs : List (Key × W)} (kv : List (Key × V)), x = .ref n → Rd H (ι n) (.dK kv) → KReps K ι S.length H kvs kv → Res K cl (RV K) ι S H (itemK kvs y S) Q E → rGetW K v u H Q := fun {n kvs} kv e hd hr hk => by
    subst e
    obtain ⟨rfl, hi⟩ := rx.ref_inv
    unfold itemK at hk
    split at hk
    · rename_i k ek
      split at hk
      · rename_i w ew
        obtain ⟨v', e1, r1⟩ := hr.at_ ew
        have := keyW_rep ry ek
        subst this
        exact .inr ⟨_, v', rfl, .inl ⟨kv, k, hd, rfl, e1.symm⟩, Res.ok hk r r1⟩
      · exact hk.elim
    · exact hk.elim
  have il : ∀ {ws : List W} {vs : List V}, Reps K ι S.length H ws vs → Res K cl (RV K) ι S H (itemL ws y S) Q E → ∃ i w, u = .int i ∧ atI vs i = some w ∧ Q w H := fun {ws vs} hr h => by
    unfold itemL at h
    split at h
    · split at h
      · rename_i e
        cases ry
        obtain ⟨v', e1, r1⟩ := atI_rep hr e
        exact ⟨_, v', rfl, e1, Res.ok h r r1⟩
      · exact h.elim
    · exact h.elim
  unfold getW at h
  split at h
  · obtain ⟨a, vs, rfl, h1, h2⟩ := rx.tup_inv
    obtain ⟨i, w, rfl, e, q⟩ := il h2 h
    exact .inl (.inr (.inl ⟨_, _, _, _, rfl, rfl, h1.sq, e, q⟩))
  · rename_i ws
    obtain ⟨a, vs, rfl, h1, h2⟩ := lstOf_at r rx rfl
    obtain ⟨i, w, rfl, e, q⟩ := il h2 h
    exact .inl (.inl ⟨_, _, _, _, rfl, rfl, h1.sq, e, q⟩)
  · cases rx
    split at h
    · split at h
      · split at h
        · rename_i hz _ c e
          cases ry
          exact .inl (.inr (.inr ⟨_, _, c, rfl, rfl, hz, e, Res.ok h r (.str _)⟩))
        · exact h.elim
      · exact h.elim
    · exact h.elim
  · split at h
    · rename_i q
      obtain ⟨rfl, hi⟩ := rx.ref_inv
      obtain ⟨vs, h1, h2⟩ := lst_at r q
      obtain ⟨i, w, rfl, e, q⟩ := il h2 h
      exact .inl (.inl ⟨_, _, _, _, rfl, rfl, .inl (.inl h1), e, q⟩)
    · rename_i q
      obtain ⟨vs, h1, h2⟩ := r.obj _ _ q
      exact dk vs rfl (.inl h1) h2 h
    · rename_i q
      obtain ⟨o, vs, h1, h2⟩ := r.obj _ _ q
      exact dk vs rfl (.inr ⟨o, h1⟩) h2 h
    · exact h.elim
  · exact h.elim
theorem d_ix {cl : Cla} {Wx : L2.WX} {pos : Pos} {a b : Expr} {fa fb : DE} (hu : X.A.units + 1 < cLine) (ha : PE X a (tE X.K cl Wx fa)) (hb : PE X b (tE X.K cl Wx fb)) (hs : PlainIx b := by exact fun _ _ => rfl) :
    PE X (.Subscript a b pos) (tE X.K cl Wx (dbin getW fa fb)) := (pe_ix (ix_W hu) ha hb hs).dimp fun _ _ _ => t_bin g_get
end
end DL

set_option Elab.async false
set_option linter.all false
set_option maxRecDepth 100000
/-! DL8: slices, stores. -/
namespace DL
open PySem PySem.Spec PyProof.Rows L2

def cutA {α : Type} (xs : List α) (lo hi : Option Int) : List α := (xs.drop (HT.sIx xs.length 0 lo)).take (HT.sIx xs.length xs.length hi - HT.sIx xs.length 0 lo)
def sliceW (x : W) (lo hi : Option Int) (S : Hs) : R W := match x with
  | .tup ws => .ok (.tup (cutA ws lo hi)) S
  | .str z => if z.length ≤ sizeLine then .ok (.str (cutS z lo hi)) S else .bad
  | x => match lstOf S x with
    | some ws => .ok (.ref S.length) (S ++ [.lst (cutA ws lo hi)])
    | none => .bad
abbrev DO := SW → Hs → R (Option Int)
def dnoPart : DO := fun _ S => .ok none S
def dpart (e : DE) : DO := fun sw S => (e sw S).bind fun w S1 => match w with
  | .int i => .ok (some i) S1
  | _ => .bad
def dslice (x : DE) (lo hi : DO) : DE := fun sw S => (x sw S).bind fun w S1 => (lo sw S1).bind fun l S2 => (hi sw S2).bind fun u S3 => sliceW w l u S3
section
variable {K : PySem.W.Frag} {cl : Cla} {ι : Nat → Addr} {S : Hs} {H : Hp} {n : Nat}
theorem cut_rep {ws : List W} {vs : List V} (h : Reps K ι n H ws vs) (lo hi : Option Int) : Reps K ι n H (cutA ws lo hi) (cutV vs lo hi) := by
  unfold cutA cutV
  rw [h.length]
  exact (h.drop _).take _
end
section
variable {X : Cx} {cl : Cla} {Wx : L2.WX} {pos p2 : Pos} {a b c e : Expr} {lo hi : Option Expr} {fe : DE} {fl fh : DO} {σ : L2.St} {H : Hp}
theorem d_noPart : PO X none (tO X.K cl Wx dnoPart) := po_none.dimp fun σ H Q h => by
  obtain ⟨ι, S, sw, A, h⟩ := h
  exact Res.ok (RA := fun _ _ _ (a b : Option Int) => a = b) h A.rel rfl
theorem d_part (ha : PE X e (tE X.K cl Wx fe)) : PO X (some e) (tO X.K cl Wx (dpart fe)) := (po_some ha).dimp fun σ H Q h => by
  obtain ⟨ι, S, sw, A, h⟩ := h
  refine ⟨ι, S, sw, A, Res.imp (Res.split (RA := RV X.K) h) fun x H1 ⟨ι1, S1, w1, g1, r1, _, h1⟩ => ?_⟩
  split at h1
  · cases r1
    exact ⟨_, rfl, Res.ok (RA := fun _ _ _ (a b : Option Int) => a = b) h1 g1.rel rfl⟩
  · exact h1.elim
def rSlW (K : PySem.W.Frag) : V → Option Int → Option Int → Hp → VK → Prop := fun x lo hi H Q => rSlA K x lo hi H Q ∨ rSlL K x lo hi H Q ∨ rSlS x lo hi H Q
theorem sl_W : SlR X (rSlW X.K) := sl_tupA.or (sl_list.or sl_str)
theorem d_slice (he : PE X e (tE X.K cl Wx fe)) (hl : PO X lo (tO X.K cl Wx fl)) (hu : PO X hi (tO X.K cl Wx fh)) : PE X (.Subscript e (.Slice lo hi none p2) pos) (tE X.K cl Wx (dslice fe fl fh)) := (pe_slice sl_W he hl hu).dimp fun σ H Q h => by
  obtain ⟨ι, S, sw, A, h⟩ := h
  refine ⟨ι, S, sw, A, Res.imp (Res.split (RA := RV X.K) h) fun x H1 ⟨ι1, S1, w1, g1, r1, _, h1⟩ => ?_⟩
  refine ⟨ι1, S1, sw, A.go g1, Res.imp (Res.split (RA := fun _ _ _ (a b : Option Int) => a = b) h1) fun l H2 ⟨ι2, S2, w2, g2, r2, _, h2⟩ => ?_⟩
  refine ⟨ι2, S2, sw, (A.go g1).go g2, Res.imp (Res.split (RA := fun _ _ _ (a b : Option Int) => a = b) h2) fun u H3 ⟨ι3, S3, w3, g3, r3, _, h3⟩ => ?_⟩
  subst r2 r3
  have rx := r1.go g1.rel (g2.trans g3)
  unfold sliceW at h3
  split at h3
  · obtain ⟨a, vs, rfl, t1, t2⟩ := rx.tup_inv
    have hc := cut_rep t2 w2 w3
    refine .inl ⟨a, vs, rfl, t1.sq, fun he => ?_, fun _ p hp => ?_⟩
    · have ec : ∀ {α : Type} (xs : List α), xs.length = vs.length → cutA xs w2 w3 = xs := fun xs hx => by
        unfold cutA
        rw [hx, he.1, he.2, List.drop_zero, Nat.sub_zero, ← hx, List.take_length]
      rw [ec _ t2.length] at h3
      exact Res.ok (RA := RV X.K) h3 g3.rel (.tup t1 t2)
    · obtain ⟨g, rp⟩ := g3.rel.newT hp hc
      exact h3 _ _ _ g rp
  · split at h3
    · rename_i hz
      cases rx
      exact .inr (.inr ⟨_, rfl, hz, Res.ok (RA := RV X.K) h3 g3.rel (.str _)⟩)
    · exact h3.elim
  · split at h3
    · rename_i e1
      obtain ⟨a, vs, rfl, t1, t2⟩ := lstOf_at g3.rel rx e1
      refine .inr (.inl ⟨a, vs, rfl, t1.sq, fun p hp => ?_⟩)
      obtain ⟨g, rp⟩ := g3.rel.newL hp (cut_rep t2 w2 w3)
      exact h3 _ _ _ g rp
    · exact h3.elim
/-- xs[::-1] of a list; of a tuple -/
def drevL (e : DE) : DE := fun sw S => (e sw S).bind fun w S1 => match lstOf S1 w with
  | some ws => .ok (.ref S1.length) (S1 ++ [.lst ws.reverse])
  | none => .bad
theorem d_revL {k : Nat} {p1 p2 p3 : Pos} (he : PE X e (tE X.K cl Wx fe)) : PE X (.Subscript e (.Slice none none (some (.UnaryOp .USub (.Constant (.int 1) k p1) p2)) p3) pos) (tE X.K cl Wx (drevL fe)) := (pe_revL he).dimp fun σ H Q h => by
  obtain ⟨ι, S, sw, A, h⟩ := h
  refine ⟨ι, S, sw, A, Res.imp (Res.split (RA := RV X.K) h) fun x H1 ⟨ι1, S1, w1, g1, r1, _, h1⟩ => ?_⟩
  split at h1
  · rename_i e1
    obtain ⟨a, vs, rfl, t1, t2⟩ := lstOf_at g1.rel r1 e1
    refine ⟨a, vs, rfl, t1.sq, fun p hp => ?_⟩
    obtain ⟨g, rp⟩ := g1.rel.newL hp t2.reverse
    exact h1 _ _ _ g rp
  · exact h1.elim
end
/-! ### stores -/
def setW (x i v : W) (S : Hs) : Option Hs := match x with
  | .ref n => match S[n]? with
    | some (.lst ws) => match i with
      | .int k => match ixN ws.length k with
        | some j => some (S.set n (.lst (ws.set j v)))
        | none => none
      | _ => none
    | some (.dic kvs) => match keyW i with
      | some k => if kvs.length < sizeLine then some (S.set n (.dic (putW kvs k v))) else none
      | none => none
    | _ => none
  | _ => none
section
variable {X : Cx}
def rSetD : TSet := fun o i v H Q => ∃ a H', o = .ref a ∧ DPut H a i v H' ∧ Q H'
theorem set_dict (hu : X.A.units + 1 < cLine) : PSet X rSetD := by
  intro pins s σ H o i v ov iv u Q I ro ri rv h
  obtain ⟨a, H', rfl, g, q⟩ := h
  cases ro
  exact d_setItem hu I g ri rv fun s' I' => ⟨H', I', q⟩
theorem PSet.or {t t' : TSet} (h : PSet X t) (h' : PSet X t') : PSet X fun o i v H Q => t o i v H Q ∨ t' o i v H Q := fun pins s σ H o i v ov iv u Q I ro ri rv q =>
  q.elim (h pins s σ H o i v ov iv u Q I ro ri rv) (h' pins s σ H o i v ov iv u Q I ro ri rv)
def rSetW : TSet := fun o i v H Q => rSetL o i v H Q ∨ rSetD o i v H Q
theorem set_W (hu : X.A.units + 1 < cLine) : PSet X rSetW := PSet.or set_list (set_dict hu)
theorem set_at {K : PySem.W.Frag} {cl : Cla} {ι : Nat → Addr} {S S' : Hs} {H : Hp} {x i v : W} {a b c : V} {Q : Hp → Prop} (r : Rel K cl ι S H) (rx : Rep K ι S.length H x a) (ri : Rep K ι S.length H i b) (rv : Rep K ι S.length H v c)
    (e : setW x i v S = some S') (q : ∀ H', Go K cl ι S H ι S' H' → Q H') : rSetW a b c H Q := by
  unfold setW at e
  split at e
  · rename_i n
    obtain ⟨rfl, hn⟩ := rx.ref_inv
    split at e
    · rename_i ws q1
      obtain ⟨vs, h1, h2⟩ := lst_at r q1
      split at e
      · split at e
        · rename_i j ej
          cases e
          cases ri
          refine .inl ⟨_, vs, _, j, rfl, rfl, h1, by rw [← h2.length]; exact ej, q _ ?_⟩
          refine r.write hn ⟨_, upd_same, ?_⟩
          have kp : Kpt H (upd H (ι n) (.lst (vs.set j c))) := fun a u k e => by rw [upd_ne (r.tupOff k e n hn)]; exact e
          exact (h2.set rv j).mono (Nat.le_refl _) (fun _ _ => rfl) kp
        · cases e
      · cases e
    · rename_i kvs q1
      obtain ⟨kv, h1, h2⟩ := r.obj _ _ q1
      split at e
      · rename_i k ek
        split at e
        · rename_i hz
          cases e
          have := keyW_rep ri ek
          subst this
          refine .inr ⟨_, _, rfl, DPut.k h1 (by rw [← h2.length]; exact hz), q _ ?_⟩
          refine r.write hn ⟨_, upd_same, ?_⟩
          have kp : Kpt H (upd H (ι n) (.dK (putK kv k c))) := fun a u k e => by rw [upd_ne (r.tupOff k e n hn)]; exact e
          exact (h2.put rv).mono (Nat.le_refl _) (fun _ _ => rfl) kp
        · cases e
      · cases e
    · cases e
  · cases e
end
end DL

set_option Elab.async false
set_option linter.all false
set_option maxRecDepth 100000
/-! DL9: statements, targets, loops. -/
namespace DL
open PySem PySem.Spec PyProof.Rows L2

/-- what is wanted behind a statement -/
def ResS (K : PySem.W.Frag) (cl : Cla) (Wx : L2.WX) (ι : Nat → Addr) (S : Hs) (H : Hp) (r : RS) (D : Ends) : Prop := match r with
  | .nx sw S' => ∀ (ι' : Nat → Addr) (σ' : L2.St) (H' : Hp), Go K cl ι S H ι' S' H' → Slots K ι' S'.length H' sw σ' → D.nx σ' H'
  | .rt w S' => ∀ (ι' : Nat → Addr) (v : V) (H' : Hp), Go K cl ι S H ι' S' H' → Rep K ι' S'.length H' w v → D.rt v H'
  | .bk sw S' => ∀ (ι' : Nat → Addr) (σ' : L2.St) (H' : Hp), Go K cl ι S H ι' S' H' → Slots K ι' S'.length H' sw σ' → D.bk σ' H'
  | .ct sw S' => ∀ (ι' : Nat → Addr) (σ' : L2.St) (H' : Hp), Go K cl ι S H ι' S' H' → Slots K ι' S'.length H' sw σ' → D.ct σ' H'
  | .exc C fs sw S' => ∀ (ι' : Nat → Addr) (σ' : L2.St) (d : Addr) (gs : List (Str × V)) (H' : Hp), Go K cl ι S H ι' S' H' → Slots K ι' S'.length H' sw σ' → H' d = some (.xd gs) → KReps K ι' S'.length H' fs gs → (∀ i, i < S'.length → d ≠ ι' i) → Wx (.ref (cl C)) (some d) σ' H'
  | .bad => False
def tS (K : PySem.W.Frag) (cl : Cla) (Wx : L2.WX) (f : DS) : TS := fun D σ H => ∃ ι S sw, At K cl ι S sw σ H ∧ ResS K cl Wx ι S H (f sw S) D
/-- what a target may do to the slots -/
structure SPr where
  rel : L2.St → L2.St → Prop
  refl : ∀ σ, rel σ σ
  trans : ∀ σ σ' σ'', rel σ σ' → rel σ' σ'' → rel σ σ''
def anyS : SPr := ⟨fun _ _ => True, fun _ => trivial, fun _ _ _ _ _ => trivial⟩
def ownS (vs : List Nat) : SPr := ⟨fun σ σ' => wipe σ' vs = wipe σ vs, fun _ => rfl, fun _ _ _ a b => b.trans a⟩
def tG (K : PySem.W.Frag) (cl : Cla) (P : SPr) (f : DG) : TG := fun v σ H Q => ∃ ι S sw w, At K cl ι S sw σ H ∧ Rep K ι S.length H w v ∧ match f w sw S with
  | .ok sw' S' => ∀ (ι' : Nat → Addr) (σ' : L2.St) (H' : Hp), Go K cl ι S H ι' S' H' → Slots K ι' S'.length H' sw' σ' → P.rel σ σ' → Q σ' H'
  | _ => False
section
variable {K : PySem.W.Frag} {cl : Cla} {Wx : L2.WX} {ι ι' : Nat → Addr} {S S' : Hs} {H H' : Hp} {D : Ends}
theorem ResS.from {r : RS} (g : Go K cl ι S H ι' S' H') (h : ResS K cl Wx ι S H r D) : ResS K cl Wx ι' S' H' r D := by
  cases r with
  | nx sw S2 => exact fun ι2 σ2 H2 g2 => h ι2 σ2 H2 (g.trans g2)
  | rt sw S2 => exact fun ι2 σ2 H2 g2 => h ι2 σ2 H2 (g.trans g2)
  | bk sw S2 => exact fun ι2 σ2 H2 g2 => h ι2 σ2 H2 (g.trans g2)
  | ct sw S2 => exact fun ι2 σ2 H2 g2 => h ι2 σ2 H2 (g.trans g2)
  | exc C fs sw S2 => exact fun ι2 σ2 d gs H2 g2 => h ι2 σ2 d gs H2 (g.trans g2)
  | bad => exact h
theorem ResS.seq {r : RS} {k : SW → Hs → RS} (h : ResS K cl Wx ι S H (r.seq k) D) :
    ResS K cl Wx ι S H r { D with nx := fun σ' H' => ∃ ι' S' sw', At K cl ι' S' sw' σ' H' ∧ ResS K cl Wx ι' S' H' (k sw' S') D } := by
  cases r with
  | nx sw S2 => exact fun ι2 σ2 H2 g2 s2 => ⟨ι2, S2, sw, ⟨g2.rel, s2⟩, ResS.from g2 h⟩
  | _ => exact h
/-- an expression within a statement -/
theorem Res.to {α β : Type} {RA : (Nat → Addr) → Nat → Hp → α → β → Prop} {r : R α} {sw : SW} {σ : L2.St} {k : α → Hs → RS} (A : At K cl ι S sw σ H) (h : ResS K cl Wx ι S H (r.to sw k) D) :
    Res K cl RA ι S H r (fun b H1 => ∃ ι1 S1 a, Go K cl ι S H ι1 S1 H1 ∧ RA ι1 S1.length H1 a b ∧ r = .ok a S1 ∧ ResS K cl Wx ι1 S1 H1 (k a S1) D) fun c d H' => Wx c d σ H' := by
  cases r with
  | ok a S1 => exact fun ι1 b H1 g x => ⟨ι1, S1, a, g, x, rfl, ResS.from g h⟩
  | exc C fs S' => exact fun ι1 d gs H1 g e kr ne => h ι1 σ d gs H1 g (A.sl.go A.rel g) e kr ne
  | bad => exact h
theorem ResS.nx_at {sw : SW} {σ : L2.St} (h : ResS K cl Wx ι S H (.nx sw S) D) (r : Rel K cl ι S H) (s : Slots K ι S.length H sw σ) : D.nx σ H := h ι σ H (Go.refl r) s
end
/-! ### small statements -/
def snil : DS := fun sw S => .nx sw S
def sseq (a b : DS) : DS := fun sw S => (a sw S).seq b
def sexpr (e : DE) : DS := fun sw S => (e sw S).to sw fun _ S1 => .nx sw S1
def sret (e : DE) : DS := fun sw S => (e sw S).to sw fun w S1 => .rt w S1
def sretN : DS := fun _ S => .rt .non S
def sbreak : DS := fun sw S => .bk sw S
def scont : DS := fun sw S => .ct sw S
def sif (t : DT) (a b : DS) : DS := fun sw S => (t sw S).to sw fun c S1 => if c = true then a sw S1 else b sw S1
def sasg (e : DE) (g : DG) : DS := fun sw S => (e sw S).to sw fun w S1 => match g w sw S1 with
  | .ok sw' S2 => .nx sw' S2
  | _ => .bad
section
variable {X : Cx} {cl : Cla} {Wx : L2.WX} {pos : Pos} {e c tg : Expr} {st : Stmt} {sts ss rest : List Stmt} {fe : DE} {ft : DT} {f u : DS} {g : DG} {σ : L2.St} {H : Hp}
theorem t_nx {K : PySem.W.Frag} {D : Ends} (h : tS K cl Wx snil D σ H) : tNext D σ H := by
  obtain ⟨ι, S, sw, A, h⟩ := h
  exact ResS.nx_at h A.rel A.sl
theorem z_nil : PSs X [] (tS X.K cl Wx snil) := pss_nil.dimp fun _ _ _ => t_nx
theorem z_pass : PS X (.Pass pos) (tS X.K cl Wx snil) := ps_pass.dimp fun _ _ _ => t_nx
theorem z_doc {x j pos'} : PS X (.Expr (.Constant (.str x) j pos) pos') (tS X.K cl Wx snil) := ps_doc.dimp fun _ _ _ => t_nx
theorem z_cons (h1 : PS X st (tS X.K cl Wx f)) (h2 : PSs X rest (tS X.K cl Wx u)) : PSs X (st :: rest) (tS X.K cl Wx (sseq f u)) := (pss_cons h1 h2).dimp fun D σ H h => by
  obtain ⟨ι, S, sw, A, h⟩ := h
  exact ⟨ι, S, sw, A, ResS.seq h⟩
theorem z_one (h1 : PS X st (tS X.K cl Wx f)) : PSs X [st] (tS X.K cl Wx f) := pss_one h1
theorem z_break : PS X (.Break pos) (tS X.K cl Wx sbreak) := ps_break.dimp fun D σ H h => by
  obtain ⟨ι, S, sw, A, h⟩ := h
  exact h ι σ H (Go.refl A.rel) A.sl
theorem z_continue : PS X (.Continue pos) (tS X.K cl Wx scont) := ps_continue.dimp fun D σ H h => by
  obtain ⟨ι, S, sw, A, h⟩ := h
  exact h ι σ H (Go.refl A.rel) A.sl
theorem z_expr (he : PE X e (tE X.K cl Wx fe)) (hs : swapsWith e none pos.line X.env = pure false := by rfl) : PS X (.Expr e pos) (tS X.K cl Wx (sexpr fe)) := (ps_expr he hs).dimp fun D σ H h => by
  obtain ⟨ι, S, sw, A, h⟩ := h
  refine ⟨ι, S, sw, A, Res.imp (Res.to (RA := RV X.K) A h) fun x H1 ⟨ι1, S1, w1, g1, r1, _, h1⟩ => ?_⟩
  exact ResS.nx_at h1 g1.rel (A.sl.go A.rel g1)
theorem z_ret (he : PE X e (tE X.K cl Wx fe)) : PS X (.Return (some e) pos) (tS X.K cl Wx (sret fe)) := (ps_ret he).dimp fun D σ H h => by
  obtain ⟨ι, S, sw, A, h⟩ := h
  refine ⟨ι, S, sw, A, Res.imp (Res.to (RA := RV X.K) A h) fun x H1 ⟨ι1, S1, w1, g1, r1, _, h1⟩ => ?_⟩
  exact h1 ι1 x H1 (Go.refl g1.rel) r1
theorem z_retN : PS X (.Return none pos) (tS X.K cl Wx sretN) := ps_retN.dimp fun D σ H h => by
  obtain ⟨ι, S, sw, A, h⟩ := h
  exact h ι .non H (Go.refl A.rel) .non
theorem z_if (hc : PT X c (tT X.K cl Wx ft)) (ha : PSs X sts (tS X.K cl Wx f)) (hb : PSs X ss (tS X.K cl Wx u)) : PS X (.If c sts ss pos) (tS X.K cl Wx (sif ft f u)) := (ps_if hc ha hb).dimp fun D σ H h => by
  obtain ⟨ι, S, sw, A, h⟩ := h
  refine ⟨ι, S, sw, A, Res.imp (Res.to (RA := RB) A h) fun x H1 ⟨ι1, S1, w1, g1, r1, _, h1⟩ => ?_⟩
  cases r1
  cases x with
  | true => rw [if_pos rfl] at h1 ⊢; exact ⟨ι1, S1, sw, A.go g1, h1⟩
  | false => rw [if_neg (by decide)] at h1 ⊢; exact ⟨ι1, S1, sw, A.go g1, h1⟩
theorem z_asg (he : PE X e (tE X.K cl Wx fe)) (hg : PG X tg (tG X.K cl anyS g)) (hs : swapsWithSole [tg] e pos.line X.env = pure false := by rfl) (hw : swappedStores [tg] e X.env = pure none := by rfl) (h1 : (assignEach [tg] X.env).map (·.2) = [assign tg X.env] := by rfl) :
    PS X (.Assign [tg] e pos) (tS X.K cl Wx (sasg fe g)) := (ps_asg he hg hs hw h1).dimp fun D σ H h => by
  obtain ⟨ι, S, sw, A, h⟩ := h
  refine ⟨ι, S, sw, A, Res.imp (Res.to (RA := RV X.K) A h) fun x H1 ⟨ι1, S1, w1, g1, r1, _, h1⟩ => ?_⟩
  refine ⟨ι1, S1, sw, w1, A.go g1, r1, ?_⟩
  cases q : g w1 sw S1 with
  | ok sw' S2 => rw [q] at h1; exact fun ι2 σ2 H2 g2 s2 _ => h1 ι2 σ2 H2 g2 s2
  | exc _ _ _ => rw [q] at h1; exact h1
  | bad => rw [q] at h1; exact h1
/-! ### targets -/
end
def gname (i : Nat) : DG := fun w sw S => .ok (sw.set i (some w)) S
abbrev DGs := List W → SW → Hs → R SW
def ggnil : DGs := fun ws sw S => match ws with
  | [] => .ok sw S
  | _ => .bad
def ggcons (g : DG) (r : DGs) : DGs := fun ws sw S => match ws with
  | w :: ws => (g w sw S).bind fun sw1 S1 => r ws sw1 S1
  | [] => .bad
def gtup (r : DGs) : DG := fun w sw S => match w with
  | .tup ws => r ws sw S
  | _ => .bad
def gsub (o i : DE) : DG := fun w sw S => match o sw S with
  | .ok x S1 => match i sw S1 with
    | .ok y S2 => match setW x y w S2 with
      | some S3 => .ok sw S3
      | none => .bad
    | _ => .bad
  | _ => .bad
def tGs (K : PySem.W.Frag) (cl : Cla) (P : SPr) (f : DGs) : TGs := fun vs σ H Q => ∃ ι S sw ws, At K cl ι S sw σ H ∧ Reps K ι S.length H ws vs ∧ match f ws sw S with
  | .ok sw' S' => ∀ (ι' : Nat → Addr) (σ' : L2.St) (H' : Hp), Go K cl ι S H ι' S' H' → Slots K ι' S'.length H' sw' σ' → P.rel σ σ' → Q σ' H'
  | _ => False
theorem _root_.L2.PG.dimp {X : Cx} {e : Expr} {t u : TG} (h : PG X e t) (i : ∀ v σ H Q, u v σ H Q → t v σ H Q) : PG X e u := ⟨fun pins s σ H v uu Q I r q => h.run pins s σ H v uu Q I r (i v σ H Q q)⟩
theorem _root_.L2.PGs.dimp {X : Cx} {e : List Expr} {t u : TGs} (h : PGs X e t) (i : ∀ v σ H Q, u v σ H Q → t v σ H Q) : PGs X e u := ⟨fun pins s σ H v uu Q I r q => h.run pins s σ H v uu Q I r (i v σ H Q q)⟩
section
variable {X : Cx} {cl : Cla} {Wx : L2.WX} {P : SPr} {pos : Pos} {e c tg o i : Expr} {es : List Expr} {fe fo fi : DE} {g : DG} {gs : DGs} {σ : L2.St} {H : Hp}
theorem wipe_set {σ : L2.St} {i : Nat} {v : Option V} : ∀ {vs : List Nat}, i ∈ vs → wipe (σ.set i v) vs = wipe σ vs
  | [], h => by cases h
  | j :: vs, h => by
    show (wipe (σ.set i v) vs).set j none = (wipe σ vs).set j none
    by_cases hi : i ∈ vs
    · rw [wipe_set hi]
    · have e : i = j := by
        rcases List.mem_cons.mp h with e | e
        · exact e
        · exact absurd e hi
      subst e
      have : ∀ (vs : List Nat), i ∉ vs → wipe (σ.set i v) vs = (wipe σ vs).set i v := by
        intro vs
        induction vs with
        | nil => intro _; rfl
        | cons k vs ih =>
          intro hk
          simp only [List.mem_cons, not_or] at hk
          show (wipe (σ.set i v) vs).set k none = ((wipe σ vs).set k none).set i v
          rw [ih hk.2, List.set_comm _ _ hk.1]
      rw [this vs hi, List.set_set]
theorem x_name {i : Nat} {x : Str} (hN : X.N.Nodup) (hi : X.N[i]? = some x := by rfl) (hx : Loc X.env.scope x := by first | exact .inl rfl | exact .inr rfl) (hf : X.fn x = true ∨ X.env.scope.names.lookup x = some .local := by first | exact .inl rfl | exact .inr rfl | assumption) (hP : ∀ σ v, P.rel σ (σ.set i v) := by first | exact fun _ _ => trivial | exact fun _ _ => wipe_set (by decide)) :
    PG X (.Name x pos) (tG X.K cl P (gname i)) := (pg_name hN hi hx hf).dimp fun v σ H Q h => by
  obtain ⟨ι, S, sw, w, A, r, h⟩ := h
  exact h ι _ H (Go.refl A.rel) (A.sl.set _ r) (hP _ _)
theorem x_gnil : PGs X [] (tGs X.K cl P ggnil) := pgs_nil.dimp fun v σ H Q h => by
  obtain ⟨ι, S, sw, ws, A, r, h⟩ := h
  cases r with
  | nil => exact ⟨rfl, h ι _ H (Go.refl A.rel) A.sl (P.refl _)⟩
  | cons _ _ => exact h.elim
theorem t_gcons {K : PySem.W.Frag} {vs : List V} {Q : L2.St → Hp → Prop} (h : tGs K cl P (ggcons g gs) vs σ H Q) : gCons (tG K cl P g) (tGs K cl P gs) vs σ H Q := by
  obtain ⟨ι, S, sw, ws, A, r, h⟩ := h
  cases r with
  | nil => exact h.elim
  | cons ra rb =>
    rename_i w v ws vs
    refine ⟨v, vs, rfl, ι, S, sw, w, A, ra, ?_⟩
    have h' : match (g w sw S).bind fun sw1 S1 => gs ws sw1 S1 with
      | .ok sw' S' => ∀ (ι' : Nat → Addr) (σ' : L2.St) (H' : Hp), Go K cl ι S H ι' S' H' → Slots K ι' S'.length H' sw' σ' → P.rel σ σ' → Q σ' H'
      | _ => False := h
    cases q : g w sw S with
    | ok sw1 S1 =>
      rw [q] at h'
      intro ι1 σ1 H1 g1 s1 p1
      refine ⟨ι1, S1, sw1, ws, ⟨g1.rel, s1⟩, rb.go A.rel g1, ?_⟩
      have h2 : match gs ws sw1 S1 with
        | .ok sw' S' => ∀ (ι' : Nat → Addr) (σ' : L2.St) (H' : Hp), Go K cl ι S H ι' S' H' → Slots K ι' S'.length H' sw' σ' → P.rel σ σ' → Q σ' H'
        | _ => False := h'
      cases q2 : gs ws sw1 S1 with
      | ok sw2 S2 => rw [q2] at h2; exact fun ι2 σ2 H2 g2 s2 p2 => h2 ι2 σ2 H2 (g1.trans g2) s2 (P.trans _ _ _ p1 p2)
      | exc _ _ _ => rw [q2] at h2; exact h2
      | bad => rw [q2] at h2; exact h2
    | exc _ _ _ => rw [q] at h'; exact h'
    | bad => rw [q] at h'; exact h'
theorem x_gcons (h1 : PG X e (tG X.K cl P g)) (h2 : PGs X es (tGs X.K cl P gs)) (hs : (assignEach (e :: es) X.env).map (·.2) = assign e X.env :: (assignEach es X.env).map (·.2) := by rfl) : PGs X (e :: es) (tGs X.K cl P (ggcons g gs)) :=
  (pgs_cons h1 h2 hs).dimp fun v σ H Q h => t_gcons h
theorem x_tup {k n : Nat} (hc : X.calm = true) (h : PGs X es (tGs X.K cl P gs)) (hl : ∀ ws sw S sw' S', gs ws sw S = .ok sw' S' → ws.length = n) (hn : (assignEach es X.env).length = n := by rfl) (hst : (assignEach es X.env).findIdx? (·.1) = none := by rfl) :
    PG X (.Tuple es k pos) (tG X.K cl P (gtup gs)) := (pg_tup hc h hn hst).dimp fun v σ H Q h => by
  obtain ⟨ι, S, sw, w, A, r, h⟩ := h
  cases w with
  | tup ws =>
    obtain ⟨a, vs, rfl, t1, t2⟩ := r.tup_inv
    have h' : match gs ws sw S with
      | .ok sw' S' => ∀ (ι' : Nat → Addr) (σ' : L2.St) (H' : Hp), Go X.K cl ι S H ι' S' H' → Slots X.K ι' S'.length H' sw' σ' → P.rel σ σ' → Q σ' H'
      | _ => False := h
    cases q : gs ws sw S with
    | ok sw' S' => exact ⟨a, vs, rfl, t1.sq, by rw [← t2.length]; exact hl _ _ _ _ _ q, ι, S, sw, ws, A, t2, h'⟩
    | exc _ _ _ => rw [q] at h'; exact h'.elim
    | bad => rw [q] at h'; exact h'.elim
  | _ => exact h.elim
/-- the number of targets in a row -/
theorem len_gnil : ∀ ws sw S sw' S', ggnil ws sw S = .ok sw' S' → ws.length = 0 := by
  intro ws sw S sw' S' h
  cases ws with
  | nil => rfl
  | cons _ _ => cases h
theorem len_gcons {n : Nat} (h : ∀ ws sw S sw' S', gs ws sw S = .ok sw' S' → ws.length = n) : ∀ ws sw S sw' S', ggcons g gs ws sw S = .ok sw' S' → ws.length = n + 1 := by
  intro ws sw S sw' S' e
  cases ws with
  | nil => cases e
  | cons w ws =>
    have e' : ((g w sw S).bind fun sw1 S1 => gs ws sw1 S1) = .ok sw' S' := e
    cases q : g w sw S with
    | ok sw1 S1 => rw [q] at e'; rw [List.length_cons, h _ _ _ _ _ e']
    | exc _ _ _ => rw [q] at e'; cases e'
    | bad => rw [q] at e'; cases e'
theorem x_sub (hu : X.A.units + 1 < cLine) (ho : PE X o (tE X.K cl Wx fo)) (hi : PE X i (tE X.K cl Wx fi))
    (ha : ∀ v, assign (.Subscript o i pos) X.env v = (do
      let ov ← holding [v] (eval o X.env)
      let iv ← holding [v, ov] (eval i X.env)
      standAt pos
      holding [v, ov, iv] (setItem ov iv v)
      release [v, ov, iv] []) := by intro _; rfl) : PG X (.Subscript o i pos) (tG X.K cl P (gsub fo fi)) := (pg_sub ho hi (set_W hu) ha).dimp fun v σ H Q h => by
  obtain ⟨ι, S, sw, w, A, r, h⟩ := h
  unfold gsub at h
  cases q1 : fo sw S with
  | ok x S1 =>
    simp only [q1] at h
    refine ⟨ι, S, sw, A, ?_⟩
    rw [q1]
    intro ι1 a H1 g1 ra
    refine ⟨ι1, S1, sw, A.go g1, ?_⟩
    cases q2 : fi sw S1 with
    | ok y S2 =>
      simp only [q2] at h
      intro ι2 b H2 g2 rb
      cases q3 : setW x y w S2 with
      | some S3 =>
        simp only [q3] at h
        refine set_at g2.rel (ra.go g1.rel g2) rb (r.go A.rel (g1.trans g2)) q3 fun H3 g3 => ?_
        exact h _ _ _ ((g1.trans g2).trans g3) (A.sl.go A.rel ((g1.trans g2).trans g3)) (P.refl _)
      | none => simp only [q3] at h
    | exc _ _ _ => simp only [q2] at h
    | bad => simp only [q2] at h
  | exc _ _ _ => simp only [q1] at h
  | bad => simp only [q1] at h
end
end DL

set_option Elab.async false
set_option linter.all false
set_option maxRecDepth 100000
/-! DL10: for, while. -/
namespace DL
open PySem PySem.Spec PyProof.Rows L2

/-- what a for walks: the items, and what must stay so while it is walked -/
structure ItD where
  items : List W
  guard : Hs → Bool
abbrev DI := SW → Hs → R ItD
def RIt (K : PySem.W.Frag) (cl : Cla) : (Nat → Addr) → Nat → Hp → ItD → It → Prop := fun ι0 n0 H0 it J =>
  ∀ (S0 : Hs) (ι : Nat → Addr) (S : Hs) (H : Hp) (i : Nat), S0.length = n0 → i ≤ it.items.length → Rel K cl ι0 S0 H0 → Go K cl ι0 S0 H0 ι S H → it.guard S = true →
    (∀ w, it.items[i]? = some w → J.go i H ∧ ∀ x H', J.yld i H x H' → Go K cl ι S H ι S H' ∧ Rep K ι S.length H' w x) ∧ (it.items[i]? = none → J.stop i H)
def tI (K : PySem.W.Frag) (cl : Cla) (Wx : L2.WX) (f : DI) : TI := fun σ H Rr => ∃ ι S sw, At K cl ι S sw σ H ∧ Res K cl (RIt K cl) ι S H (f sw S) Rr fun c d H' => Wx c d σ H'
theorem _root_.L2.PI.dimp {X : Cx} {tg e : Expr} {t u : TI} (h : PI X tg e t) (i : ∀ σ H Q, u σ H Q → t σ H Q) : PI X tg e u := ⟨fun pins s σ H R I q => h.run pins s σ H R I (i σ H R q)⟩

/-- a for's turns -/
def forD (guard : Hs → Bool) (g : DG) (body : DS) : List W → DS
  | [] => fun sw S => if guard S = true then .nx sw S else .bad
  | w :: ws => fun sw S => if guard S = true then (match g w sw S with
    | .ok sw1 S1 => match body sw1 S1 with
      | .nx sw2 S2 => forD guard g body ws sw2 S2
      | .ct sw2 S2 => forD guard g body ws sw2 S2
      | .bk sw2 S2 => .nx sw2 S2
      | r => r
    | _ => .bad) else .bad
def sfor (it : DI) (g : DG) (body : DS) : DS := fun sw S => (it sw S).to sw fun i S1 => forD i.guard g body i.items sw S1
/-- a while's turns, of which there is an end -/
def whileD (t : DT) (body : DS) : Nat → DS
  | 0 => fun _ _ => .bad
  | n + 1 => fun sw S => (t sw S).to sw fun c S1 => if c = true then (match body sw S1 with
    | .nx sw2 S2 => whileD t body n sw2 S2
    | .ct sw2 S2 => whileD t body n sw2 S2
    | .bk sw2 S2 => .nx sw2 S2
    | r => r) else .nx sw S1
/-- more turns than any while of ours takes -/
def most : Nat := 1 <<< 40
def swhile (t : DT) (body : DS) : DS := whileD t body most
section
variable {X : Cx} {cl : Cla} {Wx : L2.WX} {pos : Pos} {e c tg iter : Expr} {body : List Stmt} {ft : DT} {f : DS} {g : DG} {it : DI}
theorem z_for (hp : PassesOwn (model X.prog X.w) X.A X.env X.xe) (hc : X.calm = true) (hi : PI X tg iter (tI X.K cl Wx it)) (hg : PG X tg (tG X.K cl anyS g)) (hb : PSs X body (tS X.K cl Wx f))
    (hs : ∀ x, foldedSetIterable iter X.env x = pure x := by intro _; rfl) : PS X (.For tg iter body [] pos) (tS X.K cl Wx (sfor it g f)) := (ps_for hp hc hi hg hb hs).dimp fun D σ H h => by
  obtain ⟨ι, S, sw, A, h⟩ := h
  refine ⟨ι, S, sw, A, Res.imp (Res.to (RA := RIt X.K cl) A h) fun J H0 ⟨ι0, S0, i0, g0, r0, _, h0⟩ => ?_⟩
  refine ⟨fun i m σ' H' => m = i0.items.length - i ∧ i ≤ i0.items.length ∧ ∃ ι1 S1 sw1, Go X.K cl ι0 S0 H0 ι1 S1 H' ∧ Slots X.K ι1 S1.length H' sw1 σ' ∧ ResS X.K cl Wx ι1 S1 H' (forD i0.guard g f (i0.items.drop i) sw1 S1) D,
    ⟨i0.items.length, by simp, Nat.zero_le _, ι0, S0, sw, Go.refl g0.rel, A.sl.go A.rel g0, by simpa using h0⟩, ?_⟩
  rintro i m σ1 H1 ⟨rfl, hle, ι1, S1, sw1, g1, s1, h1⟩
  cases q : i0.items[i]? with
  | none =>
    have hd : i0.items.drop i = [] := List.drop_eq_nil_of_le (List.getElem?_eq_none_iff.mp q)
    rw [hd] at h1
    have h1' : ResS X.K cl Wx ι1 S1 H1 (if i0.guard S1 = true then .nx sw1 S1 else .bad) D := h1
    by_cases hg' : i0.guard S1 = true
    · rw [if_pos hg'] at h1'
      exact .inl ⟨(r0 S0 ι1 S1 H1 i rfl hle g0.rel g1 hg').2 q, ResS.nx_at h1' g1.rel s1⟩
    · rw [if_neg hg'] at h1'; exact h1'.elim
  | some w =>
    obtain ⟨hlt, hw⟩ := List.getElem?_eq_some_iff.mp q
    have hd : i0.items.drop i = w :: i0.items.drop (i + 1) := by rw [List.drop_eq_getElem_cons hlt, hw]
    rw [hd] at h1
    have h1' : ResS X.K cl Wx ι1 S1 H1 (if i0.guard S1 = true then (match g w sw1 S1 with
      | .ok sw1 S1 => (match f sw1 S1 with
        | .nx sw2 S2 => forD i0.guard g f (i0.items.drop (i + 1)) sw2 S2
        | .ct sw2 S2 => forD i0.guard g f (i0.items.drop (i + 1)) sw2 S2
        | .bk sw2 S2 => .nx sw2 S2
        | r => r)
      | _ => .bad) else .bad) D := h1
    by_cases hg' : i0.guard S1 = true
    · rw [if_pos hg'] at h1'
      obtain ⟨go, yl⟩ := (r0 S0 ι1 S1 H1 i rfl hle g0.rel g1 hg').1 w q
      refine .inr ⟨go, fun σ' H' => ∃ ι2 S2 sw2, Go X.K cl ι0 S0 H0 ι2 S2 H' ∧ Slots X.K ι2 S2.length H' sw2 σ' ∧ ResS X.K cl Wx ι2 S2 H' (forD i0.guard g f (i0.items.drop (i + 1)) sw2 S2) D,
        fun σ' H' hN => ⟨_, by omega, rfl, hlt, hN⟩, fun x H2 hy => ?_⟩
      obtain ⟨g2, rx⟩ := yl x H2 hy
      refine ⟨ι1, S1, sw1, w, ⟨g2.rel, s1.go g1.rel g2⟩, rx, ?_⟩
      cases q3 : g w sw1 S1 with
      | ok sw3 S3 =>
        simp only [q3] at h1'
        intro ι3 σ3 H3 g3 s3 _
        refine ⟨ι3, S3, sw3, ⟨g3.rel, s3⟩, ?_⟩
        have up := (g1.trans g2).trans g3
        have h3 := ResS.from (g2.trans g3) h1'
        cases q4 : f sw3 S3 with
        | nx sw4 S4 => simp only [q4] at h3; exact fun ι4 σ4 H4 g4 s4 => ⟨ι4, S4, sw4, up.trans g4, s4, ResS.from g4 h3⟩
        | ct sw4 S4 => simp only [q4] at h3; exact fun ι4 σ4 H4 g4 s4 => ⟨ι4, S4, sw4, up.trans g4, s4, ResS.from g4 h3⟩
        | bk sw4 S4 => simp only [q4] at h3; exact fun ι4 σ4 H4 g4 s4 => h3 ι4 σ4 H4 g4 s4
        | rt w4 S4 => simp only [q4] at h3; exact h3
        | exc C fs sw4 S4 => simp only [q4] at h3; exact h3
        | bad => simp only [q4] at h3; exact h3
      | exc _ _ _ => simp only [q3] at h1'; exact h1'
      | bad => simp only [q3] at h1'; exact h1'
    · rw [if_neg hg'] at h1'; exact h1'.elim
theorem z_while (hp : PassesOwn (model X.prog X.w) X.A X.env X.xe) (hc : PT X c (tT X.K cl Wx ft)) (hb : PSs X body (tS X.K cl Wx f)) : PS X (.While c body [] pos) (tS X.K cl Wx (swhile ft f)) := (ps_while hp hc hb).dimp fun D σ H h => by
  refine ⟨fun m σ' H' => ∃ ι S sw, At X.K cl ι S sw σ' H' ∧ ResS X.K cl Wx ι S H' (whileD ft f m sw S) D, ⟨most, h⟩, ?_⟩
  rintro m σ1 H1 ⟨ι, S, sw, A, h⟩
  cases m with
  | zero => exact h.elim
  | succ m =>
    refine ⟨ι, S, sw, A, Res.imp (Res.to (RA := RB) A h) fun b H2 ⟨ι2, S2, b2, g2, r2, _, h2⟩ => ?_⟩
    cases r2
    cases b with
    | true =>
      rw [if_pos rfl] at h2 ⊢
      refine ⟨fun σ' H' => ∃ ι S sw, At X.K cl ι S sw σ' H' ∧ ResS X.K cl Wx ι S H' (whileD ft f m sw S) D, fun σ' H' hN => ⟨m, Nat.lt_succ_self m, hN⟩, ι2, S2, sw, A.go g2, ?_⟩
      cases q4 : f sw S2 with
      | nx sw4 S4 => simp only [q4] at h2; exact fun ι4 σ4 H4 g4 s4 => ⟨ι4, S4, sw4, ⟨g4.rel, s4⟩, ResS.from g4 h2⟩
      | ct sw4 S4 => simp only [q4] at h2; exact fun ι4 σ4 H4 g4 s4 => ⟨ι4, S4, sw4, ⟨g4.rel, s4⟩, ResS.from g4 h2⟩
      | bk sw4 S4 => simp only [q4] at h2; exact fun ι4 σ4 H4 g4 s4 => h2 ι4 σ4 H4 g4 s4
      | rt w4 S4 => simp only [q4] at h2; exact h2
      | exc C fs sw4 S4 => simp only [q4] at h2; exact h2
      | bad => simp only [q4] at h2; exact h2
    | false =>
      rw [if_neg (by decide)] at h2 ⊢
      exact ResS.nx_at h2 g2.rel (A.sl.go A.rel g2)
end
end DL

set_option Elab.async false
set_option linter.all false
set_option maxRecDepth 100000
/-! DL11: what a for walks: lists and tuples, ranges, texts, enumerate, zip, reversed. -/
namespace DL
open PySem PySem.Spec PyProof.Rows L2

/-! ### a list (t = false) or a tuple (t = true) -/
def SqA (K : PySem.W.Frag) (t : Bool) (H : Hp) (a : Addr) (xs : List V) : Prop := match t with
  | true => SqT K H a xs
  | false => SqL K H a xs
def IsIt (t : Bool) (h : Heap) (it a : Addr) (i : Nat) : Prop := match t with
  | true => h.IsTupleIter it a i
  | false => h.IsListIter it a i
def IsSq (t : Bool) (h : Heap) (a : Addr) (its : Array Value) : Prop := match t with
  | true => h.IsTuple a its
  | false => h.IsList a its
def itObj (t : Bool) (a : Addr) : Obj := match t with
  | true => { cls := .type "tuple_iterator", data := .fields #[.ref a, .int 0 0] }
  | false => { cls := .type "list_iterator", data := .fields #[.ref a, .int 0 0] }
theorem begins_sq (t : Bool) (a : Addr) (its : Array Value) : Begins (.ref a) (itObj t a) fun h => IsSq t h a its := by
  cases t with
  | true => exact begins_tuple a its
  | false => exact begins_list a its
theorem draws_sq {prog : Program} {w : World} {A : Around} (hh : A.handled = none) (t : Bool) (it a : Addr) (hne : a ≠ it) (its : Array Value) :
    Draws prog w A it [it, a] its.size (fun i v => its[i]? = some v) (fun i h => IsIt t h it a i ∧ IsSq t h a its) := by
  cases t with
  | true => exact Draws.tuple hh it a hne its
  | false => exact Draws.list hh it a hne its
theorem isIt_obj {t : Bool} {h : Heap} {it a : Addr} {i : Nat} (x : IsIt t h it a i) : ∃ o vs, h.get? it = some o ∧ o.data = .fields vs := by
  cases t <;> (obtain ⟨o, e, _, d⟩ := x; exact ⟨o, _, e, d⟩)
theorem isIt_at {t : Bool} {h h' : Heap} {it a : Addr} {i : Nat} (x : IsIt t h it a i) (k : ∀ o, h.get? it = some o → h'.get? it = some o) : IsIt t h' it a i := by
  cases t <;> (obtain ⟨o, e, c, d⟩ := x; exact ⟨o, k o e, c, d⟩)
theorem isIt_new {t : Bool} {h : Heap} {it a : Addr} (e : h.get? it = some (itObj t a)) : IsIt t h it a 0 := by
  cases t <;> exact ⟨_, e, rfl, rfl⟩
section
variable {X : Cx} {pins : List (Addr × Obj)} {σ : L2.St} {H : Hp} {s : Shared} {a : Addr} {xs ys : List V} {t : Bool}
theorem sq_at (I : Inv X pins σ H s) (h : SqA X.K t H a xs) : ∃ its : List Value, Vals xs its ∧ IsSq t s.heap a its.toArray ∧ xs.length ≤ sizeLine := by
  cases t with
  | true => obtain ⟨its, r, p, z⟩ := I.tuple h; exact ⟨its, r, p, z⟩
  | false => obtain ⟨its, r, p, z⟩ := I.list h; exact ⟨its, r, p.isList, z⟩
theorem sq_inj (I : Inv X pins σ H s) (h : SqA X.K t H a xs) (h' : SqA X.K t H a ys) : xs = ys := by
  cases t with
  | true => exact I.tuple_inj h h'
  | false => exact I.list_inj h h'
theorem sq_lt {h : Heap} {its : Array Value} (x : IsSq t h a its) : a < h.objs.size := by
  cases t <;> (obtain ⟨o, e, _⟩ := x; exact Heap.lt_size e)
end
/-! ### walked alone -/
def ItA (K : PySem.W.Frag) (t : Bool) (a : Addr) : It := match t with
  | true => Itt K a
  | false => Itl K a
def iSeq (K : PySem.W.Frag) (tl : TE) : TI := fun σ H R => tl σ H fun x H1 => (∃ a t xs, x = .ref a ∧ SqA K t H1 a xs ∧ R (ItA K t a) H1) ∨ ∃ z, x = .str z ∧ R (Its z) H1
theorem pi_seq {X : Cx} {tg l : Expr} {tl : TE} (hl : PE X l tl) : PI X tg l (iSeq X.K tl) := by
  refine ⟨fun pins s σ H R I h => ?_⟩
  refine thn (hl.run pins s σ H _ I h) fun v s1 ⟨x, H1, I1, r1, q1⟩ => ?_
  rcases q1 with ⟨a, t, xs, rfl, hq, q⟩ | ⟨z, rfl, q⟩
  · cases r1
    have fp : ∀ b ∈ [s1.heap.objs.size], FpOk X pins H1 b := fun b hb => by
      have e : b = s1.heap.objs.size := by simpa using hb
      subst e
      exact I1.fpOk (Nat.le_refl _) (I1.hok.fresh (Nat.le_refl _))
    cases t with
    | true =>
      obtain ⟨its, rv, p, hz⟩ := I1.tuple hq
      refine wpAny_pyIter_tuple (show s1.heap.IsTuple a its.toArray from p) ?_
      exact ⟨s1.heap.objs.size, [s1.heap.objs.size], _, _, H1, rfl, I1.kept (t' := s1.toks) fun b o e => Heap.get?_push_of_some _ e, turn_tuple a _, ⟨_, Heap.get?_push_size _ rfl, rfl, rfl⟩, fp, q⟩
    | false =>
      obtain ⟨its, rv, p, hz⟩ := I1.list hq
      refine wpAny_pyIter_list p.isList ?_
      exact ⟨s1.heap.objs.size, [s1.heap.objs.size], _, _, H1, rfl, I1.kept (t' := s1.toks) fun b o e => Heap.get?_push_of_some _ e, turn_list a _, ⟨_, Heap.get?_push_size _ rfl, rfl, rfl⟩, fp, q⟩
  · obtain ⟨t, rfl⟩ := r1
    cases ha : z.cps.all (· < 128)
    · exact wpAny_pyIter_wide ha (pi_one (tk := s1.toks) I1 _ (turn_str _ z t "str_iterator" (.inr rfl)) ⟨_, Heap.get?_push_size _ rfl, rfl, rfl⟩ q)
    · exact wpAny_pyIter_ascii ha (pi_one (tk := s1.toks) I1 _ (turn_str _ z t "str_ascii_iterator" (.inl rfl)) ⟨_, Heap.get?_push_size _ rfl, rfl, rfl⟩ q)
/-! ### enumerate -/
def IteA (K : PySem.W.Frag) (t : Bool) (a : Addr) : It :=
  ⟨fun i H => ∃ (xs : List V) (x : V), SqA K t H a xs ∧ xs[i]? = some x, fun i H v H' => ∃ T x, v = .ref T ∧ H T = none ∧ H' = upd H T (.tup [.int (i : Nat), x]) ∧ ∀ xs, SqA K t H a xs → xs[i]? = some x, fun i H => ∃ xs : List V, SqA K t H a xs ∧ xs.length = i⟩
theorem turn_enumA {P : Program} {w : World} {K : PySem.W.Frag} {elts : List Expr} {kk : Nat} {tpos : Pos} (t : Bool) (a e it : Addr) :
    Turn P w K (.Tuple elts kk tpos) (IteA K t a) [e, it] e (fun i h => (∃ old, IsEnum h e it ((i : Nat) : Int) old) ∧ IsIt t h it a i ∧ e ≠ it ∧ a ≠ e ∧ a ≠ it) where
  mem := by simp
  obj := fun i h st b hb => by
    obtain ⟨⟨old, he⟩, hit, _⟩ := st
    obtain ⟨o, vs, ho, hd⟩ := isIt_obj hit
    have e' : b = e ∨ b = it := by simpa using hb
    rcases e' with z | z
    · rw [z]; exact ⟨_, he, fun v q => nomatch q⟩
    · rw [z]; exact ⟨o, ho, fun v q => by rw [hd] at q; cases q⟩
  keep := fun i h h' st k => let ⟨⟨old, he⟩, hi, hne⟩ := st; ⟨⟨old, k e (by simp) _ he⟩, isIt_at hi fun o q => k it (by simp) o q, hne⟩
  item := by
    intro X hP hw hK hc i pins s σ H E I hf st hg
    subst hP hw hK
    obtain ⟨⟨old, he⟩, hit, hne, hae, hai⟩ := st
    obtain ⟨xs, x, hq, hx⟩ := hg
    obtain ⟨its, rv, p, hz⟩ := sq_at I hq
    obtain ⟨u, hu, ru⟩ := rv.get hx
    have hel : e < s.heap.objs.size := Heap.lt_size he
    have hil : it < s.heap.objs.size := by obtain ⟨_, _, q, _⟩ := isIt_obj hit; exact Heap.lt_size q
    have hlt : i < its.toArray.size := by
      have := (List.getElem?_eq_some_iff.mp hu).1
      simpa using this
    refine wpAny_pyNext_enum_itemD (draws_sq (A := X.A.in1) (by show X.A.handled = none; exact I.ok.hd hc) t it a hai its.toArray) he ⟨hit, p⟩ hlt hne (by simp [hne, Ne.symm hae]) fun v h' tk hPv ho hst' hT hsz hk => ?_
    have ev : v = u := by
      have h1 : its.toArray[i]? = some u := by simpa using hu
      rw [h1] at hPv
      exact (Option.some.inj hPv).symm
    subst ev
    refine ⟨_, rfl, wpAny_letOwnedTupleGo_enum (s := { s with heap := h', toks := _ }) ho fun h'' he' sb => ?_⟩
    have hT2 : h''.get? s.heap.objs.size = some { cls := .type "tuple", data := .seq #[.int i tk, v] } := (sb.2 _ (Nat.ne_of_gt hel)).trans hT
    have new : ObjOk X.prog X.w (upd H s.heap.objs.size (.tup [.int (i : Nat), x])) h'' s.heap.objs.size (.tup [.int (i : Nat), x]) :=
      ⟨by show 2 ≤ sizeLine; decide, [.int i tk, v], .cons ⟨_, rfl⟩ (.cons ru .nil), ⟨_, hT2, rfl, _, rfl⟩⟩
    have I1 := I.turnedNew (t' := tk + 1) (ch := [e, it]) (T := s.heap.objs.size) (h' := h'') (fun b ob hb q => (sb.2 b (fun z => hb (by simp [z]))).trans (hk b ob (fun z => hb (by simp [z])) (fun z => hb (by simp [z])) q)) hf (Nat.le_refl _) new
    refine ⟨.ref s.heap.objs.size, _, I1, rfl, ⟨_, x, rfl, I.hok.fresh (Nat.le_refl _), rfl, fun ys hy => by rw [sq_inj I hy hq]; exact hx⟩, ⟨⟨v, ?_⟩, isIt_at hst'.1 fun o q => (sb.2 it (Ne.symm hne)).trans q, hne, hae, hai⟩, fun b hb => ?_⟩
    · have e1 : ((i + 1 : Nat) : Int) = (i : Int) + 1 := by omega
      rw [e1]; exact he'
    · have hb' : b < s.heap.objs.size := by
        have e' : b = e ∨ b = it := by simpa using hb
        rcases e' with z | z
        · rw [z]; exact hel
        · rw [z]; exact hil
      rw [upd_ne (Nat.ne_of_lt hb')]
      exact (hf b hb).1
  done := by
    intro X hP hw hK hc i pins s σ H E I hf st hg
    subst hP hw hK
    obtain ⟨⟨old, he⟩, hit, hne, hae, hai⟩ := st
    obtain ⟨xs, hq, hx⟩ := hg
    obtain ⟨its, rv, p, hz⟩ := sq_at I hq
    obtain ⟨f0, f1, f2, f3, f4, f5⟩ := hf it (by simp)
    have hl := rv.length
    refine wpAny_pyNext_enum_endD (n := its.toArray.size) (draws_sq (A := X.A.in1) (by show X.A.handled = none; exact I.ok.hd hc) t it a hai its.toArray) he ⟨?_, p⟩ fun h' eb => ⟨rfl, I.turned (t' := s.toks) (fun b o hb q => eb b o hb q) f0 f1 f3 f4 f5⟩
    rw [List.size_toArray, ← hl, hx]
    exact hit
  self := fun A i s Q E st h => let ⟨⟨_, he⟩, _⟩ := st; wpAny_pyIter_enum he h
/-- enumerate(v) -/
theorem meets_enumerate_new1B {v : Value} {o : Obj} {H : Heap → Prop} (B : Begins v o H) :
    Meets (Builtin.«enumerate.__new__» ⟨[.type "enumerate", v], []⟩) (fun _ R s => H s.heap ∧
      R (.ok (.ret (.ref (s.heap.push o).objs.size))) { s with heap := (s.heap.push o).push { cls := .type "enumerate", data := .fields #[.none, .bool false, .ref s.heap.objs.size, rawInt 0, .none, .none] } }) :=
  .of_wp fun prog w A R s h => by
    obtain ⟨hp, g, d, tk, os⟩ := s; obtain ⟨h1, h⟩ := h
    have hsub := sub_enumerate
    have q1 : ∀ {A' : Around} {E : Value → Shared → Prop} {Q : Value → Shared → Prop}, Q (.ref hp.objs.size) ⟨hp.push o, g, d, tk, os⟩ → wpAny (model prog w) A' (pyIter v) Q E ⟨hp, g, d, tk, os⟩ :=
      fun q => B.iter prog w _ _ ⟨hp, g, d, tk, os⟩ _ h1 q
    wp_walk using q1
    refine wpAny_stack_any fun st => wpAny_pure ?_
    split
    · rename_i c _ _ _ _ _
      cases (c == Value.type "enumerate")
      · wp_walk using q1
        exact ⟨_, rfl, h⟩
      · wp_walk using q1
        exact ⟨_, rfl, h⟩
    · wp_walk using q1
      exact ⟨_, rfl, h⟩
theorem call_enum1 {prog : Program} {w : World} {A : Around} {E : Value → Shared → Prop} {s : Shared} {v : Value} {o : Obj} {H : Heap → Prop} {Q : Value → Shared → Prop} (B : Begins v o H) (h1 : H s.heap)
    (h : ∀ h', IsEnum h' (s.heap.objs.size + 1) s.heap.objs.size 0 .none → h'.get? s.heap.objs.size = some o → h'.objs.size = s.heap.objs.size + 2 →
      (∀ b o, s.heap.get? b = some o → h'.get? b = some o) → Q (.ref (s.heap.objs.size + 1)) { s with heap := h' }) :
    wpAny (model prog w) A (call (.type "enumerate") [v]) Q E s := by
  refine callType_new F.called_enumerate (by decide) (F.typeCall_enumerate_1 _) (F.newCall_enumerate_1 _) (fun obj => F.args_object_init_2 obj _) F.entry_enumerate_new
    (meets_enumerate_new1B B) ⟨h1, ?_⟩
  have hz : (s.heap.push o).objs.size = s.heap.objs.size + 1 := Heap.size_push ..
  show _ ∧ _
  rw [hz]
  have he : IsEnum ((s.heap.push o).push { cls := .type "enumerate", data := .fields #[.none, .bool false, .ref s.heap.objs.size, rawInt 0, .none, .none] }) (s.heap.objs.size + 1) s.heap.objs.size 0 .none := by
    have := Heap.get?_push_size (s.heap.push o) (o := { cls := .type "enumerate", data := .fields #[.none, .bool false, .ref s.heap.objs.size, rawInt 0, .none, .none] }) rfl
    rw [hz] at this; exact this
  exact ⟨⟨_, he, rfl⟩, h _ he (Heap.get?_push_of_some _ (Heap.get?_push_size _ B.free)) (by rw [Heap.size_push, hz]) fun b o x => Heap.get?_push_of_some _ (Heap.get?_push_of_some _ x)⟩
def iEnumA (K : PySem.W.Frag) (ta : TA) : TI := fun σ H R => ta σ H fun vs H1 => ∃ a t xs, vs = [.ref a] ∧ SqA K t H1 a xs ∧ R (IteA K t a) H1
theorem pi_enumA {X : Cx} {e : Expr} {ta : TA} {p pos tpos : Pos} {elts : List Expr} {kk : Nat} (hg : Gl X "enumerate") (hm : X.mg "enumerate" = none) (ha : PA X [e] ta) (hs : starEach [e] X.env = [(false, eval e X.env)] := by rfl) :
    PI X (.Tuple elts kk tpos) (.Call (.Name "enumerate" p) [e] [] pos) (iEnumA X.K ta) := by
  refine ⟨fun pins s σ H R I h => ?_⟩
  refine Call_ (ld_blt I hg hm boot_enumerate (PyProof.Rows.callWith_type1 (thn (ha.run pos pins s σ H _ I h) fun us s1 ⟨vs, H1, I1, r1, q1⟩ => ?_) hs rfl))
  obtain ⟨a, t, xs, ex, hq, q⟩ := q1
  subst ex
  cases r1 with
  | cons r rr =>
    cases rr
    cases r
    obtain ⟨its, rv, p', hz⟩ := sq_at I1 hq
    have hal := sq_lt p'
    refine call_enum1 (begins_sq t a its.toArray) p' fun h' he hit hsz hk => wpAny_pyIter_enum he ?_
    have I2 : Inv X pins σ H1 { s1 with heap := h' } := I1.kept (t' := s1.toks) hk
    refine ⟨s1.heap.objs.size + 1, [s1.heap.objs.size + 1, s1.heap.objs.size], _, _, H1, rfl, I2, turn_enumA t a (s1.heap.objs.size + 1) s1.heap.objs.size, ⟨⟨.none, he⟩, isIt_new hit, Nat.succ_ne_self _, Nat.ne_of_lt (Nat.lt_succ_of_lt hal), Nat.ne_of_lt hal⟩, fun b hb => ?_, q⟩
    have e' : b = s1.heap.objs.size + 1 ∨ b = s1.heap.objs.size := by simpa using hb
    have hle : s1.heap.objs.size ≤ b := by
      rcases e' with z | z
      · rw [z]; exact Nat.le_add_right _ _
      · rw [z]; exact Nat.le_refl _
    exact I1.fpOk hle (I1.hok.fresh hle)
end DL

set_option Elab.async false
set_option linter.all false
set_option maxRecDepth 100000
/-! DL12: zip; the iterables of a for. -/
namespace DL
open PySem PySem.Spec PyProof.Rows L2

def ItzA (K : PySem.W.Frag) (t u : Bool) (a b : Addr) : It :=
  ⟨fun i H => ∃ (xs ys : List V) (x y : V), SqA K t H a xs ∧ SqA K u H b ys ∧ xs[i]? = some x ∧ ys[i]? = some y,
    fun i H v H' => ∃ T x y, v = .ref T ∧ H T = none ∧ H' = upd H T (.tup [x, y]) ∧ (∀ xs, SqA K t H a xs → xs[i]? = some x) ∧ ∀ ys, SqA K u H b ys → ys[i]? = some y,
    fun i H => ∃ xs ys : List V, SqA K t H a xs ∧ SqA K u H b ys ∧ i ≤ xs.length ∧ i ≤ ys.length ∧ (i = xs.length ∨ i = ys.length)⟩
theorem turn_zipG {P : Program} {w : World} {K : PySem.W.Frag} {elts : List Expr} {kk : Nat} {tpos : Pos} {t u : Bool} {a b z TI TO i1 i2 : Addr} (D : ZipSep2 z TI TO i1 i2 [i1, a] [i2, b]) :
    Turn P w K (.Tuple elts kk tpos) (ItzA K t u a b) [z, TI, TO, i1, i2] z (fun i h => IsZip h z TI TO .none ∧ IsTupOf2 h TI (.ref i1) (.ref i2) ∧ (∃ x y, IsTupOf2 h TO x y) ∧ IsIt t h i1 a i ∧ IsIt u h i2 b i) where
  mem := by simp
  obj := fun i h st c hc => by
    obtain ⟨hz, hTI, ⟨x, y, hTO⟩, h1, h2⟩ := st
    obtain ⟨o1, v1, e1, d1⟩ := isIt_obj h1
    obtain ⟨o2, v2, e2, d2⟩ := isIt_obj h2
    have e' : c = z ∨ c = TI ∨ c = TO ∨ c = i1 ∨ c = i2 := by simpa using hc
    rcases e' with q | q | q | q | q
    · rw [q]; exact ⟨_, hz, fun v q => nomatch q⟩
    · rw [q]; exact ⟨_, hTI, fun v q => nomatch q⟩
    · rw [q]; exact ⟨_, hTO, fun v q => nomatch q⟩
    · rw [q]; exact ⟨o1, e1, fun v q => by rw [d1] at q; cases q⟩
    · rw [q]; exact ⟨o2, e2, fun v q => by rw [d2] at q; cases q⟩
  keep := fun i h h' st k => by
    obtain ⟨hz, hTI, ⟨x, y, hTO⟩, h1, h2⟩ := st
    exact ⟨k z (by simp) _ hz, k TI (by simp) _ hTI, ⟨x, y, k TO (by simp) _ hTO⟩, isIt_at h1 fun o q => k i1 (by simp) o q, isIt_at h2 fun o q => k i2 (by simp) o q⟩
  item := by
    intro X hP hw hK hc i pins s σ H E I hf st hg
    subst hP hw hK
    obtain ⟨hz, hTI, ⟨x0, y0, hTO⟩, h1, h2⟩ := st
    obtain ⟨xs, ys, x, y, hqx, hqy, hx, hy⟩ := hg
    obtain ⟨its, rv, p, _⟩ := sq_at I hqx
    obtain ⟨its2, rv2, p2, _⟩ := sq_at I hqy
    obtain ⟨v, hu, ru⟩ := rv.get hx
    obtain ⟨v2, hu2, ru2⟩ := rv2.get hy
    have hh : X.A.in1.handled = none := by show X.A.handled = none; exact I.ok.hd hc
    have ne1 : a ≠ i1 := fun e => by have := sq_lt p; subst e; obtain ⟨_, _, q1, q2⟩ := isIt_obj h1; cases t <;> (obtain ⟨o, e1, c1, n, d1⟩ := p; rw [e1] at q1; cases q1; rw [d1] at q2; cases q2)
    have ne2 : b ≠ i2 := fun e => by have := sq_lt p2; subst e; obtain ⟨_, _, q1, q2⟩ := isIt_obj h2; cases u <;> (obtain ⟨o, e1, c1, n, d1⟩ := p2; rw [e1] at q1; cases q1; rw [d1] at q2; cases q2)
    have hlt1 : i < its.toArray.size := by have := (List.getElem?_eq_some_iff.mp hu).1; simpa using this
    have hlt2 : i < its2.toArray.size := by have := (List.getElem?_eq_some_iff.mp hu2).1; simpa using this
    have hzl : z < s.heap.objs.size := Heap.lt_size hz
    refine wpAny_pyNext_zipD2_item D (draws_sq hh t i1 a ne1 its.toArray) (draws_sq hh u i2 b ne2 its2.toArray) hz hTI hTO ⟨h1, p⟩ ⟨h2, p2⟩ hlt1 hlt2 fun x1 x2 h' tk P1 P2 z' TO' h1' h2' hT hsz hk => ?_
    have e1 : x1 = v := by have q : its.toArray[i]? = some v := by simpa using hu
                           rw [q] at P1; exact (Option.some.inj P1).symm
    have e2 : x2 = v2 := by have q : its2.toArray[i]? = some v2 := by simpa using hu2
                            rw [q] at P2; exact (Option.some.inj P2).symm
    subst e1 e2
    refine ⟨_, rfl, wpAny_letOwnedTupleGo_zip (s := { s with heap := h', toks := tk }) z' fun h'' z'' sb => ?_⟩
    have hT2 : h''.get? s.heap.objs.size = some { cls := .type "tuple", data := .seq #[x1, x2] } := (sb.2 _ (Nat.ne_of_gt hzl)).trans hT
    have new : ObjOk X.prog X.w (upd H s.heap.objs.size (.tup [x, y])) h'' s.heap.objs.size (.tup [x, y]) :=
      ⟨by show 2 ≤ sizeLine; decide, [x1, x2], .cons ru (.cons ru2 .nil), ⟨_, hT2, rfl, _, rfl⟩⟩
    have I1 := I.turnedNew (t' := tk) (ch := [z, TI, TO, i1, i2]) (T := s.heap.objs.size) (h' := h'') (fun c o hb q => (sb.2 c (fun q' => hb (by simp [q']))).trans (hk c o (fun q' => hb (by simp [q'])) (fun q' => hb (by simp [q'])) (fun q' => hb (by simp [q'])) (fun q' => hb (by simp [q'])) q)) hf (Nat.le_refl _) new
    have zi1 : i1 ≠ z := fun e => D.zf1 (by simp [← e])
    have zi2 : i2 ≠ z := fun e => D.zf2 (by simp [← e])
    refine ⟨.ref s.heap.objs.size, _, I1, rfl, ⟨_, x, y, rfl, I.hok.fresh (Nat.le_refl _), rfl, fun l hl => by rw [sq_inj I hl hqx]; exact hx, fun l hl => by rw [sq_inj I hl hqy]; exact hy⟩, ⟨z'', ?_, ⟨x1, x2, ?_⟩, ?_, ?_⟩, fun c hcm => ?_⟩
    · exact (sb.2 _ D.TIz).trans (hk _ _ D.TIz D.TITO D.TIi1 D.TIi2 hTI)
    · exact (sb.2 _ D.TOz).trans TO'
    · exact isIt_at h1'.1 fun o q => (sb.2 _ zi1).trans q
    · exact isIt_at h2'.1 fun o q => (sb.2 _ zi2).trans q
    · have hcl : c < s.heap.objs.size := by
        have e' : c = z ∨ c = TI ∨ c = TO ∨ c = i1 ∨ c = i2 := by simpa using hcm
        rcases e' with q | q | q | q | q
        · rw [q]; exact hzl
        · rw [q]; exact Heap.lt_size hTI
        · rw [q]; exact Heap.lt_size hTO
        · rw [q]; obtain ⟨_, _, e, _⟩ := isIt_obj h1; exact Heap.lt_size e
        · rw [q]; obtain ⟨_, _, e, _⟩ := isIt_obj h2; exact Heap.lt_size e
      rw [upd_ne (Nat.ne_of_lt hcl)]
      exact (hf c hcm).1
  done := by
    intro X hP hw hK hc i pins s σ H E I hf st hg
    subst hP hw hK
    obtain ⟨hz, hTI, ⟨x0, y0, hTO⟩, h1, h2⟩ := st
    obtain ⟨xs, ys, hqx, hqy, hle1, hle2, he⟩ := hg
    obtain ⟨its, rv, p, _⟩ := sq_at I hqx
    obtain ⟨its2, rv2, p2, _⟩ := sq_at I hqy
    have hh : X.A.in1.handled = none := by show X.A.handled = none; exact I.ok.hd hc
    have ne1 : a ≠ i1 := fun e => by have := sq_lt p; subst e; obtain ⟨_, _, q1, q2⟩ := isIt_obj h1; cases t <;> (obtain ⟨o, e1, c1, n, d1⟩ := p; rw [e1] at q1; cases q1; rw [d1] at q2; cases q2)
    have ne2 : b ≠ i2 := fun e => by have := sq_lt p2; subst e; obtain ⟨_, _, q1, q2⟩ := isIt_obj h2; cases u <;> (obtain ⟨o, e1, c1, n, d1⟩ := p2; rw [e1] at q1; cases q1; rw [d1] at q2; cases q2)
    have l1 := rv.length
    have l2 := rv2.length
    refine wpAny_pyNext_zipD2_end D (draws_sq hh t i1 a ne1 its.toArray) (draws_sq hh u i2 b ne2 its2.toArray) hz hTI hTO ⟨h1, p⟩ ⟨h2, p2⟩ (by rw [List.size_toArray]; omega) (by rw [List.size_toArray]; omega) (by rw [List.size_toArray, List.size_toArray]; omega) fun h' tk hk => ⟨rfl, ?_⟩
    exact I.turnedL (t' := tk) (ch := [z, TI, TO, i1, i2]) (fun c o hb q => hk c o (fun q' => hb (by simp [q'])) (fun q' => hb (by simp [q'])) (fun q' => hb (by simp [q'])) (fun q' => hb (by simp [q'])) q) hf
  self := fun A i s Q E st h => wpAny_pyIter_zip st.1 h
def iZipG (K : PySem.W.Frag) (ta : TA) : TI := fun σ H R => ta σ H fun vs H1 => ∃ a b t u xs ys, vs = [.ref a, .ref b] ∧ SqA K t H1 a xs ∧ SqA K u H1 b ys ∧ R (ItzA K t u a b) H1
theorem pi_zipG {X : Cx} {e e2 : Expr} {ta : TA} {p pos tpos : Pos} {elts : List Expr} {kk : Nat} (hg : Gl X "zip") (hm : X.mg "zip" = none) (ha : PA X [e, e2] ta)
    (hs : starEach [e, e2] X.env = (false, eval e X.env) :: starEach [e2] X.env := by rfl) (hpl : (backTo pos (starEach [e2] X.env)).any (·.1) = false := by rfl) :
    PI X (.Tuple elts kk tpos) (.Call (.Name "zip" p) [e, e2] [] pos) (iZipG X.K ta) := by
  refine ⟨fun pins s σ H R I h => ?_⟩
  refine Call_ (ld_blt I hg hm PyProof.Rows.boot_zip (PyProof.Rows.callWith_type1 (thn (ha.run pos pins s σ H _ I h) fun us s1 ⟨vs, H1, I1, r1, q1⟩ => ?_) hs hpl))
  obtain ⟨a, b, t, u, xs, ys, ex, hqx, hqy, q⟩ := q1
  subst ex
  cases r1 with
  | cons r rr =>
    cases rr with
    | cons r' rr =>
      cases rr
      cases r
      cases r'
      have fresh5 : ∀ c, c ∈ [s1.heap.objs.size + 4, s1.heap.objs.size + 2, s1.heap.objs.size + 3, s1.heap.objs.size, s1.heap.objs.size + 1] → FpOk X pins H1 c := fun c hcm => by
        have e' : c = s1.heap.objs.size + 4 ∨ c = s1.heap.objs.size + 2 ∨ c = s1.heap.objs.size + 3 ∨ c = s1.heap.objs.size ∨ c = s1.heap.objs.size + 1 := by simpa using hcm
        have hle : s1.heap.objs.size ≤ c := by
          rcases e' with z | z | z | z | z
          · rw [z]; exact Nat.le_add_right _ _
          · rw [z]; exact Nat.le_add_right _ _
          · rw [z]; exact Nat.le_add_right _ _
          · rw [z]; exact Nat.le_refl _
          · rw [z]; exact Nat.le_add_right _ _
        exact I1.fpOk hle (I1.hok.fresh hle)
      obtain ⟨its, rv, p1, _⟩ := sq_at I1 hqx
      obtain ⟨its2, rv2, p2, _⟩ := sq_at I1 hqy
      refine zip_begins2 (begins_sq t a its.toArray) (begins_sq u b its2.toArray) p1 p2 fun h' hz hTI hTO h1 h2 hsz hk => wpAny_pyIter_zip hz ?_
      have I2 : Inv X pins σ H1 { s1 with heap := h' } := I1.kept (t' := s1.toks) hk
      refine ⟨s1.heap.objs.size + 4, [s1.heap.objs.size + 4, s1.heap.objs.size + 2, s1.heap.objs.size + 3, s1.heap.objs.size, s1.heap.objs.size + 1], _, _, H1, rfl, I2, turn_zipG (zip_sep2 (N := s1.heap.objs.size) (fp1 := [a]) (fp2 := [b]) ?_ ?_), ⟨hz, hTI, ⟨_, _, hTO⟩, isIt_new h1, isIt_new h2⟩, fresh5, q⟩
      · intro c hc'; rw [List.mem_singleton.mp hc']; exact sq_lt p1
      · intro c hc'; rw [List.mem_singleton.mp hc']; exact sq_lt p2
end DL

set_option Elab.async false
set_option linter.all false
set_option maxRecDepth 100000
/-! DL13: the iterables of a for. -/
namespace DL
open PySem PySem.Spec PyProof.Rows L2

/-- a list or a tuple that is walked: is it a tuple, its items -/
def seqW (S : Hs) (w : W) : Option (Bool × List W) := match w with
  | .tup ws => some (true, ws)
  | .fro ws => some (false, ws)
  | .ref n => match S[n]? with
    | some (.lst ws) => some (false, ws)
    | _ => none
  | _ => none
def guardOf (w : W) (ws : List W) (S : Hs) : Bool := match w with
  | .ref n => decide (S[n]? = some (.lst ws))
  | _ => true
section
variable {K : PySem.W.Frag} {cl : Cla} {ι0 : Nat → Addr} {S0 : Hs} {H0 : Hp}
theorem seq_at (r0 : Rel K cl ι0 S0 H0) {w : W} {v : V} {t : Bool} {ws : List W} (h : Rep K ι0 S0.length H0 w v) (e : seqW S0 w = some (t, ws)) :
    ∃ a, v = .ref a ∧ (∃ vs, SqA K t H0 a vs) ∧ ∀ (ι : Nat → Addr) (S : Hs) (H : Hp), Go K cl ι0 S0 H0 ι S H → guardOf w ws S = true → ∃ vs, SqA K t H a vs ∧ Reps K ι S.length H ws vs := by
  cases w with
  | tup xs =>
    cases e
    obtain ⟨a, vs, rfl, h1, h2⟩ := h.tup_inv
    refine ⟨a, rfl, ⟨vs, h1.sq⟩, fun ι S H g _ => ?_⟩
    obtain ⟨a', vs', e1, h3, h4⟩ := ((Rep.tup h1 h2).go r0 g).tup_inv
    cases e1
    exact ⟨vs', h3.sq, h4⟩
  | fro xs =>
    cases e
    obtain ⟨a, vs, rfl, h1, h2⟩ := lstOf_at r0 h rfl
    refine ⟨a, rfl, ⟨vs, h1.sq⟩, fun ι S H g _ => ?_⟩
    obtain ⟨a', vs', e1, h3, h4⟩ := lstOf_at g.rel (h.go r0 g) rfl
    cases e1
    exact ⟨vs', h3.sq, h4⟩
  | ref n =>
    obtain ⟨rfl, hn⟩ := h.ref_inv
    have e' : (match S0[n]? with | some (.lst ws) => some (false, ws) | _ => none) = some (t, ws) := e
    split at e'
    · rename_i q
      cases e'
      obtain ⟨vs, h1, h2⟩ := lst_at r0 q
      refine ⟨_, rfl, ⟨vs, .inl (.inl h1)⟩, fun ι S H g hg => ?_⟩
      have hg' : S[n]? = some (.lst ws) := of_decide_eq_true hg
      obtain ⟨vs', h3, h4⟩ := lst_at g.rel hg'
      rw [g.ext n hn] at h3
      exact ⟨vs', .inl (.inl h3), h4⟩
    · cases e'
  | _ => cases e
end
def itSeq (w : W) (S : Hs) : R ItD := match w with
  | .str z => .ok ⟨z.cps.toList.map fun c => .str ⟨#[c]⟩, fun _ => true⟩ S
  | w => match seqW S w with
    | some (_, ws) => .ok ⟨ws, guardOf w ws⟩ S
    | none => .bad
def diseq (e : DE) : DI := fun sw S => (e sw S).bind fun w S1 => itSeq w S1
def itEnum (ws : List W) (S : Hs) : R ItD := match ws with
  | [w] => match seqW S w with
    | some (_, xs) => .ok ⟨xs.mapIdx fun i x => .tup [.int (i : Nat), x], guardOf w xs⟩ S
    | none => .bad
  | _ => .bad
def itZip (ws : List W) (S : Hs) : R ItD := match ws with
  | [v, w] => match seqW S v, seqW S w with
    | some (_, xs), some (_, ys) => .ok ⟨List.zipWith (fun x y => .tup [x, y]) xs ys, fun S => guardOf v xs S && guardOf w ys S⟩ S
    | _, _ => .bad
  | _ => .bad
def rgW (lo : Int) (n : Nat) : List W := (List.range n).map fun i => .int (lo + (i : Nat))
def itRange1 (ws : List W) (S : Hs) : R ItD := match ws with
  | [.int j] => if -4611686018427387904 ≤ j ∧ j < 4611686018427387904 then .ok ⟨rgW 0 j.toNat, fun _ => true⟩ S else .bad
  | _ => .bad
def itRange2 (ws : List W) (S : Hs) : R ItD := match ws with
  | [.int i, .int j] => if -4611686018427387904 ≤ i ∧ i < 4611686018427387904 ∧ -4611686018427387904 ≤ j ∧ j < 4611686018427387904 then .ok ⟨rgW i (j - i).toNat, fun _ => true⟩ S else .bad
  | _ => .bad
def diargs (f : List W → Hs → R ItD) (t : DA) : DI := fun sw S => (t sw S).bind fun ws S1 => f ws S1
section
variable {X : Cx} {cl : Cla} {Wx : L2.WX} {pos p tpos : Pos} {e e2 c tg : Expr} {elts : List Expr} {kk : Nat} {fe : DE} {t : DA}
theorem rit_item {it : ItD} {J : It} {ι0 : Nat → Addr} {S0 : Hs} {H0 : Hp} {R : It → Hp → Prop} {E : XK} (h : Res X.K cl (RIt X.K cl) ι0 S0 H0 (.ok it S0) R E) (r0 : Rel X.K cl ι0 S0 H0)
    (hs : ∀ (ι : Nat → Addr) (S : Hs) (H : Hp) (i : Nat), i ≤ it.items.length → Go X.K cl ι0 S0 H0 ι S H → it.guard S = true → (∀ w, it.items[i]? = some w → J.go i H ∧ ∀ x H', J.yld i H x H' → Go X.K cl ι S H ι S H' ∧ Rep X.K ι S.length H' w x) ∧ (it.items[i]? = none → J.stop i H)) : R J H0 := by
  refine Res.ok (RA := RIt X.K cl) h r0 fun S1 ι S H i hl hle r1 g hg => hs ι S H i hle ?_ hg
  exact ⟨by rw [← hl]; exact g.le, fun i hi => g.ext i (by rw [hl]; exact hi), fun i h1 h2 => g.fresh i (by rw [hl]; exact h1) h2, fun a o e hp h => g.fr a o e hp fun i hi => h i (by rw [← hl]; exact hi), g.tb, g.rel⟩
theorem i_seq (he : PE X e (tE X.K cl Wx fe)) : PI X tg e (tI X.K cl Wx (diseq fe)) := (pi_seq he).dimp fun σ H R h => by
  obtain ⟨ι, S, sw, A, h⟩ := h
  refine ⟨ι, S, sw, A, Res.imp (Res.split (RA := RV X.K) h) fun x H0 ⟨ι0, S0, w0, g0, r0, _, h0⟩ => ?_⟩
  have main : ∀ (t : Bool) (ws : List W), seqW S0 w0 = some (t, ws) → (Res X.K cl (RIt X.K cl) ι0 S0 H0 (.ok ⟨ws, guardOf w0 ws⟩ S0) R fun c d H' => Wx c d σ H') →
      (∃ a t xs, x = .ref a ∧ SqA X.K t H0 a xs ∧ R (ItA X.K t a) H0) := fun t ws es h0 => by
    obtain ⟨a, rfl, ⟨vs, hv⟩, later⟩ := seq_at g0.rel r0 es
    refine ⟨a, t, vs, rfl, hv, rit_item h0 g0.rel fun ι1 S1 H1 i hle g hg => ?_⟩
    obtain ⟨vs', h1, h2⟩ := later ι1 S1 H1 g hg
    cases t with
    | true =>
      refine ⟨fun w e => ?_, fun e => ⟨vs', h1, by rw [← h2.length]; exact List.getElem?_eq_none_iff.mp e⟩⟩
      obtain ⟨v, e1, rv⟩ := h2.get e
      refine ⟨⟨vs', v, h1, e1⟩, fun x H' hy => ?_⟩
      obtain ⟨rfl, hy⟩ := hy
      have := hy vs' h1
      rw [e1] at this; cases this
      exact ⟨Go.refl g.rel, rv⟩
    | false =>
      refine ⟨fun w e => ?_, fun e => ⟨vs', h1, by rw [← h2.length]; exact List.getElem?_eq_none_iff.mp e⟩⟩
      obtain ⟨v, e1, rv⟩ := h2.get e
      refine ⟨⟨vs', v, h1, e1⟩, fun x H' hy => ?_⟩
      obtain ⟨rfl, hy⟩ := hy
      have := hy vs' h1
      rw [e1] at this; cases this
      exact ⟨Go.refl g.rel, rv⟩
  unfold itSeq at h0
  split at h0
  · rename_i z _
    cases r0
    refine .inr ⟨z, rfl, rit_item h0 g0.rel fun ι1 S1 H1 i hle g hg => ⟨fun w e => ?_, fun e => ?_⟩⟩
    · rw [List.getElem?_map] at e
      obtain ⟨c, e1, rfl⟩ := Option.map_eq_some_iff.mp e
      have e2 : z.cps[i]? = some c := by simpa using e1
      refine ⟨(Array.getElem?_eq_some_iff.mp e2).1, fun x H' hy => ?_⟩
      obtain ⟨rfl, c', e3, rfl⟩ := hy
      rw [e2] at e3; cases e3
      exact ⟨Go.refl g.rel, .str _⟩
    · rw [List.getElem?_map] at e
      have e1 : z.cps.toList[i]? = none := by simpa using e
      have := List.getElem?_eq_none_iff.mp e1
      show z.cps.size ≤ i
      simpa using this
  · split at h0
    · rename_i t ws es
      exact .inl (main t ws es h0)
    · exact h0.elim
theorem i_enum (hg : Gl X "enumerate") (hm : X.mg "enumerate" = none) (ha : PA X [e] (tA X.K cl Wx t)) (hs : starEach [e] X.env = [(false, eval e X.env)] := by rfl) :
    PI X (.Tuple elts kk tpos) (.Call (.Name "enumerate" p) [e] [] pos) (tI X.K cl Wx (diargs itEnum t)) := (pi_enumA hg hm ha hs).dimp fun σ H R h => by
  obtain ⟨ι, S, sw, A, h⟩ := h
  refine ⟨ι, S, sw, A, Res.imp (Res.split (RA := RVs X.K) h) fun x H0 ⟨ι0, S0, ws0, g0, r0, _, h0⟩ => ?_⟩
  unfold itEnum at h0
  split at h0
  · rename_i w0
    cases r0 with
    | cons ra rb =>
      cases rb
      split at h0
      · rename_i t ws es
        obtain ⟨a, rfl, ⟨vs, hv⟩, later⟩ := seq_at g0.rel ra es
        refine ⟨a, t, vs, rfl, hv, rit_item h0 g0.rel fun ι1 S1 H1 i hle g hg => ?_⟩
        obtain ⟨vs', h1, h2⟩ := later ι1 S1 H1 g hg
        refine ⟨fun w e => ?_, fun e => ⟨vs', h1, ?_⟩⟩
        · simp only [List.getElem?_mapIdx, Option.map_eq_some_iff] at e
          obtain ⟨w1, e1, rfl⟩ := e
          obtain ⟨v, e2, rv⟩ := h2.get e1
          refine ⟨⟨vs', v, h1, e2⟩, fun x H' hy => ?_⟩
          obtain ⟨T, y, rfl, hT, rfl, hy⟩ := hy
          have := hy vs' h1
          rw [e2] at this; cases this
          exact g.rel.newT hT (.cons (.int _) (.cons rv .nil))
        · rw [List.getElem?_eq_none_iff] at e
          simp only [List.length_mapIdx] at e hle
          rw [← h2.length]
          omega
      · exact h0.elim
  · exact h0.elim
theorem i_zip (hg : Gl X "zip") (hm : X.mg "zip" = none) (ha : PA X [e, e2] (tA X.K cl Wx t)) (hs : starEach [e, e2] X.env = (false, eval e X.env) :: starEach [e2] X.env := by rfl) (hpl : (backTo pos (starEach [e2] X.env)).any (·.1) = false := by rfl) :
    PI X (.Tuple elts kk tpos) (.Call (.Name "zip" p) [e, e2] [] pos) (tI X.K cl Wx (diargs itZip t)) := (pi_zipG hg hm ha hs hpl).dimp fun σ H R h => by
  obtain ⟨ι, S, sw, A, h⟩ := h
  refine ⟨ι, S, sw, A, Res.imp (Res.split (RA := RVs X.K) h) fun x H0 ⟨ι0, S0, ws0, g0, r0, _, h0⟩ => ?_⟩
  unfold itZip at h0
  split at h0
  · rename_i w0 w1
    cases r0 with
    | cons ra rb =>
      cases rb with
      | cons rb rc =>
        cases rc
        split at h0
        · rename_i t ws u us es es2
          obtain ⟨a, rfl, ⟨vs, hv⟩, later⟩ := seq_at g0.rel ra es
          obtain ⟨b, rfl, ⟨vs2, hv2⟩, later2⟩ := seq_at g0.rel rb es2
          refine ⟨a, b, t, u, vs, vs2, rfl, hv, hv2, rit_item h0 g0.rel fun ι1 S1 H1 i hle g hg => ?_⟩
          simp only [Bool.and_eq_true] at hg
          obtain ⟨vs', h1, h2⟩ := later ι1 S1 H1 g hg.1
          obtain ⟨vs2', h3, h4⟩ := later2 ι1 S1 H1 g hg.2
          refine ⟨fun w e => ?_, fun e => ⟨vs', vs2', h1, h3, ?_⟩⟩
          · simp only [List.getElem?_zipWith] at e
            cases e1 : ws[i]? with
            | none => rw [e1] at e; cases e
            | some p1 =>
              cases e2 : us[i]? with
              | none => rw [e1, e2] at e; cases e
              | some p2 =>
                rw [e1, e2] at e
                cases e
                obtain ⟨v, q1, rv⟩ := h2.get e1
                obtain ⟨v2, q2, rv2⟩ := h4.get e2
                refine ⟨⟨vs', vs2', v, v2, h1, h3, q1, q2⟩, fun x H' hy => ?_⟩
                obtain ⟨T, y, z, rfl, hT, rfl, hy, hz⟩ := hy
                have k1 := hy vs' h1
                rw [q1] at k1; cases k1
                have k2 := hz vs2' h3
                rw [q2] at k2; cases k2
                exact g.rel.newT hT (.cons rv (.cons rv2 .nil))
          · rw [List.getElem?_eq_none_iff] at e
            simp only [List.length_zipWith] at e hle
            have l1 := h2.length
            have l2 := h4.length
            omega
        · exact h0.elim
  · exact h0.elim
theorem rg_get {lo : Int} {n i : Nat} : (rgW lo n)[i]? = if i < n then some (.int (lo + (i : Nat))) else none := by
  unfold rgW
  rw [List.getElem?_map]
  by_cases h : i < n
  · rw [if_pos h, List.getElem?_range h]; rfl
  · rw [if_neg h, List.getElem?_eq_none (by simpa using Nat.le_of_not_lt h)]; rfl
theorem rit_range {ι0 : Nat → Addr} {S0 : Hs} {H0 : Hp} {R : It → Hp → Prop} {E : XK} {lo : Int} {n : Nat} (h : Res X.K cl (RIt X.K cl) ι0 S0 H0 (.ok ⟨rgW lo n, fun _ => true⟩ S0) R E) (r0 : Rel X.K cl ι0 S0 H0) : R (Itr lo n) H0 :=
  rit_item h r0 fun ι1 S1 H1 i hle g hg => by
    refine ⟨fun w e => ?_, fun e => ?_⟩
    · simp only [rg_get] at e
      split at e
      · rename_i hi
        cases e
        refine ⟨hi, fun x H' hy => ?_⟩
        obtain ⟨rfl, rfl⟩ := hy
        exact ⟨Go.refl g.rel, .int _⟩
      · cases e
    · simp only [rg_get] at e
      split at e
      · cases e
      · rename_i hi
        exact Nat.le_of_not_lt hi
theorem i_range1 (hg : Gl X "range") (hm : X.mg "range" = none) (ha : PA X [e] (tA X.K cl Wx t)) (hs : starEach [e] X.env = [(false, eval e X.env)] := by rfl) :
    PI X tg (.Call (.Name "range" p) [e] [] pos) (tI X.K cl Wx (diargs itRange1 t)) := (pi_range1 hg hm ha hs).dimp fun σ H R h => by
  obtain ⟨ι, S, sw, A, h⟩ := h
  refine ⟨ι, S, sw, A, Res.imp (Res.split (RA := RVs X.K) h) fun x H0 ⟨ι0, S0, ws0, g0, r0, _, h0⟩ => ?_⟩
  unfold itRange1 at h0
  split at h0
  · split at h0
    · rename_i hz
      cases r0 with
      | cons ra rb => cases rb; cases ra; exact ⟨_, rfl, hz.1, hz.2, rit_range h0 g0.rel⟩
    · exact h0.elim
  · exact h0.elim
theorem i_range2 (hg : Gl X "range") (hm : X.mg "range" = none) (ha : PA X [e, e2] (tA X.K cl Wx t)) (hs : starEach [e, e2] X.env = [(false, eval e X.env), (false, eval e2 X.env)] := by rfl) (hs2 : starEach [e2] X.env = [(false, eval e2 X.env)] := by rfl) :
    PI X tg (.Call (.Name "range" p) [e, e2] [] pos) (tI X.K cl Wx (diargs itRange2 t)) := (pi_range2 hg hm ha hs hs2).dimp fun σ H R h => by
  obtain ⟨ι, S, sw, A, h⟩ := h
  refine ⟨ι, S, sw, A, Res.imp (Res.split (RA := RVs X.K) h) fun x H0 ⟨ι0, S0, ws0, g0, r0, _, h0⟩ => ?_⟩
  unfold itRange2 at h0
  split at h0
  · split at h0
    · rename_i hz
      cases r0 with
      | cons ra rb =>
        cases rb with
        | cons rb rc => cases rc; cases ra; cases rb; exact ⟨_, _, rfl, hz, rit_range h0 g0.rel⟩
    · exact h0.elim
  · exact h0.elim
end
end DL

set_option Elab.async false
set_option linter.all false
set_option maxRecDepth 100000
/-! DL14: list comprehensions. -/
namespace DL
open PySem PySem.Spec PyProof.Rows L2

def wipeW (sw : SW) : List Nat → SW
  | [] => sw
  | v :: vs => (wipeW sw vs).set v none
theorem Slots.wipe {K : PySem.W.Frag} {ι : Nat → Addr} {n : Nat} {H : Hp} {sw : SW} {σ : L2.St} (h : Slots K ι n H sw σ) : ∀ vs : List Nat, Slots K ι n H (wipeW sw vs) (L2.wipe σ vs)
  | [] => h
  | v :: vs => (h.wipe vs).unset v
/-- a comprehension's turns -/
def compD (guard : Hs → Bool) (g : DG) (tt : DT) (te : DE) (sw : SW) : List W → List W → Hs → R (List W)
  | [], acc => fun S => if guard S = true then .ok acc S else .bad
  | w :: ws, acc => fun S => if guard S = true then (match g w sw S with
    | .ok sw1 S1 => match tt sw1 S1 with
      | .ok true S2 => match te sw1 S2 with
        | .ok y S3 => if acc.length < sizeLine then compD guard g tt te sw ws (acc ++ [y]) S3 else .bad
        | _ => .bad
      | .ok false S2 => compD guard g tt te sw ws acc S2
      | _ => .bad
    | _ => .bad) else .bad
def dyes : DT := fun _ S => .ok true S
def dlc (vs : List Nat) (it : DI) (g : DG) (tt : DT) (te : DE) : DE := fun sw S => (it sw S).bind fun i S1 => (compD i.guard g tt te (wipeW sw vs) i.items [] S1).bind fun ys S2 => .ok (.ref S2.length) (S2 ++ [.lst ys])
section
variable {K : PySem.W.Frag} {cl : Cla} {ι : Nat → Addr} {S : Hs} {H : Hp} {D : Addr} {xs ys : List V}
theorem kpt_beside (hD : H D = some (.lst xs)) : Kpt H (upd H D (.lst ys)) := fun a u k e => by
  by_cases h : a = D
  · subst h
    rw [hD] at e; cases e
    rcases k with ⟨_, z⟩ | ⟨_, _, z | z⟩ <;> cases z
  · rw [upd_ne h]; exact e
theorem TabR.ofL {ι' : Nat → Addr} {n n' : Nat} {H' : Hp} (h : TabR cl ι n H) (off : ∀ a o, H a = some o → (∀ vs, o ≠ .lst vs) → (∀ i, i < n → a ≠ ι i) → (∀ i, i < n' → a ≠ ι' i) ∧ H' a = some o) : TabR cl ι' n' H' := fun p hp => by
  obtain ⟨ps, h1, h2, h3, h4⟩ := h p hp
  obtain ⟨a1, a2⟩ := off _ _ h1 (fun vs z => by cases z) h3
  refine ⟨ps, a2, h2, a1, fun pos cv e => ?_⟩
  obtain ⟨c, e1, e2, e3⟩ := h4 pos cv e
  obtain ⟨b1, b2⟩ := off _ _ e2 (fun vs z => codeO_lst z) e3
  exact ⟨c, e1, b2, b1⟩
theorem TabR.pushL {n : Nat} {D : Addr} {xs : List V} (h : TabR cl ι n H) (hD : H D = some (.lst xs)) : TabR cl (ins_ ι n D) (n + 1) H := h.ofL fun a o e nl q => ⟨fun i hi => by
  by_cases hi2 : i < n
  · rw [ins_lt hi2]; exact q i hi2
  · have : i = n := by omega
    subst this
    rw [ins_same]
    intro z
    subst z
    rw [hD] at e; cases e
    exact nl _ rfl, e⟩
theorem Rel.beside (r : Rel K cl ι S H) (hD : H D = some (.lst xs)) (ne : ∀ j, j < S.length → D ≠ ι j) : Rel K cl ι S (upd H D (.lst ys)) := by
  refine ⟨fun i o e => ?_, r.inj, r.tab.ofL fun a o e nl h => ⟨h, by rw [upd_ne (fun z => by subst z; rw [hD] at e; cases e; exact nl _ rfl)]; exact e⟩⟩
  have hi : i < S.length := (List.getElem?_eq_some_iff.mp e).1
  refine (r.obj i o e).mono (Nat.le_refl _) (fun _ _ => rfl) (fun i a b => absurd b (Nat.not_lt.mpr a)) (kpt_beside hD) (fun u e => by rw [upd_ne (Ne.symm (ne i hi))]; exact e) fun d gs e _ => ?_
  by_cases h : d = D
  · subst h; rw [hD] at e; cases e
  · rw [upd_ne h]; exact e
end
abbrev W0 : L2.WX := fun _ _ _ _ => False
theorem _root_.L2.PTs.dimp {X : Cx} {e : List Expr} {t u : TT} (h : PTs X e t) (i : ∀ σ H Q, u σ H Q → t σ H Q) : PTs X e u := ⟨fun pins s σ H Q I q => h.run pins s σ H Q I (i σ H Q q)⟩
section
variable {X : Cx} {cl : Cla} {Wx : L2.WX} {pos : Pos} {e c : Expr} {ft tt : DT} {it : DI} {g : DG} {te : DE} {σ : L2.St} {H : Hp}
theorem q_nil : PTs X [] (tT X.K cl Wx dyes) := pts_nil.dimp fun σ H Q h => by
  obtain ⟨ι, S, sw, A, h⟩ := h
  exact Res.ok (RA := RB) h A.rel rfl
theorem q_one (h : PT X c (tT X.K cl Wx ft)) : PTs X [c] (tT X.K cl Wx ft) := pts_one h
theorem t_lc {vs : List Nat} {Q : VK} (h : tE X.K cl Wx (dlc vs it g tt te) σ H Q) : tLc (tI X.K cl Wx it) (tG X.K cl (ownS vs) g) (tT X.K cl W0 tt) (tE X.K cl W0 te) vs σ H Q := by
  obtain ⟨ι, S, sw, A, h⟩ := h
  refine ⟨ι, S, sw, A, Res.imp (Res.split (RA := RIt X.K cl) h) fun J H1 ⟨ι1, S1, i1, g1, r1, _, h1⟩ => fun D hD => ?_⟩
  have At1 := A.go g1
  -- from the heap in which D stands
  refine ⟨fun i m H' => m = i1.items.length - i ∧ i ≤ i1.items.length ∧ ∃ ι2 S2 acc accV, Go X.K cl ι1 S1 H1 ι2 S2 H' ∧ (∀ j, j < S2.length → D ≠ ι2 j) ∧ H' D = some (.lst accV) ∧ Reps X.K ι2 S2.length H' acc accV ∧
      (Res X.K cl (RV X.K) ι1 S1 H1 ((compD i1.guard g tt te (wipeW sw vs) (i1.items.drop i) acc S2).bind fun ys S3 => .ok (.ref S3.length) (S3 ++ [.lst ys])) Q fun c d H' => Wx c d σ H'), ?_, ?_⟩
  · have gD : Go X.K cl ι1 S1 H1 ι1 S1 (upd H1 D (.lst [])) := g1.rel.tuple hD
    refine ⟨i1.items.length, by simp, Nat.zero_le _, ι1, S1, [], [], gD, fun j hj z => ?_, upd_same, .nil, ?_⟩
    · obtain ⟨u, hu, _⟩ := g1.rel.at_ hj
      rw [← z, hD] at hu; cases hu
    · rw [List.drop_zero]; exact h1
  rintro i m H' ⟨rfl, hle, ι2, S2, acc, accV, g2, hne, eD, rA, h2⟩
  have s2 : Slots X.K ι2 S2.length H' sw σ := At1.sl.go At1.rel g2
  cases q : i1.items[i]? with
  | none =>
    have hd : i1.items.drop i = [] := List.drop_eq_nil_of_le (List.getElem?_eq_none_iff.mp q)
    rw [hd] at h2
    by_cases hg' : i1.guard S2 = true
    · have e2 : compD i1.guard g tt te (wipeW sw vs) [] acc S2 = .ok acc S2 := by unfold compD; rw [if_pos hg']
      rw [e2] at h2
      refine .inl ⟨(r1 S1 ι2 S2 H' i rfl hle g1.rel g2 hg').2 q, ?_⟩
      have new : RepO X.K cl (ins_ ι2 S2.length D) (S2.length + 1) H' D (.lst acc) := ⟨accV, eD, rA.mono (Nat.le_succ _) (fun j hj => ins_lt hj) (Kpt.refl _)⟩
      have rp := g2.rel.push hne (fun j C fs _ gs z => by rw [eD] at z; cases z) new (g2.rel.tab.pushL eD)
      refine h2 (ins_ ι2 S2.length D) (.ref D) H' ⟨?_, fun j hj => ?_, fun j h1 h2 => ?_, g2.fr, g2.tb, rp⟩ ?_
      · rw [List.length_append]; exact Nat.le_trans g2.le (Nat.le_add_right _ _)
      · rw [ins_lt (Nat.lt_of_lt_of_le hj g2.le)]; exact g2.ext j hj
      · rw [List.length_append, List.length_singleton] at h2
        by_cases hj : j < S2.length
        · rw [ins_lt hj]; exact g2.fresh j h1 hj
        · have : j = S2.length := by omega
          subst this
          rw [ins_same]; exact hD
      · have : Rep X.K (ins_ ι2 S2.length D) (S2 ++ [WO.lst acc]).length H' (.ref S2.length) (.ref (ins_ ι2 S2.length D S2.length)) := .ref (by simp)
        rwa [ins_same] at this
    · have e2 : compD i1.guard g tt te (wipeW sw vs) [] acc S2 = .bad := by unfold compD; rw [if_neg hg']
      rw [e2] at h2; exact h2.elim
  | some w =>
    obtain ⟨hlt, hw⟩ := List.getElem?_eq_some_iff.mp q
    have hd : i1.items.drop i = w :: i1.items.drop (i + 1) := by rw [List.drop_eq_getElem_cons hlt, hw]
    rw [hd] at h2
    by_cases hg' : i1.guard S2 = true
    · obtain ⟨go, yl⟩ := (r1 S1 ι2 S2 H' i rfl hle g1.rel g2 hg').1 w q
      simp only [compD, if_pos hg'] at h2
      refine .inr ⟨go, fun H'' => i + 1 ≤ i1.items.length ∧ ∃ ι3 S3 acc accV, Go X.K cl ι1 S1 H1 ι3 S3 H'' ∧ (∀ j, j < S3.length → D ≠ ι3 j) ∧ H'' D = some (.lst accV) ∧ Reps X.K ι3 S3.length H'' acc accV ∧
        (Res X.K cl (RV X.K) ι1 S1 H1 ((compD i1.guard g tt te (wipeW sw vs) (i1.items.drop (i + 1)) acc S3).bind fun ys S3 => .ok (.ref S3.length) (S3 ++ [.lst ys])) Q fun c d H' => Wx c d σ H'),
        fun H'' hN => ⟨_, by omega, rfl, hN⟩, fun x H3 hy => ?_⟩
      obtain ⟨g3, rx⟩ := yl x H3 hy
      -- D stays apart
      have apart : ∀ {ι4 : Nat → Addr} {S4 : Hs} {H4 : Hp}, Go X.K cl ι2 S2 H' ι4 S4 H4 → (∀ j, j < S4.length → D ≠ ι4 j) ∧ H4 D = some (.lst accV) := fun {ι4 S4 H4} g4 => by
        refine ⟨fun j hj z => ?_, g4.fr D _ eD (fun ps z => by cases z) hne⟩
        by_cases h5 : j < S2.length
        · exact hne j h5 (z.trans (g4.ext j h5))
        · have := g4.fresh j (Nat.le_of_not_lt h5) hj
          rw [← z, eD] at this; cases this
      refine ⟨ι2, S2, wipeW sw vs, w, ⟨g3.rel, (s2.go g2.rel g3).wipe vs⟩, rx, ?_⟩
      cases q3 : g w (wipeW sw vs) S2 with
      | ok sw4 S4 =>
        simp only [q3] at h2
        intro ι4 σ4 H4 g4 s4 p4
        have p4' : L2.wipe σ4 vs = L2.wipe σ vs := by
          have hw2 : L2.wipe (L2.wipe σ vs) vs = L2.wipe σ vs := by
            have : ∀ (l : List Nat) (τ : L2.St), (∀ k ∈ l, k ∈ vs) → L2.wipe (L2.wipe τ l) vs = L2.wipe τ vs := by
              intro l
              induction l with
              | nil => intro τ _; rfl
              | cons k l ih => intro τ hk; show L2.wipe ((L2.wipe τ l).set k none) vs = _; rw [wipe_set (hk k (by simp)), ih τ fun k' h => hk k' (by simp [h])]
            exact this vs σ fun _ h => h
          have : L2.wipe σ4 vs = L2.wipe (L2.wipe σ vs) vs := p4
          rw [this, hw2]
        refine ⟨p4', ?_⟩
        have g24 := g3.trans g4
        refine ⟨ι4, S4, sw4, ⟨g4.rel, s4⟩, ?_⟩
        cases q5 : tt sw4 S4 with
        | ok b S5 =>
          simp only [q5] at h2
          intro ι5 b' H5 g5 eb
          have eb' : b = b' := eb
          subst eb'
          have g25 := g24.trans g5
          cases b with
          | true =>
            rw [if_pos rfl]
            simp only at h2
            refine ⟨ι5, S5, sw4, ⟨g5.rel, s4.go g4.rel g5⟩, ?_⟩
            cases q6 : te sw4 S5 with
            | ok y S6 =>
              simp only [q6] at h2
              intro ι6 v H6 g6 ry
              have g26 := g25.trans g6
              obtain ⟨ne6, e6⟩ := apart g26
              by_cases hz : acc.length < sizeLine
              · rw [if_pos hz] at h2
                refine ⟨accV, e6, by rw [← rA.length]; exact hz, hlt, ι6, S6, acc ++ [y], accV ++ [v], ?_, ne6, upd_same, ?_, h2⟩
                · have g16 := g2.trans g26
                  refine ⟨g16.le, g16.ext, g16.fresh, fun a o e hp h => ?_, fun a ps e => ?_, g6.rel.beside e6 ne6⟩
                  · have hb : a ≠ D := ne_of_none e hD
                    rw [upd_ne hb]; exact g16.fr a o e hp h
                  · have hb : a ≠ D := ne_of_none e hD
                    rw [upd_ne hb]; exact g16.tb a ps e
                · exact ((rA.go g2.rel g26).append (.cons ry .nil)).mono (Nat.le_refl _) (fun _ _ => rfl) (kpt_beside e6)
              · rw [if_neg hz] at h2; exact h2.elim
            | exc _ _ _ => simp only [q6] at h2; exact h2.elim
            | bad => simp only [q6] at h2; exact h2.elim
          | false =>
            rw [if_neg (by decide)]
            simp only at h2
            obtain ⟨ne5, e5⟩ := apart g25
            exact ⟨hlt, ι5, S5, acc, accV, g2.trans g25, ne5, e5, rA.go g2.rel g25, h2⟩
        | exc _ _ _ => simp only [q5] at h2; exact h2.elim
        | bad => simp only [q5] at h2; exact h2.elim
      | exc _ _ _ => simp only [q3] at h2; exact h2.elim
      | bad => simp only [q3] at h2; exact h2.elim
    · have e2 : compD i1.guard g tt te (wipeW sw vs) (w :: i1.items.drop (i + 1)) acc S2 = .bad := by unfold compD; rw [if_neg hg']
      rw [e2] at h2; exact h2.elim
/-- [elt for tg in iter if ..] -/
theorem d_lc {elt tg iter : Expr} {ifs : List Expr} {scope : Scope} {own : List (Str × Nat)} (hc : X.calm = true) (hN : X.N.Nodup) (hi : PI X tg iter (tI X.K cl Wx it)) (ok : BlkOk X.N X.env.scope scope own)
    (hg : ∀ (s : Shared) (H : Hp) (C : Addr) (cl' : List (Str × Addr)) (fp : List Addr), PG (X.blk s H scope (compEnvC scope cl' C X.env) fp) tg (tG X.K cl (ownS (own.map (·.2))) g))
    (ht : ∀ (s : Shared) (H : Hp) (C : Addr) (cl' : List (Str × Addr)) (fp : List Addr), PTs (X.blk s H scope (compEnvC scope cl' C X.env) fp) ifs (tT X.K cl W0 tt))
    (he : ∀ (s : Shared) (H : Hp) (C : Addr) (cl' : List (Str × Addr)) (fp : List Addr), PE (X.blk s H scope (compEnvC scope cl' C X.env) fp) elt (tE X.K cl W0 te)) (hs : ∀ x, foldedSetIterable iter X.env x = pure x := by intro _; rfl) :
    PE X (.ListComp elt [⟨tg, iter, ifs, 0⟩] scope pos) (tE X.K cl Wx (dlc (own.map (·.2)) it g tt te)) := (pe_lc hc hN hi ok hg ht he hs).dimp fun _ _ _ => t_lc
/-- y = [elt for ..] -/
theorem z_setLc {i : Nat} {y : Str} {py spos : Pos} {elt tg iter : Expr} {ifs : List Expr} {scope : Scope} {own : List (Str × Nat)} (hc : X.calm = true) (hN : X.N.Nodup) (hy : X.N[i]? = some y) (hyl : X.env.scope.names.lookup y = some .local)
    (hsw : swapsWith (.ListComp elt [⟨tg, iter, ifs, 0⟩] scope pos) (some (.Name y py)) spos.line X.env = pure true) (hi : PI X tg iter (tI X.K cl Wx it)) (ok : BlkOk X.N X.env.scope scope own)
    (hg : ∀ (s : Shared) (H : Hp) (C : Addr) (cl' : List (Str × Addr)) (fp : List Addr), PG (X.blk s H scope (compEnvC scope cl' C X.env) fp) tg (tG X.K cl (ownS (own.map (·.2))) g))
    (ht : ∀ (s : Shared) (H : Hp) (C : Addr) (cl' : List (Str × Addr)) (fp : List Addr), PTs (X.blk s H scope (compEnvC scope cl' C X.env) fp) ifs (tT X.K cl W0 tt))
    (he : ∀ (s : Shared) (H : Hp) (C : Addr) (cl' : List (Str × Addr)) (fp : List Addr), PE (X.blk s H scope (compEnvC scope cl' C X.env) fp) elt (tE X.K cl W0 te)) (hs : ∀ x, foldedSetIterable iter X.env x = pure x := by intro _; rfl) :
    PS X (.Assign [.Name y py] (.ListComp elt [⟨tg, iter, ifs, 0⟩] scope pos) spos) (tS X.K cl Wx (sasg (dlc (own.map (·.2)) it g tt te) (gname i))) := (ps_setLc hc hN hy hyl hsw hi ok hg ht he hs).dimp fun D σ H h => by
  obtain ⟨ι, S, sw, A, h⟩ := h
  refine t_lc (Q := fun x H1 => D.nx (σ.set i (some x)) H1) ⟨ι, S, sw, A, Res.imp (Res.to (RA := RV X.K) A h) fun x H1 ⟨ι1, S1, w1, g1, r1, _, h1⟩ => ?_⟩
  exact ResS.nx_at (sw := sw.set i (some w1)) h1 g1.rel ((A.sl.go A.rel g1).set i r1)
end
end DL

set_option Elab.async false
set_option linter.all false
set_option maxRecDepth 100000
/-! DL15: defs and their calls. -/
namespace DL
open PySem PySem.Spec PyProof.Rows L2

/-! ### what a def has made and lost -/
mutual
def refIn (n : Nat) : W → Bool
  | .ref i => decide (i < n)
  | .tup ws => refsIn n ws
  | .fro ws => refsIn n ws
  | .ftp ws => refsIn n ws
  | _ => true
def refsIn (n : Nat) : List W → Bool
  | [] => true
  | w :: ws => refIn n w && refsIn n ws
end
def refInO (n : Nat) : WO → Bool
  | .lst ws => refsIn n ws
  | .dic kvs => refsIn n (kvs.map (·.2))
  | .ins _ fs => refsIn n (fs.map (·.2))
  | .exc _ fs => refsIn n (fs.map (·.2))
  | .loc kvs => refsIn n (kvs.map (·.2))
def okPre (S S' : Hs) : Bool := (List.range S.length).all fun i => decide (S'[i]? = S[i]?) || (match S'[i]? with
  | some o => refInO S.length o
  | none => false)
def trimR (S : Hs) : R W → R W
  | .ok w S' => if refIn S.length w = true ∧ okPre S S' = true then .ok w (S'.take S.length) else .ok w S'
  | .exc C fs S' => if refsIn S.length (fs.map (·.2)) = true ∧ okPre S S' = true then .exc C fs (S'.take S.length) else .exc C fs S'
  | .bad => .bad
section
variable {K : PySem.W.Frag} {cl : Cla} {ι ι' : Nat → Addr} {S S' : Hs} {H H' : Hp} {n m : Nat}
mutual
theorem Rep.refIn : ∀ {w : W} {v : V}, Rep K ι n H w v → DL.refIn n w = true
  | _, _, .non => rfl
  | _, _, .bl b => rfl
  | _, _, .int i => rfl
  | _, _, .str x => rfl
  | _, _, .tup _ s => by rw [DL.refIn]; exact s.refsIn
  | _, _, .fro _ s => by rw [DL.refIn]; exact s.refsIn
  | _, _, .ftp _ s => by rw [DL.refIn]; exact s.refsIn
  | _, _, .ref hi => by rw [DL.refIn]; exact decide_eq_true hi
theorem Reps.refsIn : ∀ {ws : List W} {vs : List V}, Reps K ι n H ws vs → DL.refsIn n ws = true
  | _, _, .nil => rfl
  | _, _, .cons a b => by rw [DL.refsIn, Rep.refIn a, Reps.refsIn b]; rfl
end
mutual
theorem Rep.less : ∀ {w : W} {v : V}, Rep K ι n H w v → DL.refIn m w = true → Rep K ι m H w v
  | _, _, .non, _ => .non
  | _, _, .bl b, _ => .bl b
  | _, _, .int i, _ => .int i
  | _, _, .str x, _ => .str x
  | _, _, .tup t s, h => .tup t (s.less (by rw [DL.refIn] at h; exact h))
  | _, _, .fro t s, h => .fro t (s.less (by rw [DL.refIn] at h; exact h))
  | _, _, .ftp t s, h => .ftp t (s.less (by rw [DL.refIn] at h; exact h))
  | _, _, .ref hi, h => .ref (by rw [DL.refIn] at h; exact of_decide_eq_true h)
theorem Reps.less : ∀ {ws : List W} {vs : List V}, Reps K ι n H ws vs → DL.refsIn m ws = true → Reps K ι m H ws vs
  | _, _, .nil, _ => .nil
  | _, _, .cons a b, h => by
    rw [DL.refsIn, Bool.and_eq_true] at h
    exact .cons (Rep.less a h.1) (Reps.less b h.2)
end
theorem RepO.refIn {a : Addr} {o : WO} (h : RepO K cl ι n H a o) : refInO n o = true := by
  cases o with
  | lst ws => obtain ⟨_, _, r⟩ := h; exact r.refsIn
  | dic ws => obtain ⟨_, _, r⟩ := h; exact r.2.refsIn
  | ins C ws => obtain ⟨_, _, _, r⟩ := h; exact r.2.refsIn
  | exc C ws => obtain ⟨_, _, _, _, r, _⟩ := h; exact r.2.refsIn
  | loc ws => obtain ⟨_, _, _, r⟩ := h; exact r.2.refsIn
theorem RepO.less {a : Addr} {o : WO} (h : RepO K cl ι n H a o) (hm : m ≤ n) (hb : refInO m o = true) : RepO K cl ι m H a o := by
  cases o with
  | lst ws => obtain ⟨x, e, r⟩ := h; exact ⟨x, e, r.less hb⟩
  | dic ws => obtain ⟨x, e, r⟩ := h; exact ⟨x, e, r.1, r.2.less hb⟩
  | ins C ws => obtain ⟨x, y, e, r⟩ := h; exact ⟨x, y, e, r.1, r.2.less hb⟩
  | exc C ws => obtain ⟨x, y, e, e2, r, ne⟩ := h; exact ⟨x, y, e, e2, ⟨r.1, r.2.less hb⟩, fun i hi => ne i (Nat.lt_of_lt_of_le hi hm)⟩
  | loc ws => obtain ⟨x, y, e, r⟩ := h; exact ⟨x, y, e, r.1, r.2.less hb⟩
theorem Go.trim (g : Go K cl ι S H ι' S' H') (r : Rel K cl ι S H) (h : okPre S S' = true) : Go K cl ι S H ι' (S'.take S.length) H' := by
  have hl : (S'.take S.length).length = S.length := by rw [List.length_take]; exact Nat.min_eq_left g.le
  refine ⟨by rw [hl]; exact Nat.le_refl _, g.ext, fun i h1 h2 => by rw [hl] at h2; exact absurd h2 (Nat.not_lt.mpr h1), g.fr, g.tb, fun i o e => ?_, fun i j hi hj => g.rel.inj i j ?_ ?_, g.rel.tab.mono fun a o e h => ⟨fun i hi => h i ?_, e⟩⟩
  · rw [hl]
    have hi : i < S.length := by rw [← hl]; exact (List.getElem?_eq_some_iff.mp e).1
    rw [List.getElem?_take_of_lt hi] at e
    refine (g.rel.obj i o e).less g.le ?_
    have h1 := List.all_eq_true.mp h i (List.mem_range.mpr hi)
    rw [e, Bool.or_eq_true] at h1
    rcases h1 with h1 | h1
    · have e2 : S[i]? = some o := (of_decide_eq_true h1).symm
      exact (r.obj i o e2).refIn
    · exact h1
  · rw [hl] at hi; exact Nat.lt_of_lt_of_le hi g.le
  · rw [hl] at hj; exact Nat.lt_of_lt_of_le hj g.le
  · rw [hl] at hi; exact Nat.lt_of_lt_of_le hi g.le
theorem Res.trim {x : R W} {Q : VK} {E : XK} (r : Rel K cl ι S H) (h : Res K cl (RV K) ι S H (trimR S x) Q E) : Res K cl (RV K) ι S H x Q E := by
  have hl : ∀ {S' : Hs}, S.length ≤ S'.length → (S'.take S.length).length = S.length := fun h => by rw [List.length_take]; exact Nat.min_eq_left h
  cases x with
  | ok w S' =>
    intro ι1 v H1 g rv
    unfold trimR at h
    simp only at h
    split at h
    · rename_i hc
      refine h ι1 v H1 (g.trim r hc.2) ?_
      show Rep K ι1 (S'.take S.length).length H1 w v
      rw [hl g.le]; exact rv.less hc.1
    · exact h ι1 v H1 g rv
  | exc C fs S' =>
    intro ι1 d gs H1 g e kr ne
    unfold trimR at h
    simp only at h
    split at h
    · rename_i hc
      refine h ι1 d gs H1 (g.trim r hc.2) e ?_ fun i hi => ne i ?_
      · rw [hl g.le]; exact ⟨kr.1, kr.2.less hc.1⟩
      · rw [hl g.le] at hi; exact Nat.lt_of_lt_of_le hi g.le
    · exact h ι1 d gs H1 g e kr ne
  | bad => exact h
end
/-- a def from its body -/
def defD (n : Nat) (f : DS) : DF := fun ws S => trimR S (match f (ws.map some ++ List.replicate (n - ws.length) none) S with
  | .nx _ S' => .ok .non S'
  | .rt w S' => .ok w S'
  | .exc C fs _ S' => .exc C fs S'
  | _ => .bad)

/-! ### the promise of a def -/
structure RoomG (k : Nat) (A : Around) : Prop where
  room : Room k A
  guards : A.guards = some []
theorem RoomG.mono {j k : Nat} {A : Around} (r : RoomG k A) (h : j ≤ k) : RoomG j A := ⟨r.room.mono h, r.guards⟩
theorem RoomG.deeper {k : Nat} {A : Around} (r : RoomG (k + 1) A) (env : Env) : RoomG k (A.deeper env) := ⟨r.room.deeper env, r.guards⟩
def spD (K : PySem.W.Frag) (cl : Cla) (n : Nat) (g : DF) : Sp := fun vs H Q E => vs.length = n ∧ ∃ ι S ws, Rel K cl ι S H ∧ Reps K ι S.length H ws vs ∧ Res K cl (RV K) ι S H (g ws S) Q E
structure FnD (P : Program) (w : World) (K : PySem.W.Frag) (mg : Str → Option Value) (base : Heap) (cl : Cla) (k : Nat) (f : Addr) (fd : FuncData) (ps : List Str) (g : DF) : Prop where
  run : ∀ (A : Around) (outer : List Env) (s : Shared) (H : Hp) (args : Args) (us : List Value) (vs : List V) (Q : VK) (E : XK), RoomG k A → Env0 P w K mg base A outer s H → BindsTo s fd args (ps.zip us) → Vals vs us → spD K cl ps.length g vs H Q E →
    codeAny (model P w) A (.call (.ref f) args) (CR (L2.CX P w) outer P w H s Q E) s
theorem FnD.mono {P : Program} {w : World} {K : PySem.W.Frag} {mg : Str → Option Value} {base : Heap} {cl : Cla} {j k : Nat} {f : Addr} {fd : FuncData} {ps : List Str} {g : DF} (F : FnD P w K mg base cl j f fd ps g) (h : j ≤ k) : FnD P w K mg base cl k f fd ps g :=
  ⟨fun A outer s H args us vs Q E hr => F.run A outer s H args us vs Q E (hr.mono h)⟩
section
variable {P : Program} {w : World} {K : PySem.W.Frag} {mg : Str → Option Value} {base : Heap} {cl : Cla}
theorem start_slots {ι : Nat → Addr} {n : Nat} {H : Hp} {ws : List W} {vs : List V} (h : Reps K ι n H ws vs) (N : List Str) : Slots K ι n H (ws.map some ++ List.replicate (N.length - ws.length) none) (L2.start N vs) := by
  refine ⟨by unfold L2.start; simp [h.length], fun i w e => ?_⟩
  unfold L2.start
  by_cases hi : i < ws.length
  · rw [List.getElem?_append_left (by simpa using hi), List.getElem?_map] at e
    obtain ⟨w', e1, e2⟩ := Option.map_eq_some_iff.mp e
    cases e2
    obtain ⟨v, q, r⟩ := h.get e1
    refine ⟨v, ?_, r⟩
    have hv : i < vs.length := (List.getElem?_eq_some_iff.mp q).1
    rw [List.getElem?_append_left (by simpa using hv), List.getElem?_map, q]; rfl
  · rw [List.getElem?_append_right (by simpa using Nat.le_of_not_lt hi)] at e
    obtain ⟨_, e1⟩ := List.getElem?_eq_some_iff.mp e
    simp at e1
theorem fnD_of {k : Nat} {f : Addr} {name qual : Str} {params : Arguments} {body : List Stmt} {scope : Scope} {dV kV doc pm cdv ct oc : Value} {an od : Option Addr} {osl : Array (Option Value)} {N ps : List Str} {g : DS}
    (lk : K.lookup f = some ⟨oc, od, .func (PySem.W.fnOf name qual params body scope dV kV doc pm an cdv ct), osl⟩) (hcd : PySem.W.codeIn K cdv qual = true) (S : FnScope N ps scope)
    (hbody : ∀ (A : Around) (outer : List Env) (s : Shared) (H : Hp) (E : XK), RoomG k (A.deeper (envOfC qual scope s.heap.objs.size f cdv)) →
      PSs (cxOf (L2.CX P w) P w K mg base N qual scope f cdv A outer s H E) body (tS K cl (fun c d _ H => E c d H) g)) :
    FnD P w K mg base cl (k + 1) f (PySem.W.fnOf name qual params body scope dV kV doc pm an cdv ct) ps (defD N.length g) := by
  refine ⟨fun A outer s H args us vs Q E hr e0 hb r hsp => ?_⟩
  obtain ⟨hl, ι, S0, ws, rel, rps, hres⟩ := hsp
  have KX : K.In s.heap := e0.mod.kin.keeps fun b o e => (e0.bs b o e).1
  have lim : s.heap.NoLimit := e0.mod.nolimit.keeps fun b o e => (e0.bs b o e).1
  have hkind : ∀ y ∈ ps.zip us, scope.names.lookup y.1 = some .local ∨ (scope.names.lookup y.1 = some .cell ∧ ((cellsFrom (s.heap.objs.size + 1) scope.names []).lookup y.1).isSome = true) := fun ⟨n, v⟩ hy => by
    rcases S.par n (List.of_mem_zip hy).1 with q | q
    · exact .inl q
    · exact .inr ⟨q, PySem.W.cellsFrom_some _ _ _ (.inl q)⟩
  refine codeAny_call_function hr.room.depth (KX _ _ lk) rfl S.co S.gen rfl (PySem.W.codeRec_of KX hcd) (hb _ _ _ _ ?_)
  refine wpAny_newFunctionEnv_cells S.kind hkind fun env he s1 x => ?_
  subst he
  refine ⟨lim.keeps x.toInCall.keep, codeAny_func ?_⟩
  have ht := hbody A outer s H E (hr.deeper _)
  have I : Inv (cxOf (L2.CX P w) P w K mg base N qual scope f cdv A outer s H E) [] (L2.start N vs) H s1 := inv_start S hr.room.hd e0 hl r x
  have hq : tS K cl (fun c d _ H => E c d H) g { nx := fun _ H' => Q .non H', rt := Q } (L2.start N vs) H := by
    refine ⟨ι, S0, _, ⟨rel, start_slots rps N⟩, ?_⟩
    have h1 := Res.trim rel hres
    cases q : g (ws.map some ++ List.replicate (N.length - ws.length) none) S0 with
    | nx sw S1 => rw [q] at h1; exact fun ι' σ' H' g' _ => h1 ι' .non H' g' .non
    | rt w S1 => rw [q] at h1; exact h1
    | bk sw S1 => rw [q] at h1; exact h1.elim
    | ct sw S1 => rw [q] at h1; exact h1.elim
    | exc C fs sw S1 => rw [q] at h1; exact fun ι' σ' d gs H' g' _ e kr ne => h1 ι' d gs H' g' e kr ne
    | bad => rw [q] at h1; exact h1
  refine wpAny_mono (ht.run [] s1 (L2.start N vs) H _ I hq) (fun fl s' hs => ?_) fun e s' hs => hs
  have fin : ∀ {σ' : L2.St} {H' : Hp} {v : V} {u : Value}, Inv (cxOf (L2.CX P w) P w K mg base N qual scope f cdv A outer s H E) [] σ' H' s' → RelV v u → Q v H' → CE outer P w H s Q u s' :=
    fun {σ' H' v u} J rv q => ⟨v, H', J.os, J.bare, J.base, J.hok, rv, q⟩
  cases fl with
  | ret u =>
    obtain ⟨v, σ', H', J, rv, q⟩ := hs
    exact fin J rv q
  | next =>
    obtain ⟨σ', H', J, q⟩ := hs
    exact fin (v := V.non) (u := Value.none) J rfl q
  | brk =>
    obtain ⟨_, _, _, q⟩ := hs
    exact False.elim q
  | cont =>
    obtain ⟨_, _, _, q⟩ := hs
    exact False.elim q
end
/-- a def's call by positions -/
def dcall (g : DF) (t : DA) : DE := fun sw S => (t sw S).bind fun ws S1 => g ws S1
section
variable {X : Cx} {cl : Cla} {W : L2.WX} {k : Nat} {f : Addr} {fd : FuncData} {ps : List Str} {g : DF} {x : Str} {p pos : Pos} {e : Expr} {es : List Expr} {t : DA} {ds : List Value} {dvs : List V}
theorem run_fnD {pins : List (Addr × Obj)} {σ : L2.St} {H : Hp} {s : Shared} {Q : VK} {us : List Value} {vs : List V} {args : Args} (F : FnD X.prog X.w X.K X.mg X.base cl k f fd ps g) (hr : RoomG k X.A) (hb : BindsTo s fd args (ps.zip us)) (tk : Takes X W)
    (I : Inv X pins σ H s) (r : Vals vs us) (h : spD X.K cl ps.length g vs H Q (WE W σ)) : codeAny (model X.prog X.w) X.A (.call (.ref f) args) (fun r s' => match r with | .ok (.ret u) => EP X pins σ Q u s' | .ok _ => False | .error e => X.xe e s') s := by
  refine codeAny_mono (F.run X.A X.stack s H args us vs Q (WE W σ) hr I.env0 hb r h) fun r s' hq => ?_
  cases r with
  | error e => exact passAt tk σ pins H s e s' I hq
  | ok fl =>
    cases fl with
    | ret u => exact I.after hq
    | next => exact False.elim hq
    | brk => exact False.elim hq
    | cont => exact False.elim hq
end
end DL

set_option Elab.async false
set_option linter.all false
set_option maxRecDepth 100000
/-! DL16: calls of defs. -/
namespace DL
open PySem PySem.Spec PyProof.Rows L2

def sel {α : Type} (arr : List Nat) (l : List α) : List α := arr.filterMap fun i => l[i]?
theorem sel_vals {xs : List V} {us : List Value} (h : Vals xs us) : ∀ arr : List Nat, Vals (sel arr xs) (sel arr us)
  | [] => .nil
  | i :: r => by
    unfold sel
    rw [List.filterMap_cons, List.filterMap_cons]
    cases e : xs[i]? with
    | none => rw [h.none_of e]; exact sel_vals h r
    | some x =>
      obtain ⟨u, e1, r1⟩ := h.get e
      rw [e1]
      exact .cons r1 (sel_vals h r)
theorem sel_reps {K : PySem.W.Frag} {ι : Nat → Addr} {n : Nat} {H : Hp} {ws : List W} {vs : List V} (h : Reps K ι n H ws vs) : ∀ arr : List Nat, Reps K ι n H (sel arr ws) (sel arr vs)
  | [] => .nil
  | i :: r => by
    unfold sel
    rw [List.filterMap_cons, List.filterMap_cons]
    cases e : ws[i]? with
    | none =>
      have : vs[i]? = none := by
        rw [List.getElem?_eq_none_iff] at e ⊢
        rw [← h.length]; exact e
      rw [this]; exact sel_reps h r
    | some x =>
      obtain ⟨u, e1, r1⟩ := h.get e
      rw [e1]
      exact .cons r1 (sel_reps h r)
/-- the def called x, with its keyword-only defaults -/
structure Cal (P : Program) (w : World) (K : PySem.W.Frag) (mg : Str → Option Value) (base : Heap) (cl : Cla) (k : Nat) (x : Str) (ps : List Str) (st : Stmt) (kwn : List Str) (dfl : List W) (g : DF) : Prop where
  ex : ∃ (f : Addr) (fd : FuncData) (dv : List V), FunD K x x (defArgs st) (defBody st) (defScope st) [] (kwn.zip dv) f fd ∧ dv.length = kwn.length ∧ (∀ ι n H, Reps K ι n H dfl dv) ∧ mg x = some (.ref f) ∧ FnD P w K mg base cl k f fd ps g
theorem Cal.mono {P : Program} {w : World} {K : PySem.W.Frag} {mg : Str → Option Value} {base : Heap} {cl : Cla} {j k : Nat} {x : Str} {ps : List Str} {st : Stmt} {kwn : List Str} {dfl : List W} {g : DF}
    (C : Cal P w K mg base cl j x ps st kwn dfl g) (h : j ≤ k) : Cal P w K mg base cl k x ps st kwn dfl g :=
  let ⟨f, fd, dv, a, b, c, d, e⟩ := C.ex; ⟨f, fd, dv, a, b, c, d, e.mono h⟩
def dcallK (n m : Nat) (arr : List Nat) (ds : List W) (g : DF) (t tk : DA) : DE := fun sw S => (t sw S).bind fun us S1 => (tk sw S1).bind fun ws S2 => if us.length = n ∧ ws.length = m then g (sel arr (us ++ ws ++ ds)) S2 else .bad
section
variable {X : Cx} {cl : Cla} {Wx : L2.WX} {k n : Nat} {ps ks kwn : List Str} {st : Stmt} {dfl : List W} {g : DF} {x : Str} {p pos : Pos} {e : Expr} {es : List Expr} {kws : List Keyword} {t tk' : DA} {arr mi : List Nat}
/-- how a call's arguments come to the parameters: no default wanted -/
def BindP (x : Str) (ps : List Str) (st : Stmt) (n : Nat) (ks : List Str) (arr : List Nat) : Prop :=
  (∀ us ws : List Value, us.length = n → ws.length = ks.length → (sel arr (us ++ ws)).length = ps.length) ∧
  ∀ (kV doc pm : Value) (an : Option Addr) (cdv ct : Value) (us ws : List Value), us.length = n → ws.length = ks.length → bindArgs (PySem.W.fnOf x x (defArgs st) (defBody st) (defScope st) .none kV doc pm an cdv ct) ⟨us, ks.zip ws⟩ = pure (ps.zip (sel arr (us ++ ws)))
/-- .. with defaults: those of the keyword-only names at the places mi -/
def BindM (x : Str) (ps kwn : List Str) (st : Stmt) (n : Nat) (ks : List Str) (mi : List Nat) (arr : List Nat) : Prop :=
  (∀ us ws ds : List Value, us.length = n → ws.length = ks.length → ds.length = mi.length → (sel arr (us ++ ws ++ ds)).length = ps.length) ∧ (∀ i ∈ mi, i < kwn.length) ∧
  ∀ (D : Addr) (doc pm : Value) (an : Option Addr) (cdv ct : Value) (us ws ds : List Value), us.length = n → ws.length = ks.length → ds.length = mi.length →
    KwChain D ((sel mi kwn).zip ds) (bindArgs (PySem.W.fnOf x x (defArgs st) (defBody st) (defScope st) .none (.ref D) doc pm an cdv ct) ⟨us, ks.zip ws⟩) (ps.zip (sel arr (us ++ ws ++ ds)))
theorem sel_length {α β : Type} {l : List α} {m : List β} (h : l.length = m.length) : ∀ arr : List Nat, (sel arr l).length = (sel arr m).length
  | [] => rfl
  | i :: r => by
    unfold sel
    rw [List.filterMap_cons, List.filterMap_cons]
    by_cases hi : i < l.length
    · rw [List.getElem?_eq_getElem hi, List.getElem?_eq_getElem (by omega)]
      simp only [List.length_cons]
      exact congrArg (· + 1) (sel_length h r)
    · rw [List.getElem?_eq_none (by omega), List.getElem?_eq_none (by omega)]
      exact sel_length h r
theorem run_cal {pins : List (Addr × Obj)} {σ : L2.St} {s : Shared} {Q : VK} {f : Addr} {fd : FuncData} {us us' : List Value} {kwv : List (Str × Value)} {ι : Nat → Addr} {S : Hs} {H : Hp} {ws : List W} {vs : List V} (F : FnD X.prog X.w X.K X.mg X.base cl k f fd ps g) (hr : RoomG k X.A) (tk : Takes X Wx) (hb : BindsTo s fd ⟨us, kwv⟩ (ps.zip us'))
    (hl : us'.length = ps.length) (I : Inv X pins σ H s) (R : Rel X.K cl ι S H) (r : Vals vs us') (rp : Reps X.K ι S.length H ws vs) (h : Res X.K cl (RV X.K) ι S H (g ws S) Q fun c d H' => Wx c d σ H') :
    wpAny (model X.prog X.w) X.A (call (.ref f) us kwv) (EP X pins σ Q) X.xe s := by
  refine wpAny_call (codeAny_mono (run_fnD F hr hb tk I r ⟨by rw [r.length]; exact hl, ι, S, ws, R, rp, h⟩) fun r s' hq => ?_)
  cases r with
  | error e => exact hq
  | ok fl =>
    cases fl with
    | ret u => exact hq
    | next => exact hq
    | brk => exact hq
    | cont => exact hq
/-- how the arguments come to the parameters -/
def BindA (x : Str) (ps kwn : List Str) (st : Stmt) (n : Nat) (ks : List Str) (mi arr : List Nat) : Prop := (mi = [] ∧ BindP x ps st n ks arr) ∨ (mi ≠ [] ∧ BindM x ps kwn st n ks mi arr)
theorem sel_zip {α β : Type} : ∀ (mi : List Nat) (l : List α) (m : List β), l.length = m.length → (sel mi (l.zip m)).map (·.1) = sel mi l ∧ (sel mi (l.zip m)).map (·.2) = sel mi m
  | [], l, m, h => ⟨rfl, rfl⟩
  | i :: r, l, m, h => by
    obtain ⟨h1, h2⟩ := sel_zip r l m h
    unfold sel at h1 h2 ⊢
    rw [List.filterMap_cons, List.filterMap_cons, List.filterMap_cons]
    by_cases hi : i < l.length
    · have hj : i < m.length := by omega
      have hz : i < (l.zip m).length := by rw [List.length_zip]; omega
      rw [List.getElem?_eq_getElem hz, List.getElem?_eq_getElem hi, List.getElem?_eq_getElem hj]
      simp only [List.map_cons, List.getElem_zip]
      exact ⟨by rw [h1], by rw [h2]⟩
    · rw [List.getElem?_eq_none (l := l.zip m) (by rw [List.length_zip]; omega), List.getElem?_eq_none (l := l) (by omega), List.getElem?_eq_none (l := m) (by omega)]
      exact ⟨h1, h2⟩
theorem sel_mem {α : Type} {mi : List Nat} {l : List α} {a : α} (h : a ∈ sel mi l) : a ∈ l := by
  unfold sel at h
  obtain ⟨i, _, e⟩ := List.mem_filterMap.mp h
  exact List.mem_of_getElem? e
theorem sel_full {α : Type} {l : List α} : ∀ {mi : List Nat}, (∀ i ∈ mi, i < l.length) → (sel mi l).length = mi.length
  | [], _ => rfl
  | i :: r, h => by
    unfold sel
    rw [List.filterMap_cons, List.getElem?_eq_getElem (h i List.mem_cons_self)]
    exact congrArg (· + 1) (sel_full fun j m => h j (List.mem_cons_of_mem _ m))
/-- what is bound -/
theorem bind_ok {K : PySem.W.Frag} {f : Addr} {fd : FuncData} {dv : List V} {mi : List Nat} {ks : List Str} (FD : FunD K x x (defArgs st) (defBody st) (defScope st) [] (kwn.zip dv) f fd) (hdv : dv.length = kwn.length) (hb : BindA x ps kwn st n ks mi arr) :
    ∃ ds : List Value, Vals (sel mi dv) ds ∧ ∀ (us ws : List Value), us.length = n → ws.length = ks.length → (sel arr (us ++ ws ++ ds)).length = ps.length ∧ ∀ s : Shared, K.In s.heap → BindsTo s fd ⟨us, ks.zip ws⟩ (ps.zip (sel arr (us ++ ws ++ ds))) := by
  obtain ⟨oc, od, dV, kV, doc, pm, an, cdv, ct, osl, rfl, lk, hcd, hD, hK⟩ := FD.ex
  have hdV : dV = .none := hD.elim (fun z => z.2) fun z => absurd rfl z.1
  subst hdV
  rcases hb with ⟨rfl, hb⟩ | ⟨hmi, hb⟩
  · refine ⟨[], .nil, fun us ws h1 h2 => ?_⟩
    rw [List.append_nil]
    exact ⟨hb.1 us ws h1 h2, fun s _ => .of_eq (hb.2 kV doc pm an cdv ct us ws h1 h2)⟩
  · obtain ⟨b1, b2, b3⟩ := hb
    obtain ⟨z1, z2⟩ := sel_zip mi kwn dv hdv.symm
    have hl : (sel mi (kwn.zip dv)).length = mi.length := sel_full fun i m => by rw [List.length_zip, hdv, Nat.min_self]; exact b2 i m
    rcases hK with e | ⟨D, rfl, hq⟩
    · have hm : mi = [] := by
        cases mi with
        | nil => rfl
        | cons i r =>
          have := b2 i List.mem_cons_self
          have e2 := congrArg List.length e
          rw [List.length_zip, hdv, Nat.min_self] at e2
          simp only [List.length_nil] at e2
          omega
      exact absurd hm hmi
    · obtain ⟨ds, h1, h2, h3⟩ := kwd_vals (ms := sel mi (kwn.zip dv)) fun q m => hq q (sel_mem m)
      rw [z1] at h3
      rw [z2] at h2
      refine ⟨ds, h2, fun us ws e1 e2 => ⟨b1 us ws ds e1 e2 (by rw [h1, hl]), fun s hs => BindsTo.of_looks fun M => KwChain.looks hs h3 (b3 D doc pm an cdv ct us ws ds e1 e2 (by rw [h1, hl]))⟩⟩
theorem call_go {pins : List (Addr × Obj)} {σ : L2.St} {s : Shared} {Q : VK} {ι : Nat → Addr} {S : Hs} {H : Hp} {us ws : List Value} {vs zs : List V} {uw ww : List W} {mi : List Nat} {ks : List Str} {f : Addr} {fd : FuncData} {dv : List V} (FD : FunD X.K x x (defArgs st) (defBody st) (defScope st) [] (kwn.zip dv) f fd) (hdv : dv.length = kwn.length) (rdv : ∀ ι n H, Reps X.K ι n H dfl dv)
    (F : FnD X.prog X.w X.K X.mg X.base cl k f fd ps g) (hr : RoomG k X.A) (tk : Takes X Wx) (hb : BindA x ps kwn st n ks mi arr) (I : Inv X pins σ H s) (R : Rel X.K cl ι S H) (r : Vals vs us) (rz : Vals zs ws) (ru : Reps X.K ι S.length H uw vs) (rw_ : Reps X.K ι S.length H ww zs)
    (h : Res X.K cl (RV X.K) ι S H (if uw.length = n ∧ ww.length = ks.length then g (sel arr (uw ++ ww ++ sel mi dfl)) S else .bad) Q fun c d H' => Wx c d σ H') :
    wpAny (model X.prog X.w) X.A (call (.ref f) us (ks.zip ws)) (EP X pins σ Q) X.xe s := by
  by_cases hn : uw.length = n ∧ ww.length = ks.length
  · rw [if_pos hn] at h
    obtain ⟨ds, rd, hB⟩ := bind_ok FD hdv hb
    have hu : us.length = n := by rw [← r.length, ← ru.length]; exact hn.1
    have hw : ws.length = ks.length := by rw [← rz.length, ← rw_.length]; exact hn.2
    obtain ⟨h1, h2⟩ := hB us ws hu hw
    exact run_cal F hr tk (h2 s I.kIn) h1 I R (sel_vals ((r.append rz).append rd) arr) (sel_reps ((ru.append rw_).append (sel_reps (rdv ι S.length H) mi)) arr) h
  · rw [if_neg hn] at h
    exact h.elim
/-- f(a, ..) -/
theorem d_call {mi : List Nat} (C : Cal X.prog X.w X.K X.mg X.base cl k x ps st kwn dfl g) (hr : RoomG k X.A) (tk : Takes X Wx) (hb : BindA x ps kwn st n [] mi arr) (hg : Gl X x) (ha : PA X (e :: es) (tA X.K cl Wx t))
    (hdb : (x == ("__debug__" : Str)) = false := by decide) (he : starEach (e :: es) X.env = (false, eval e X.env) :: starEach es X.env := by rfl) (hpl : (backTo pos (starEach es X.env)).any (·.1) = false := by rfl) :
    PE X (.Call (.Name x p) (e :: es) [] pos) (tE X.K cl Wx (dcallK n 0 arr (sel mi dfl) g t dnil)) := by
  obtain ⟨f, fd, dv, FD, hdv, rdv, hm, F⟩ := C.ex
  refine ⟨fun pins s σ H Q I h => ?_⟩
  obtain ⟨ι, S, sw, A, h⟩ := h
  have h1 : tA X.K cl Wx t σ H _ := ⟨ι, S, sw, A, Res.split (RA := RVs X.K) h⟩
  refine wpAny_Call_Name_kw (ld_glob I hg hm ?_ hdb)
  refine PySem.W.callWith_K (h₀ := X.base) I.ok.mod.kin FD.kp (thn (ha.run pos pins s σ H _ I h1) fun us s1 ⟨vs, H1, I1, r, ι1, S1, ws, g1, rp, _, h2⟩ => ⟨I1.kIn, ?_⟩) he hpl
  exact call_go (us := [] ++ us) (ws := []) (zs := []) (ww := []) (ks := []) FD hdv rdv F hr tk hb I1 g1.rel r .nil rp .nil h2
/-- f() -/
theorem d_call0 {mi : List Nat} (C : Cal X.prog X.w X.K X.mg X.base cl k x ps st kwn dfl g) (hr : RoomG k X.A) (tk : Takes X Wx) (hb : BindA x ps kwn st 0 [] mi arr) (hg : Gl X x) (hdb : (x == ("__debug__" : Str)) = false := by decide) :
    PE X (.Call (.Name x p) [] [] pos) (tE X.K cl Wx (dcallK 0 0 arr (sel mi dfl) g dnil dnil)) := by
  obtain ⟨f, fd, dv, FD, hdv, rdv, hm, F⟩ := C.ex
  refine ⟨fun pins s σ H Q I h => ?_⟩
  obtain ⟨ι, S, sw, A, h⟩ := h
  refine wpAny_Call_Name_kw (ld_glob I hg hm ?_ hdb)
  refine PySem.W.callWith_K0 I.kIn FD.kp ?_
  exact call_go (us := []) (ws := []) (vs := []) (zs := []) (uw := []) (ww := []) (ks := []) FD hdv rdv F hr tk hb I A.rel .nil .nil .nil .nil h
/-- f(a, .., x=b, ..) -/
theorem d_callK {mi : List Nat} {ks : List Str} (C : Cal X.prog X.w X.K X.mg X.base cl k x ps st kwn dfl g) (hr : RoomG k X.A) (tk : Takes X Wx) (hb : BindA x ps kwn st n ks mi arr) (hg : Gl X x) (ha : PA X (e :: es) (tA X.K cl Wx t)) (hkw : PK X kws (tA X.K cl Wx tk'))
    (hall : (backToKw pos (keywordEach kws X.env)).all (·.1.isSome) = true := by rfl) (hks : (backToKw pos (keywordEach kws X.env)).filterMap (·.1) = ks := by rfl)
    (hdb : (x == ("__debug__" : Str)) = false := by decide) (he : starEach (e :: es) X.env = (false, eval e X.env) :: starEach es X.env := by rfl)
    (hpl : ((backTo pos (starEach (e :: es) X.env)).any (·.1) || (backToKw pos (keywordEach kws X.env)).any (·.1.isNone)) = false := by rfl) :
    PE X (.Call (.Name x p) (e :: es) kws pos) (tE X.K cl Wx (dcallK n ks.length arr (sel mi dfl) g t tk')) := by
  obtain ⟨f, fd, dv, FD, hdv, rdv, hm, F⟩ := C.ex
  refine ⟨fun pins s σ H Q I h => ?_⟩
  obtain ⟨ι, S, sw, A, h⟩ := h
  have h1 : tA X.K cl Wx t σ H _ := ⟨ι, S, sw, A, Res.split (RA := RVs X.K) h⟩
  refine wpAny_Call_Name_kw (ld_glob I hg hm ?_ hdb)
  refine PySem.W.callWith_KW (h₀ := X.base) I.ok.mod.kin FD.kp hall (thn (ha.run pos pins s σ H _ I h1) fun us s1 ⟨vs, H1, I1, r, ι1, S1, ws, g1, rp, _, h2⟩ => ?_) hpl he
  have h3 : tA X.K cl Wx tk' σ H1 _ := ⟨ι1, S1, sw, A.go g1, Res.split (RA := RVs X.K) h2⟩
  refine thn (hkw.run pos pins s1 σ H1 _ I1 h3) fun us2 s2 ⟨zs, H2, I2, r2, ι2, S2, ws2, g2, rp2, _, h4⟩ => ⟨I2.kIn, ?_⟩
  rw [hks]
  exact call_go (us := [] ++ us) (ws := us2) FD hdv rdv F hr tk hb I2 g2.rel r r2 (rp.go g1.rel g2) rp2 h4
/-- f(x=b, ..) -/
theorem d_callK0 {mi : List Nat} {ks : List Str} (C : Cal X.prog X.w X.K X.mg X.base cl k x ps st kwn dfl g) (hr : RoomG k X.A) (tk : Takes X Wx) (hb : BindA x ps kwn st 0 ks mi arr) (hg : Gl X x) (hkw : PK X kws (tA X.K cl Wx tk'))
    (hall : (backToKw pos (keywordEach kws X.env)).all (·.1.isSome) = true := by rfl) (hks : (backToKw pos (keywordEach kws X.env)).filterMap (·.1) = ks := by rfl)
    (hdb : (x == ("__debug__" : Str)) = false := by decide) (hpl : ((backTo pos (starEach [] X.env)).any (·.1) || (backToKw pos (keywordEach kws X.env)).any (·.1.isNone)) = false := by rfl) :
    PE X (.Call (.Name x p) [] kws pos) (tE X.K cl Wx (dcallK 0 ks.length arr (sel mi dfl) g dnil tk')) := by
  obtain ⟨f, fd, dv, FD, hdv, rdv, hm, F⟩ := C.ex
  refine ⟨fun pins s σ H Q I h => ?_⟩
  obtain ⟨ι, S, sw, A, h⟩ := h
  have h1 : tA X.K cl Wx tk' σ H _ := ⟨ι, S, sw, A, Res.split (RA := RVs X.K) h⟩
  refine wpAny_Call_Name_kw (ld_glob I hg hm ?_ hdb)
  refine PySem.W.callWith_KW0 (h₀ := X.base) I.ok.mod.kin FD.kp hall (thn (hkw.run pos pins s σ H _ I h1) fun us2 s2 ⟨zs, H2, I2, r2, ι2, S2, ws2, g2, rp2, _, h4⟩ => ⟨I2.kIn, ?_⟩) hpl
  rw [hks]
  exact call_go (us := []) (vs := []) (uw := []) (ws := us2) FD hdv rdv F hr tk hb I2 g2.rel .nil r2 .nil rp2 h4
end
end DL

set_option Elab.async false
set_option linter.all false
set_option maxRecDepth 100000
/-! DL17: calls of built-in functions. -/
namespace DL
open PySem PySem.Spec PyProof.Rows L2

/-- what a call of f gives -/
def DCall (X : Cx) (f : Value) (g : List W → Hs → R W) : Prop :=
  ∀ (pins : List (Addr × Obj)) (s : Shared) (σ : L2.St) (cl : Cla) (ι : Nat → Addr) (S : Hs) (H : Hp) (ws : List W) (vs : List V) (us : List Value) (Q : VK) (E : XK), Inv X pins σ H s → Rel X.K cl ι S H → Reps X.K ι S.length H ws vs → Vals vs us →
    Res X.K cl (RV X.K) ι S H (g ws S) Q E → wpAny (model X.prog X.w) X.A (call f us) (EP X pins σ Q) X.xe s
def GB (K : PySem.W.Frag) (r : List V → Hp → VK → Prop) (g : List W → Hs → R W) : Prop :=
  ∀ (cl : Cla) (ι : Nat → Addr) (S : Hs) (H : Hp) (ws : List W) (vs : List V) (Q : VK) (E : XK), Rel K cl ι S H → Reps K ι S.length H ws vs → Res K cl (RV K) ι S H (g ws S) Q E → r vs H Q
def rC (K : PySem.W.Frag) (g : List W → Hs → R W) : List V → Hp → VK → Prop := fun vs H Q => ∃ (cl : Cla) (ι : Nat → Addr) (S : Hs) (ws : List W) (E : XK), Rel K cl ι S H ∧ Reps K ι S.length H ws vs ∧ Res K cl (RV K) ι S H (g ws S) Q E
/-- f(a, ..) of a denotation -/
def dcB (g : List W → Hs → R W) (t : DA) : DE := fun sw S => (t sw S).bind g
section
variable {X : Cx} {cl : Cla} {Wx : L2.WX} {pos p : Pos} {e : Expr} {es : List Expr} {t : DA} {x : Str} {id T : String} {g : List W → Hs → R W}
theorem DCall.r {f : Value} (h : DCall X f g) : CallR X f (rC X.K g) := by
  intro pins s σ H vs us Q I rv q
  obtain ⟨cl, ι, S, ws, E, R, rw_, q⟩ := q
  exact h pins s σ cl ι S H ws vs us Q E I R rw_ rv q
theorem DCall.of {f : Value} {r : List V → Hp → VK → Prop} (h : CallR X f r) (hg : GB X.K r g) : DCall X f g := fun pins s σ cl ι S H ws vs us Q E I R rw_ rv q => h pins s σ H vs us Q I rv (hg cl ι S H ws vs Q E R rw_ q)
theorem t_cB {K : PySem.W.Frag} {σ : L2.St} {H : Hp} {Q : VK} (h : tE K cl Wx (dcB g t) σ H Q) : tCB (rC K g) (tA K cl Wx t) σ H Q := by
  obtain ⟨ι, S, sw, A, h⟩ := h
  refine ⟨ι, S, sw, A, Res.imp (Res.split (RA := RVs K) h) fun x H1 ⟨ι1, S1, w1, g1, r1, _, h1⟩ => ?_⟩
  exact ⟨cl, ι1, S1, w1, _, g1.rel, r1, h1⟩
theorem d_bi (hc : DCall X (.builtin id) g) (ha : PA X (e :: es) (tA X.K cl Wx t)) (hg : Gl X x) (hm : X.mg x = none) (hv : bootBuiltins x = some (.builtin id) := by rfl) (hn : x ≠ "__name__" := by decide) (hdb : (x == ("__debug__" : Str)) = false := by decide)
    (he : starEach (e :: es) X.env = (false, eval e X.env) :: starEach es X.env := by rfl) (hpl : (backTo pos (starEach es X.env)).any (·.1) = false := by rfl) : PE X (.Call (.Name x p) (e :: es) [] pos) (tE X.K cl Wx (dcB g t)) :=
  (pe_callB hc.r hg hm hv ha hn hdb he hpl).dimp fun _ _ _ => t_cB
theorem d_bt (hc : DCall X (.type T) g) (ha : PA X (e :: es) (tA X.K cl Wx t)) (hg : Gl X x) (hm : X.mg x = none) (hv : bootBuiltins x = some (.type T) := by rfl) (hn : x ≠ "__name__" := by decide) (hdb : (x == ("__debug__" : Str)) = false := by decide)
    (he : starEach (e :: es) X.env = (false, eval e X.env) :: starEach es X.env := by rfl) (hpl : (backTo pos (starEach es X.env)).any (·.1) = false := by rfl) : PE X (.Call (.Name x p) (e :: es) [] pos) (tE X.K cl Wx (dcB g t)) :=
  (pe_callTy hc.r hg hm hv ha hn hdb he hpl).dimp fun _ _ _ => t_cB
end

/-! ### lists of ints, of bools -/
def intsW : List W → Option (List Int)
  | [] => some []
  | .int i :: r => (intsW r).map (i :: ·)
  | .bl b :: r => none
  | _ :: _ => none
def blsW : List W → Option (List Bool)
  | [] => some []
  | .bl i :: r => (blsW r).map (i :: ·)
  | _ :: _ => none
theorem intsW_rep {K : PySem.W.Frag} {ι : Nat → Addr} {n : Nat} {H : Hp} : ∀ {ws : List W} {vs : List V} {ns : List Int}, Reps K ι n H ws vs → intsW ws = some ns → vs = ns.map V.int
  | [], _, _, h, e => by cases h; cases e; rfl
  | w :: r, _, _, h, e => by
    cases h with
    | cons a b =>
      cases a with
      | int i =>
        obtain ⟨m, e1, rfl⟩ := Option.map_eq_some_iff.mp (show (intsW r).map (i :: ·) = _ from e)
        rw [intsW_rep b e1]; rfl
      | _ => cases e
theorem blsW_rep {K : PySem.W.Frag} {ι : Nat → Addr} {n : Nat} {H : Hp} : ∀ {ws : List W} {vs : List V} {ns : List Bool}, Reps K ι n H ws vs → blsW ws = some ns → vs = ns.map V.bl
  | [], _, _, h, e => by cases h; cases e; rfl
  | w :: r, _, _, h, e => by
    cases h with
    | cons a b =>
      cases a with
      | bl i =>
        obtain ⟨m, e1, rfl⟩ := Option.map_eq_some_iff.mp (show (blsW r).map (i :: ·) = _ from e)
        rw [blsW_rep b e1]; rfl
      | _ => cases e
theorem Reps.one {K : PySem.W.Frag} {ι : Nat → Addr} {n : Nat} {H : Hp} {w : W} {vs : List V} (h : Reps K ι n H [w] vs) : ∃ v, vs = [v] ∧ Rep K ι n H w v := by
  cases h with
  | cons a b => cases b; exact ⟨_, rfl, a⟩
theorem Reps.two {K : PySem.W.Frag} {ι : Nat → Addr} {n : Nat} {H : Hp} {w u : W} {vs : List V} (h : Reps K ι n H [w, u] vs) : ∃ v z, vs = [v, z] ∧ Rep K ι n H w v ∧ Rep K ι n H u z := by
  cases h with
  | cons a b =>
    cases b with
    | cons c d => cases d; exact ⟨_, _, rfl, a, c⟩

/-! ### the functions -/
def lenW : List W → Hs → R W := fun ws S => match ws with
  | [.str z] => if z.length ≤ sizeLine then .ok (.int z.length) S else .bad
  | [.tup xs] => .ok (.int xs.length) S
  | [w] => match lstOf S w with
    | some xs => .ok (.int xs.length) S
    | none => match w with
      | .ref i => match S[i]? with
        | some (.dic kvs) => .ok (.int kvs.length) S
        | _ => .bad
      | _ => .bad
  | _ => .bad
def tupleW : List W → Hs → R W := fun ws S => match ws with
  | [.tup xs] => .ok (.tup xs) S
  | [w] => match lstOf S w with
    | some xs => .ok (.tup xs) S
    | none => .bad
  | _ => .bad
def listW : List W → Hs → R W := fun ws S => match ws with
  | [.tup xs] => .ok (.ref S.length) (S ++ [.lst xs])
  | [w] => match lstOf S w with
    | some xs => .ok (.ref S.length) (S ++ [.lst xs])
    | none => .bad
  | _ => .bad
def sumW : List W → Hs → R W := fun ws S => match ws with
  | [w] => match lstOf S w with
    | some xs => match intsW xs with
      | some ns => .ok (.int ns.sum) S
      | none => .bad
    | none => .bad
  | _ => .bad
def anyW (f : List Bool → Bool) : List W → Hs → R W := fun ws S => match ws with
  | [w] => match lstOf S w with
    | some xs => match blsW xs with
      | some ns => .ok (.bl (f ns)) S
      | none => .bad
    | none => .bad
  | _ => .bad
def minmaxW (f : Int → Int → Int) : List W → Hs → R W := fun ws S => match ws with
  | [.int i, .int j] => .ok (.int (f i j)) S
  | [w] => match lstOf S w with
    | some xs => match intsW xs with
      | some (n :: ns) => .ok (.int (ns.foldl f n)) S
      | _ => .bad
    | none => .bad
  | _ => .bad
def intW : List W → Hs → R W := fun ws S => match ws with
  | [.int i] => .ok (.int i) S
  | [.bl b] => .ok (.int (b2i b)) S
  | _ => .bad
def sortOk (ds : List PyData) : Bool := (ds.all fun d => ds.all fun e => PySem.W.alike d e) && (ds.all (fun d => match d with | .tuple (_ :: _) => true | _ => false) || ds.all (fun d => match d with | .none => false | .tuple _ => false | _ => true))
def sortedW : List W → Hs → R W := fun ws S => match ws with
  | [w] => match lstOf S w with
    | some xs => match toDs (toD S dataDepth) xs with
      | some ds => if sortOk ds = true then
          .ok (.ref S.length) (S ++ [.lst (xs.mergeSort (PySem.W.dataLe false fun w => (toD S dataDepth w).getD .none))]) else .bad
      | none => .bad
    | none => .bad
  | _ => .bad
section
variable {X : Cx}
theorem c_len : DCall X (.builtin "len") lenW := .of (CallR.or call_len call_lenD) fun cl ι S H ws vs Q E r rw_ h => by
  unfold lenW at h
  split at h
  · split at h
    · rename_i hz
      obtain ⟨v, rfl, a⟩ := rw_.one
      cases a
      exact .inl ⟨_, _, rfl, ⟨hz, rfl⟩, Res.ok h r (.int _)⟩
    · exact h.elim
  · obtain ⟨v, rfl, a⟩ := rw_.one
    obtain ⟨l, us, rfl, h1, r1⟩ := a.tup_inv
    refine .inl ⟨_, _, rfl, .inr ⟨us, h1.sq, rfl⟩, ?_⟩
    rw [← r1.length]
    exact Res.ok h r (.int _)
  · split at h
    · rename_i e
      obtain ⟨v, rfl, a⟩ := rw_.one
      obtain ⟨l, us, rfl, h1, r1⟩ := lstOf_at r a e
      refine .inl ⟨_, _, rfl, .inl ⟨us, h1.sq, rfl⟩, ?_⟩
      rw [← r1.length]
      exact Res.ok h r (.int _)
    · split at h
      · split at h
        · rename_i q1
          obtain ⟨v, rfl, a⟩ := rw_.one
          obtain ⟨rfl, hn⟩ := a.ref_inv
          obtain ⟨kv, h1, h2⟩ := r.obj _ _ q1
          refine .inr ⟨_, kv, rfl, h1, ?_⟩
          rw [← h2.length]
          exact Res.ok h r (.int _)
        · exact h.elim
      · exact h.elim
  · exact h.elim
theorem c_tuple : DCall X (.type "tuple") tupleW := .of call_tuple_of fun cl ι S H ws vs Q E r rw_ h => by
  unfold tupleW at h
  split at h
  · obtain ⟨v, rfl, a⟩ := rw_.one
    obtain ⟨l, us, rfl, h1, r1⟩ := a.tup_inv
    exact ⟨_, us, rfl, .inr ⟨h1.sq, Res.ok h r a⟩⟩
  · split at h
    · rename_i e
      obtain ⟨v, rfl, a⟩ := rw_.one
      obtain ⟨l, us, rfl, h1, r1⟩ := lstOf_at r a e
      refine ⟨_, us, rfl, .inl ⟨h1.sq, fun p hp => ?_⟩⟩
      obtain ⟨g, rp⟩ := r.newT hp r1
      exact h _ _ _ g rp
    · exact h.elim
  · exact h.elim
theorem c_list : DCall X (.type "list") listW := .of call_list_of fun cl ι S H ws vs Q E r rw_ h => by
  unfold listW at h
  split at h
  · obtain ⟨v, rfl, a⟩ := rw_.one
    obtain ⟨l, us, rfl, h1, r1⟩ := a.tup_inv
    refine ⟨_, us, rfl, .inr h1.sq, fun p hp => ?_⟩
    obtain ⟨g, rp⟩ := r.newL hp r1
    exact h _ _ _ g rp
  · split at h
    · rename_i e
      obtain ⟨v, rfl, a⟩ := rw_.one
      obtain ⟨l, us, rfl, h1, r1⟩ := lstOf_at r a e
      refine ⟨_, us, rfl, .inl h1.sq, fun p hp => ?_⟩
      obtain ⟨g, rp⟩ := r.newL hp r1
      exact h _ _ _ g rp
    · exact h.elim
  · exact h.elim
theorem c_sum (hc : X.calm = true) : DCall X (.builtin "sum") sumW := .of (cr_sum hc) fun cl ι S H ws vs Q E r rw_ h => by
  unfold sumW at h
  split at h
  · split at h
    · rename_i e
      split at h
      · rename_i e2
        obtain ⟨v, rfl, a⟩ := rw_.one
        obtain ⟨l, us, rfl, h1, r1⟩ := lstOf_at r a e
        have := intsW_rep r1 e2
        subst this
        exact ⟨_, _, rfl, h1.sq, Res.ok h r (.int _)⟩
      · exact h.elim
    · exact h.elim
  · exact h.elim
theorem c_any (hc : X.calm = true) : DCall X (.builtin "any") (anyW fun l => l.any id) := .of (cr_any hc) fun cl ι S H ws vs Q E r rw_ h => by
  unfold anyW at h
  split at h
  · split at h
    · rename_i e
      split at h
      · rename_i e2
        obtain ⟨v, rfl, a⟩ := rw_.one
        obtain ⟨l, us, rfl, h1, r1⟩ := lstOf_at r a e
        have := blsW_rep r1 e2
        subst this
        exact ⟨_, _, rfl, h1.sq, Res.ok h r (.bl _)⟩
      · exact h.elim
    · exact h.elim
  · exact h.elim
theorem c_all (hc : X.calm = true) : DCall X (.builtin "all") (anyW fun l => l.all id) := .of (cr_all hc) fun cl ι S H ws vs Q E r rw_ h => by
  unfold anyW at h
  split at h
  · split at h
    · rename_i e
      split at h
      · rename_i e2
        obtain ⟨v, rfl, a⟩ := rw_.one
        obtain ⟨l, us, rfl, h1, r1⟩ := lstOf_at r a e
        have := blsW_rep r1 e2
        subst this
        exact ⟨_, _, rfl, h1.sq, Res.ok h r (.bl _)⟩
      · exact h.elim
    · exact h.elim
  · exact h.elim
theorem fold_max : ∀ (ns : List Int) (n : Int), (ns.foldl (fun i j => if j > i then j else i) n ∈ n :: ns) ∧ ∀ y ∈ n :: ns, y ≤ ns.foldl (fun i j => if j > i then j else i) n
  | [], n => ⟨List.mem_cons_self, fun y hy => by simp at hy; subst hy; exact Int.le_refl _⟩
  | m :: ns, n => by
    obtain ⟨h1, h2⟩ := fold_max ns (if m > n then m else n)
    rw [List.foldl_cons]
    refine ⟨?_, fun y hy => ?_⟩
    · rcases List.mem_cons.mp h1 with e | e
      · rw [e]; split <;> simp
      · exact List.mem_cons_of_mem _ (List.mem_cons_of_mem _ e)
    · have h3 := h2 _ List.mem_cons_self
      rcases List.mem_cons.mp hy with e | e
      · subst e; refine Int.le_trans ?_ h3; split <;> omega
      · rcases List.mem_cons.mp e with e | e
        · subst e; refine Int.le_trans ?_ h3; split <;> omega
        · exact h2 _ (List.mem_cons_of_mem _ e)
theorem fold_min : ∀ (ns : List Int) (n : Int), (ns.foldl (fun i j => if j < i then j else i) n ∈ n :: ns) ∧ ∀ y ∈ n :: ns, ns.foldl (fun i j => if j < i then j else i) n ≤ y
  | [], n => ⟨List.mem_cons_self, fun y hy => by simp at hy; subst hy; exact Int.le_refl _⟩
  | m :: ns, n => by
    obtain ⟨h1, h2⟩ := fold_min ns (if m < n then m else n)
    rw [List.foldl_cons]
    refine ⟨?_, fun y hy => ?_⟩
    · rcases List.mem_cons.mp h1 with e | e
      · rw [e]; split <;> simp
      · exact List.mem_cons_of_mem _ (List.mem_cons_of_mem _ e)
    · have h3 := h2 _ List.mem_cons_self
      rcases List.mem_cons.mp hy with e | e
      · subst e; refine Int.le_trans h3 ?_; split <;> omega
      · rcases List.mem_cons.mp e with e | e
        · subst e; refine Int.le_trans h3 ?_; split <;> omega
        · exact h2 _ (List.mem_cons_of_mem _ e)
theorem c_max (hc : X.calm = true) : DCall X (.builtin "max") (minmaxW fun i j => if j > i then j else i) := .of (CallR.or (call_max2 hc) (cr_max hc)) fun cl ι S H ws vs Q E r rw_ h => by
  unfold minmaxW at h
  split at h
  · obtain ⟨a, b, rfl, q1, q2⟩ := rw_.two
    cases q1; cases q2
    exact .inl ⟨_, _, rfl, Res.ok h r (.int _)⟩
  · split at h
    · rename_i e
      split at h
      · rename_i n ns e2
        obtain ⟨v, rfl, a⟩ := rw_.one
        obtain ⟨l, us, rfl, h1, r1⟩ := lstOf_at r a e
        have := intsW_rep r1 e2
        subst this
        refine .inr ⟨_, _, rfl, h1.sq, Nat.succ_pos _, fun m hm hy => ?_⟩
        obtain ⟨k1, k2⟩ := fold_max ns n
        have : m = ns.foldl (fun i j => if j > i then j else i) n := Int.le_antisymm (k2 _ hm) (hy _ k1)
        subst this
        exact Res.ok h r (.int _)
      · exact h.elim
    · exact h.elim
  · exact h.elim
theorem c_min (hc : X.calm = true) : DCall X (.builtin "min") (minmaxW fun i j => if j < i then j else i) := .of (CallR.or (call_min2 hc) (cr_min hc)) fun cl ι S H ws vs Q E r rw_ h => by
  unfold minmaxW at h
  split at h
  · obtain ⟨a, b, rfl, q1, q2⟩ := rw_.two
    cases q1; cases q2
    exact .inl ⟨_, _, rfl, Res.ok h r (.int _)⟩
  · split at h
    · rename_i e
      split at h
      · rename_i n ns e2
        obtain ⟨v, rfl, a⟩ := rw_.one
        obtain ⟨l, us, rfl, h1, r1⟩ := lstOf_at r a e
        have := intsW_rep r1 e2
        subst this
        refine .inr ⟨_, _, rfl, h1.sq, Nat.succ_pos _, fun m hm hy => ?_⟩
        obtain ⟨k1, k2⟩ := fold_min ns n
        have : m = ns.foldl (fun i j => if j < i then j else i) n := Int.le_antisymm (hy _ k1) (k2 _ hm)
        subst this
        exact Res.ok h r (.int _)
      · exact h.elim
    · exact h.elim
  · exact h.elim
theorem c_int : DCall X (.type "int") intW := .of call_int1 fun cl ι S H ws vs Q E r rw_ h => by
  unfold intW at h
  split at h
  · obtain ⟨v, rfl, a⟩ := rw_.one
    cases a
    exact .inl ⟨_, rfl, Res.ok h r (.int _)⟩
  · obtain ⟨v, rfl, a⟩ := rw_.one
    cases a
    exact .inr ⟨_, rfl, Res.ok h r (.int _)⟩
  · exact h.elim
end
end DL

set_option Elab.async false
set_option linter.all false
set_option maxRecDepth 100000
/-! DL18: sorted. -/
namespace DL
open PySem PySem.Spec PyProof.Rows L2

theorem toDs_depth {f : W → Option PyData} {k : Nat} (hf : ∀ w d, f w = some d → d.depth ≤ k) : ∀ (ws : List W) (ds : List PyData), toDs f ws = some ds → PyData.depthAll ds ≤ k
  | [], _, e => by cases e; simp [PyData.depthAll]
  | w :: ws, _, e => by
    unfold toDs at e
    split at e
    · rename_i d ds e1 e2
      cases e
      have h1 := hf w d e1
      have h2 := toDs_depth hf ws ds e2
      rw [PyData.depthAll]
      omega
    · cases e
theorem toD_depth (S : Hs) : ∀ (k : Nat) (w : W) (d : PyData), toD S k w = some d → d.depth ≤ k
  | 0, w, d, e => by
    cases w <;> first
      | (cases e; simp [PyData.depth])
      | cases e
  | k + 1, w, d, e => by
    cases w with
    | tup ws =>
      obtain ⟨ds, e1, rfl⟩ := Option.map_eq_some_iff.mp (show (toDs (toD S k) ws).map PyData.tuple = some d from e)
      have := toDs_depth (toD_depth S k) ws ds e1
      simp only [PyData.depth]; omega
    | fro ws =>
      obtain ⟨ds, e1, rfl⟩ := Option.map_eq_some_iff.mp (show (toDs (toD S k) ws).map PyData.list = some d from e)
      have := toDs_depth (toD_depth S k) ws ds e1
      simp only [PyData.depth]; omega
    | ftp ws => cases e
    | ref i =>
      have e' : (match S[i]? with | some (.lst ws) => (toDs (toD S k) ws).map .list | some (.dic []) => some (.dict []) | _ => none) = some d := e
      split at e'
      · rename_i ws q
        obtain ⟨ds, e1, rfl⟩ := Option.map_eq_some_iff.mp e'
        have := toDs_depth (toD_depth S k) ws ds e1
        simp only [PyData.depth]; omega
      · cases e'; simp [PyData.depth, PyData.depthKv]
      · cases e'
    | _ => cases e; simp [PyData.depth]
theorem toDs_map {f : W → Option PyData} : ∀ {ws : List W} {ds : List PyData}, toDs f ws = some ds → ds = ws.map fun w => (f w).getD .none
  | [], _, e => by cases e; rfl
  | w :: ws, _, e => by
    unfold toDs at e
    split at e
    · rename_i d ds e1 e2
      cases e
      rw [List.map_cons, e1, ← toDs_map e2]; rfl
    · cases e
theorem toDs_mem {f : W → Option PyData} : ∀ {ws : List W} {ds : List PyData}, toDs f ws = some ds → ∀ w ∈ ws, ∃ d, f w = some d
  | [], _, e, _, h => absurd h List.not_mem_nil
  | w :: ws, _, e, u, h => by
    unfold toDs at e
    split at e
    · rename_i d ds e1 e2
      cases e
      rcases List.mem_cons.mp h with q | q
      · subst q; exact ⟨d, e1⟩
      · exact toDs_mem e2 u q
    · cases e
section
variable {X : Cx} {pins : List (Addr × Obj)} {σ : L2.St} {s : Shared} {cl : Cla} {ι : Nat → Addr} {S : Hs} {H : Hp}
theorem each_of : ∀ {ws : List W} {vs : List V} {us : List Value} {n : Nat}, Reps X.K ι n H ws vs → Vals vs us → PySem.W.EachIs (fun u w => ∃ v, Rep X.K ι n H w v ∧ RelV v u) us ws
  | [], _, _, _, h, r => by cases h; cases r; exact .nil
  | _ :: _, _, _, _, .cons a b, .cons c d => .cons ⟨_, a, c⟩ (each_of b d)
theorem of_each : ∀ {ws : List W} {us : List Value} {n : Nat}, PySem.W.EachIs (fun u w => ∃ v, Rep X.K ι n H w v ∧ RelV v u) us ws → ∃ vs, Reps X.K ι n H ws vs ∧ Vals vs us
  | _, _, _, .nil => ⟨[], .nil, .nil⟩
  | _, _, _, .cons ⟨v, a, c⟩ h => by
    obtain ⟨vs, h1, h2⟩ := of_each h
    exact ⟨v :: vs, .cons a h1, .cons c h2⟩
theorem each_imp {α β : Type} {R T : α → β → Prop} : ∀ {us : List α} {ws : List β}, (∀ u, ∀ w ∈ ws, R u w → T u w) → PySem.W.EachIs R us ws → PySem.W.EachIs T us ws
  | _, _, _, .nil => .nil
  | _, _, hi, .cons a h => .cons (hi _ _ List.mem_cons_self a) (each_imp (fun u w m => hi u w (List.mem_cons_of_mem _ m)) h)
/-- a new list behind a step that lays more -/
theorem sorted_at (hu : X.A.units + 64 < cLine) {Q : VK} {E : XK} {l : Addr} {xs : List W} {ds : List PyData} {ys : List V} (I : Inv X pins σ H s) (r : Rel X.K cl ι S H) (hs : SqL X.K H l ys) (r1 : Reps X.K ι S.length H xs ys) (e : toDs (toD S dataDepth) xs = some ds)
    (h1 : PySem.W.AllAlike ds) (h2 : PySem.W.Sortable ds)
    (h : Res X.K cl (RV X.K) ι S H (.ok (.ref S.length) (S ++ [.lst (xs.mergeSort (PySem.W.dataLe false fun w => (toD S dataDepth w).getD .none))])) Q E) :
    wpAny (model X.prog X.w) X.A (call (.builtin "sorted") [.ref l]) (EP X pins σ Q) X.xe s := by
  obtain ⟨its, rv, hl, hz⟩ := I.list hs
  have ed := toDs_map e
  subst ed
  have ee := each_of r1 rv
  refine PySem.W.sorted_data (R := fun u w => ∃ v, Rep X.K ι S.length H w v ∧ RelV v u) (bs := xs) (enc := fun w => (toD S dataDepth w).getD .none) hl.isList ee ?_ h1 h2 (by rw [r1.length]; exact hz) (fun b hb => ?_) fun out ho eo => ?_
  · refine each_imp (fun u w m ⟨v, a, c⟩ => ?_) ee
    obtain ⟨d, hd⟩ := toDs_mem e w m
    show ∃ as, Reads s.heap u ((toD S dataDepth w).getD .none) as
    rw [hd]
    exact reads_of I r _ w v u d a c hd
  · obtain ⟨d, hd⟩ := toDs_mem e b hb
    show X.A.units + 2 + ((toD S dataDepth b).getD .none).depth < cLine
    rw [hd]
    have q := toD_depth S _ b d hd
    have q2 : dataDepth = 40 := rfl
    show X.A.units + 2 + d.depth < cLine
    omega
  · obtain ⟨zs, k1, k2⟩ := of_each eo
    obtain ⟨n, hn⟩ := sortedAll_at s.heap its out.toArray
    have hf : H (s.heap.objs.size + 1) = none := I.hok.fresh (Nat.le_succ _)
    refine ⟨.ref _, upd H (s.heap.objs.size + 1) (.lst zs), I.laid (t' := s.toks) (fun b o e => sortedAll_old e) (Nat.le_succ _) ⟨?_, out, n, k2, hn⟩, rfl, ?_⟩
    · rw [k2.length, ho, r1.length]; exact hz
    · obtain ⟨g, rp⟩ := r.newL hf k1
      exact h _ _ _ g rp
end
theorem c_sorted {X : Cx} (hu : X.A.units + 64 < cLine) : DCall X (.builtin "sorted") sortedW := by
  intro pins s σ cl ι S H ws vs us Q E I r rw_ rv h
  unfold sortedW at h
  split at h
  · split at h
    · rename_i xs e
      split at h
      · rename_i ds e2
        split at h
        · rename_i hb
          obtain ⟨v, rfl, a⟩ := rw_.one
          obtain ⟨l, ys, rfl, h1, r1⟩ := lstOf_at r a e
          obtain ⟨u, rfl, ru⟩ := vals1 rv
          obtain rfl : u = Value.ref l := ru
          rw [sortOk, Bool.and_eq_true, Bool.or_eq_true] at hb
          refine sorted_at hu I r h1.sq r1 e2 (fun d hd d' hd' => ?_) ?_ h
          · exact List.all_eq_true.mp (List.all_eq_true.mp hb.1 d hd) d' hd'
          · refine hb.2.imp (fun q d hd => ?_) fun q d hd => ?_
            · have := List.all_eq_true.mp q d hd
              split at this
              · exact ⟨_, _, rfl⟩
              · cases this
            · have := List.all_eq_true.mp q d hd
              refine ⟨fun z => ?_, fun xs z => ?_⟩ <;> subst z <;> cases this
        · exact h.elim
      · exact h.elim
    · exact h.elim
  · exact h.elim
end DL

set_option Elab.async false
set_option linter.all false
set_option maxRecDepth 100000
/-! DL19: in, is None, methods. -/
namespace DL
open PySem PySem.Spec PyProof.Rows L2

/-! ### a rule of two values, used -/
section
variable {X : Cx} {cl : Cla} {Wx : L2.WX} {pos : Pos} {a b : Expr} {fa fb : DE}
theorem d_opD {op : Operator} {g : W → W → Hs → R W} (ho : DOp X (binaryOp op) g) (ha : PE X a (tE X.K cl Wx fa)) (hb : PE X b (tE X.K cl Wx fb)) : PE X (.BinOp a op b pos) (tE X.K cl Wx (dbin g fa fb)) := d_op ho.op g_D ha hb
theorem d_cmpD {op : CmpOp} {g : W → W → Hs → R W} (ho : DOp X (compareOp op) g) (ha : PE X a (tE X.K cl Wx fa)) (hb : PE X b (tE X.K cl Wx fb)) (hm : behindInMarks op b = false := by first | exact nobehind _ (by decide) (by decide) | rfl) : PE X (.Compare a [op] [b] pos) (tE X.K cl Wx (dbin g fa fb)) := d_cmp ho.op g_D ha hb hm
theorem d_tcmpD {op : CmpOp} {g : W → W → Hs → R W} (ho : DOp X (compareOp op) g) (ha : PE X a (tE X.K cl Wx fa)) (hb : PE X b (tE X.K cl Wx fb)) (hm : behindInMarks op b = false := by first | exact nobehind _ (by decide) (by decide) | rfl) : PT X (.Compare a [op] [b] pos) (tT X.K cl Wx (dtst (dbin g fa fb))) := d_tcmp ho.op g_D ha hb hm
/-! ### is None -/
def isNonW (f : Bool → Bool) (w : W) (S : Hs) : R W := .ok (.bl (f (decide (w = .non)))) S
theorem non_iff {K : PySem.W.Frag} {ι : Nat → Addr} {n : Nat} {H : Hp} {w : W} {v : V} (h : Rep K ι n H w v) : decide (v = .non) = decide (w = .non) := by
  cases h <;> simp
theorem g_isN {K : PySem.W.Frag} : UnG K (fun v H Q => Q (.bl (decide (v = .non))) H) (isNonW id) := fun cl ι S H x v Q E r rx h => by
  show Q (.bl (decide (v = .non))) H
  rw [non_iff rx]; exact Res.ok h r (.bl _)
theorem g_isnN {K : PySem.W.Frag} : UnG K (fun v H Q => Q (.bl (!decide (v = .non))) H) (isNonW not) := fun cl ι S H x v Q E r rx h => by
  show Q (.bl (!decide (v = .non))) H
  rw [non_iff rx]; exact Res.ok h r (.bl _)
theorem d_isN {j : Nat} {pos' : Pos} (ha : PE X a (tE X.K cl Wx fa)) : PE X (.Compare a [.Is] [.Constant .none j pos'] pos) (tE X.K cl Wx (dun (isNonW id) fa)) := (pe_cmp (pc_isN ha)).dimp fun σ H Q h =>
  t_un (r := fun v H Q => Q (.bl (decide (v = .non))) H) g_isN h
theorem d_isnN {j : Nat} {pos' : Pos} (ha : PE X a (tE X.K cl Wx fa)) : PE X (.Compare a [.IsNot] [.Constant .none j pos'] pos) (tE X.K cl Wx (dun (isNonW not) fa)) := (pe_cmp (pc_notN ha)).dimp fun σ H Q h =>
  t_un (r := fun v H Q => Q (.bl (!decide (v = .non))) H) g_isnN h
theorem d_tisN {j : Nat} {pos' : Pos} (ha : PE X a (tE X.K cl Wx fa)) : PT X (.Compare a [.Is] [.Constant .none j pos'] pos) (tT X.K cl Wx (dtst (dun (isNonW id) fa))) := (pt_cmp (pc_isN ha)).dimp fun σ H Q h =>
  t_tst (fun Q h => t_un (r := fun v H Q => Q (.bl (decide (v = .non))) H) g_isN h) h
theorem d_tisnN {j : Nat} {pos' : Pos} (ha : PE X a (tE X.K cl Wx fa)) : PT X (.Compare a [.IsNot] [.Constant .none j pos'] pos) (tT X.K cl Wx (dtst (dun (isNonW not) fa))) := (pt_cmp (pc_notN ha)).dimp fun σ H Q h =>
  t_tst (fun Q h => t_un (r := fun v H Q => Q (.bl (!decide (v = .non))) H) g_isnN h) h
end

/-! ### in -/
def inD (x y : W) (S : Hs) : Option Bool := match y with
  | .ref i => match S[i]? with
    | some (.dic kvs) => match keyW x with
      | some k => some (atK kvs k).isSome
      | none => none
    | some (.lst ws) => go x ws
    | _ => none
  | .fro ws => go x ws
  | .tup ws => go x ws
  | _ => none
where go (x : W) (ws : List W) : Option Bool := match toD S dataDepth x, toDs (toD S dataDepth) ws with
  | some d, some ds => if SeqAt.shaped d = true ∧ SeqAt.shaped (.list ds) = true then some (ds.any fun z => PyData.eqv z d) else none
  | _, _ => none
def inW (f : Bool → Bool) (x y : W) (S : Hs) : R W := match inD x y S with
  | some b => .ok (.bl (f b)) S
  | none => .bad
theorem in_go {x : W} {ws : List W} {S : Hs} {b : Bool} (e : inD.go S x ws = some b) : ∃ d ds, toD S dataDepth x = some d ∧ toDs (toD S dataDepth) ws = some ds ∧ SeqAt.shaped d = true ∧ SeqAt.shaped (.list ds) = true ∧ b = ds.any fun z => PyData.eqv z d := by
  unfold inD.go at e
  split at e
  · rename_i d ds e1 e2
    split at e
    · rename_i hs
      cases e
      exact ⟨d, ds, e1, e2, hs.1, hs.2, rfl⟩
    · cases e
  · cases e
/-- in and not in, by what they say -/
theorem dop_inG {X : Cx} {op : CmpOp} {f : Bool → Bool}
    (hL : ∀ {s : Shared} {c x : Value} {xs : List PyData} {d : PyData} {as bs : List Addr} {Q E : Value → Shared → Prop}, Reads s.heap c (.list xs) as → Reads s.heap x d bs → PyData.canLayAll0 xs = true → d.canLay0 = true → X.A.units + 1 + min (PyData.depthAll xs) d.depth < cLine → Q (.bool (f (xs.any fun y => PyData.eqv y d))) s → wpAny (model X.prog X.w) X.A (compareOp op x c) Q E s)
    (hT : ∀ {s : Shared} {c x : Value} {xs : List PyData} {d : PyData} {as bs : List Addr} {Q E : Value → Shared → Prop}, Reads s.heap c (.tuple xs) as → Reads s.heap x d bs → PyData.canLayAll0 xs = true → d.canLay0 = true → X.A.units + 1 + min (PyData.depthAll xs) d.depth < cLine → Q (.bool (f (xs.any fun y => PyData.eqv y d))) s → wpAny (model X.prog X.w) X.A (compareOp op x c) Q E s)
    (hK : ∀ {pins : List (Addr × Obj)} {s : Shared} {σ : L2.St} {H : Hp} {a : Addr} {y : V} {u : Value} {o : Option V} {Q E : Value → Shared → Prop}, Inv X pins σ H s → DGet H a y o → RelV y u → (∀ s', Inv X pins σ H s' → Q (.bool (f o.isSome)) s') → wpAny (model X.prog X.w) X.A (compareOp op u (.ref a)) Q E s)
    (hu : X.A.units + 65 < cLine) : DOp X (compareOp op) (inW f) := by
  intro pins s σ cl ι S H x y a b v u Q E I R rx ry ra rb h
  unfold inW at h
  cases e : inD x y S with
  | none => rw [e] at h; exact h.elim
  | some c =>
    simp only [e] at h
    have hq : ∀ c', c' = c → EP X pins σ Q (.bool (f c')) s := fun c' ec => by subst ec; exact ⟨.bl _, H, I, rfl, Res.ok h R (.bl _)⟩
    have room : ∀ {d : PyData} {ds : List PyData}, SeqAt.shaped d = true → X.A.units + 1 + min (PyData.depthAll ds) d.depth < cLine := fun {d ds} hd => room_in_shaped hd (by omega)
    have seq : ∀ {ws : List W}, inD.go S x ws = some c → (∀ d ds, toD S dataDepth x = some d → toDs (toD S dataDepth) ws = some ds → SeqAt.shaped d = true → SeqAt.shaped (.list ds) = true → ∀ bs, Reads s.heap v d bs → EP X pins σ Q (.bool (f (ds.any fun z => PyData.eqv z d))) s → wpAny (model X.prog X.w) X.A (compareOp op v u) (EP X pins σ Q) X.xe s) →
        wpAny (model X.prog X.w) X.A (compareOp op v u) (EP X pins σ Q) X.xe s := fun {ws} e2 k => by
      obtain ⟨d, ds, e3, e4, s1, s2, rfl⟩ := in_go e2
      obtain ⟨bs, r1⟩ := reads_of I R _ x a v d rx ra e3
      exact k d ds e3 e4 s1 s2 bs r1 (hq _ rfl)
    unfold inD at e
    split at e
    · split at e
      · rename_i i kvs q1
        split at e
        · rename_i k ek
          cases e
          obtain ⟨rfl, hn⟩ := ry.ref_inv
          obtain ⟨kv, h1, h2⟩ := R.obj _ _ q1
          have := keyW_rep rx ek
          subst this
          cases rb
          refine hK I (.k h1) ra fun s' I' => ?_
          rw [h2.opt]
          exact ⟨.bl _, H, I', rfl, Res.ok h R (.bl _)⟩
        · cases e
      · rename_i i ws q1
        refine seq e fun d ds e3 e4 s1 s2 bs r1 hq => ?_
        obtain ⟨rfl, hn⟩ := ry.ref_inv
        obtain ⟨vs, h1, h2⟩ := lst_at R q1
        cases rb
        obtain ⟨its, n, rv, ho, _⟩ := lstRaw I (.inl h1)
        obtain ⟨as, q⟩ := reads_all (fun w v u d => reads_of I R _ w v u d) ws _ its ds h2 rv e4
        exact hL (.list ho rfl rfl q) r1 (SeqAt.canLay_of_shaped s2) (SeqAt.canLay_of_shaped s1) (room s1) hq
      · cases e
    · rename_i ws
      refine seq e fun d ds e3 e4 s1 s2 bs r1 hq => ?_
      cases ry with
      | fro ht hr =>
        cases rb
        obtain ⟨its, n, rv, ho, _⟩ := lstRaw I (.inr ht)
        obtain ⟨as, q⟩ := reads_all (fun w v u d => reads_of I R _ w v u d) ws _ its ds hr rv e4
        exact hL (.list ho rfl rfl q) r1 (SeqAt.canLay_of_shaped s2) (SeqAt.canLay_of_shaped s1) (room s1) hq
    · rename_i ws
      refine seq e fun d ds e3 e4 s1 s2 bs r1 hq => ?_
      cases ry with
      | tup ht hr =>
        cases rb
        obtain ⟨its, rv, ⟨o, ho, hc, n, hd⟩, _⟩ := I.tuple ht.sq
        obtain ⟨as, q⟩ := reads_all (fun w v u d => reads_of I R _ w v u d) ws _ its ds hr rv e4
        exact hT (.tuple ho hc hd q) r1 (SeqAt.canLay_of_shaped s2) (SeqAt.canLay_of_shaped s1) (room s1) hq
    · cases e
theorem dop_in {X : Cx} (hu : X.A.units + 65 < cLine) : DOp X (compareOp .In) (inW id) :=
  dop_inG SeqAt.in_list_reads SeqAt.in_tuple_reads (fun I g r h => d_in (by omega) I g r h) hu
theorem dop_notin {X : Cx} (hu : X.A.units + 65 < cLine) : DOp X (compareOp .NotIn) (inW not) :=
  dop_inG SeqAt.notIn_list_reads SeqAt.notIn_tuple_reads (fun I g r h => d_notIn (by omega) I g r h) hu

/-! ### methods -/
def tyW (S : Hs) (T : String) (w : W) : Bool := match w with
  | .str _ => T == "str"
  | .ref i => match S[i]? with
    | some (.lst _) => T == "list"
    | some (.dic _) => T == "dict"
    | _ => false
  | .fro _ => T == "list"
  | _ => false
theorem tyW_at {K : PySem.W.Frag} {cl : Cla} {ι : Nat → Addr} {S : Hs} {H : Hp} {T : String} {w : W} {v : V} (r : Rel K cl ι S H) (h : Rep K ι S.length H w v) (e : tyW S T w = true) : tyV K T v H := by
  cases h with
  | str x => exact eq_of_beq e
  | ref hi =>
    rename_i i
    have e' : (match S[i]? with | some (.lst _) => T == "list" | some (.dic _) => T == "dict" | _ => false) = true := e
    split at e'
    · rename_i q
      obtain ⟨vs, h1, h2⟩ := lst_at r q
      exact .inl ⟨eq_of_beq e', vs, .inl (.inl h1)⟩
    · rename_i q
      obtain ⟨kv, h1, h2⟩ := r.obj _ _ q
      exact .inr (.inr (.inl ⟨eq_of_beq e', .inl ⟨_, h1⟩⟩))
    · cases e'
  | fro ht hr => exact .inl ⟨eq_of_beq e, _, ht.sq⟩
  | _ => cases e
def DMeth (X : Cx) (id : String) (g : W → List W → Hs → R W) : Prop :=
  ∀ (pins : List (Addr × Obj)) (s : Shared) (σ : L2.St) (cl : Cla) (ι : Nat → Addr) (S : Hs) (H : Hp) (x : W) (ws : List W) (a : V) (vs : List V) (v : Value) (us : List Value) (Q : VK) (E : XK), Inv X pins σ H s → Rel X.K cl ι S H → Rep X.K ι S.length H x a → Reps X.K ι S.length H ws vs → RelV a v → Vals vs us →
    Res X.K cl (RV X.K) ι S H (g x ws S) Q E → wpAny (model X.prog X.w) X.A (call (.builtin id) (v :: us)) (EP X pins σ Q) X.xe s
def rM (K : PySem.W.Frag) (g : W → List W → Hs → R W) : V → List V → Hp → VK → Prop := fun a vs H Q => ∃ (cl : Cla) (ι : Nat → Addr) (S : Hs) (x : W) (ws : List W) (E : XK), Rel K cl ι S H ∧ Rep K ι S.length H x a ∧ Reps K ι S.length H ws vs ∧ Res K cl (RV K) ι S H (g x ws S) Q E
def dmeth (T : String) (g : W → List W → Hs → R W) (o : DE) (t : DA) : DE := fun sw S => (o sw S).bind fun x S1 => if tyW S1 T x = true then (t sw S1).bind fun ws S2 => g x ws S2 else .bad
def GM (K : PySem.W.Frag) (r : V → List V → Hp → VK → Prop) (g : W → List W → Hs → R W) : Prop :=
  ∀ (cl : Cla) (ι : Nat → Addr) (S : Hs) (H : Hp) (x : W) (ws : List W) (a : V) (vs : List V) (Q : VK) (E : XK), Rel K cl ι S H → Rep K ι S.length H x a → Reps K ι S.length H ws vs → Res K cl (RV K) ι S H (g x ws S) Q E → r a vs H Q
section
variable {X : Cx} {cl : Cla} {Wx : L2.WX} {o e : Expr} {es : List Expr} {fo : DE} {t : DA} {name : Str} {apos cpos : Pos} {T id : String} {g : W → List W → Hs → R W}
theorem DMeth.r (h : DMeth X id g) : MtR X id (rM X.K g) := by
  intro pins s σ H a vs v us Q I ra rv q
  obtain ⟨cl, ι, S, x, ws, E, R, rx, rw_, q⟩ := q
  exact h pins s σ cl ι S H x ws a vs v us Q E I R rx rw_ ra rv q
theorem DMeth.of {r : V → List V → Hp → VK → Prop} (h : MtR X id r) (hg : GM X.K r g) : DMeth X id g := fun pins s σ cl ι S H x ws a vs v us Q E I R rx rw_ ra rv q => h pins s σ H a vs v us Q I ra rv (hg cl ι S H x ws a vs Q E R rx rw_ q)
theorem t_meth {K : PySem.W.Frag} {σ : L2.St} {H : Hp} {Q : VK} (h : tE K cl Wx (dmeth T g fo t) σ H Q) : tBM K T (rM K g) (tE K cl Wx fo) (tA K cl Wx t) σ H Q := by
  obtain ⟨ι, S, sw, A, h⟩ := h
  refine ⟨ι, S, sw, A, Res.imp (Res.split (RA := RV K) h) fun x H1 ⟨ι1, S1, w1, g1, r1, _, h1⟩ => ?_⟩
  by_cases ht : tyW S1 T w1 = true
  · simp only [if_pos ht] at h1
    refine ⟨tyW_at g1.rel r1 ht, ι1, S1, sw, A.go g1, Res.imp (Res.split (RA := RVs K) h1) fun y H2 ⟨ι2, S2, w2, g2, r2, _, h2⟩ => ?_⟩
    exact ⟨cl, ι2, S2, w1, w2, _, g2.rel, r1.go g1.rel g2, r2, h2⟩
  · simp only [if_neg ht] at h1
    exact h1.elim
theorem d_meth (hm : DMeth X id g) (pa : PlainAttrs T) (slot : Slot T name id) (hty : typeOf (.builtin id) = pure (.type "method_descriptor")) (ho : PE X o (tE X.K cl Wx fo)) (ha : PA X (e :: es) (tA X.K cl Wx t))
    (hbase : attributeBase o name X.env (eval o X.env) = eval o X.env := by rfl)
    (hfew : ((backTo cpos (starEach (e :: es) X.env)).all (fun x => !x.1) && (backToKw cpos (keywordEach [] X.env)).all (fun x => x.1.isSome)
      && decide ((e :: es).length + ([] : List Keyword).length + (if ([] : List Keyword).isEmpty then 0 else 1) < 30)) = true := by rfl)
    (hline : (apos.endLine == cpos.line) = true := by rfl) (hs : starEach (e :: es) X.env = (false, eval e X.env) :: starEach es X.env := by rfl) (hplain : (backTo cpos (starEach es X.env)).any (·.1) = false := by rfl) :
    PE X (.Call (.Attribute o name apos) (e :: es) [] cpos) (tE X.K cl Wx (dmeth T g fo t)) :=
  (pe_bm pa slot hty hm.r ho ha hbase hfew hline hs hplain).dimp fun _ _ _ => t_meth
theorem t_meth0 {K : PySem.W.Frag} {σ : L2.St} {H : Hp} {Q : VK} (h : tE K cl Wx (dmeth T g fo fun _ S => .ok [] S) σ H Q) : tBM0 K T (rM K g) (tE K cl Wx fo) σ H Q := by
  obtain ⟨ι, S, sw, A, h⟩ := h
  refine ⟨ι, S, sw, A, Res.imp (Res.split (RA := RV K) h) fun x H1 ⟨ι1, S1, w1, g1, r1, _, h1⟩ => ?_⟩
  by_cases ht : tyW S1 T w1 = true
  · simp only [if_pos ht] at h1
    exact ⟨tyW_at g1.rel r1 ht, cl, ι1, S1, w1, [], _, g1.rel, r1, .nil, h1⟩
  · simp only [if_neg ht] at h1
    exact h1.elim
theorem d_meth0 (hm : DMeth X id g) (pa : PlainAttrs T) (slot : Slot T name id) (hty : typeOf (.builtin id) = pure (.type "method_descriptor")) (ho : PE X o (tE X.K cl Wx fo))
    (hbase : attributeBase o name X.env (eval o X.env) = eval o X.env := by rfl) (hline : (apos.endLine == cpos.line) = true := by rfl) :
    PE X (.Call (.Attribute o name apos) [] [] cpos) (tE X.K cl Wx (dmeth T g fo fun _ S => .ok [] S)) :=
  (pe_bm0 pa slot hty hm.r ho hbase hline).dimp fun _ _ _ => t_meth0
end
end DL

set_option Elab.async false
set_option linter.all false
set_option maxRecDepth 100000
/-! DL20: the methods of lists and dicts. -/
namespace DL
open PySem PySem.Spec PyProof.Rows L2

theorem Kpt.upd {K : PySem.W.Frag} {cl : Cla} {ι : Nat → Addr} {S : Hs} {H : Hp} (r : Rel K cl ι S H) {n : Nat} (hn : n < S.length) (u : HO) : Kpt H (upd H (ι n) u) := fun a u k e => by rw [upd_ne (r.tupOff k e n hn)]; exact e
/-- a list written anew -/
theorem Rel.relist {K : PySem.W.Frag} {cl : Cla} {ι : Nat → Addr} {S : Hs} {H : Hp} (r : Rel K cl ι S H) {n : Nat} {ws : List W} {vs : List V} (hn : n < S.length) (h : Reps K ι S.length H ws vs) : Go K cl ι S H ι (S.set n (.lst ws)) (upd H (ι n) (.lst vs)) :=
  r.write hn ⟨_, upd_same, h.mono (Nat.le_refl _) (fun _ _ => rfl) (Kpt.upd r hn _)⟩
theorem Reps.dropLast {K : PySem.W.Frag} {ι : Nat → Addr} {n : Nat} {H : Hp} {ws : List W} {vs : List V} (h : Reps K ι n H ws vs) : Reps K ι n H ws.dropLast vs.dropLast := by
  induction ws generalizing vs with
  | nil => cases h; exact .nil
  | cons w r ih =>
    cases h with
    | cons a b =>
      cases r with
      | nil => cases b; exact .nil
      | cons x y =>
        cases b with
        | cons c d => exact .cons a (ih (.cons c d))
def appendW (x : W) (ws : List W) (S : Hs) : R W := match x, ws with
  | .ref i, [w] => match S[i]? with
    | some (.lst xs) => if xs.length < sizeLine then .ok .non (S.set i (.lst (xs ++ [w]))) else .bad
    | _ => .bad
  | _, _ => .bad
def extendW (x : W) (ws : List W) (S : Hs) : R W := match x, ws with
  | .ref i, [.ref j] => match S[i]?, S[j]? with
    | some (.lst xs), some (.lst ys) => if xs.length + ys.length ≤ sizeLine then .ok .non (S.set i (.lst (xs ++ ys))) else .bad
    | _, _ => .bad
  | _, _ => .bad
def popW (x : W) (ws : List W) (S : Hs) : R W := match x, ws with
  | .ref i, [] => match S[i]? with
    | some (.lst xs) => match xs[xs.length - 1]? with
      | some y => .ok y (S.set i (.lst xs.dropLast))
      | none => .bad
    | _ => .bad
  | .ref i, [.int k] => match S[i]? with
    | some (.lst xs) => if -9223372036854775808 ≤ k ∧ k < 9223372036854775808 then match seqIndex? k xs.length with
        | some j => match xs[j]? with
          | some y => .ok y (S.set i (.lst (xs.eraseIdx j)))
          | none => .bad
        | none => .bad
      else .bad
    | _ => .bad
  | _, _ => .bad
def countW (x : W) (ws : List W) (S : Hs) : R W := match ws with
  | [.int k] => match lstOf S x with
    | some xs => match intsW xs with
      | some ns => .ok (.int (ns.count k : Nat)) S
      | none => .bad
    | none => .bad
  | _ => .bad
def removeW (x : W) (ws : List W) (S : Hs) : R W := match x, ws with
  | .ref i, [.int k] => match S[i]? with
    | some (.lst xs) => match intsW xs with
      | some ns => if ns.idxOf k < ns.length then .ok .non (S.set i (.lst (xs.eraseIdx (ns.idxOf k)))) else .bad
      | none => .bad
    | _ => .bad
  | _, _ => .bad
def clearW (x : W) (ws : List W) (S : Hs) : R W := match x, ws with
  | .ref i, [] => match S[i]? with
    | some (.lst xs) => .ok .non (S.set i (.lst []))
    | _ => .bad
  | _, _ => .bad
/-- the first place of an equal one -/
def firstW (d : PyData) : List PyData → Nat → Option Nat
  | [], _ => none
  | z :: r, j => if PyData.eqv z d = true then some j else firstW d r (j + 1)
theorem firstW_some {d : PyData} : ∀ {ds : List PyData} {i j : Nat}, firstW d ds i = some j → ∃ m z, j = i + m ∧ ds[m]? = some z ∧ PyData.eqv z d = true ∧ ∀ (l : Nat) (z' : PyData), l < m → ds[l]? = some z' → PyData.eqv z' d = false
  | [], _, _, e => by cases e
  | z :: r, i, j, e => by
    unfold firstW at e
    split at e
    · rename_i h
      cases e
      exact ⟨0, z, rfl, rfl, h, fun l _ h => absurd h (Nat.not_lt_zero _)⟩
    · rename_i h
      obtain ⟨m, y, e1, e2, e3, e4⟩ := firstW_some e
      refine ⟨m + 1, y, by omega, by simpa using e2, e3, fun l z' hl e5 => ?_⟩
      cases l with
      | zero => cases e5; exact Bool.eq_false_iff.mpr h
      | succ l => exact e4 l z' (by omega) (by simpa using e5)
def indexW (x : W) (ws : List W) (S : Hs) : R W := match ws with
  | [y] => match lstOf S x, toD S dataDepth y with
    | some xs, some d => match toDs (toD S dataDepth) xs with
      | some ds => if SeqAt.shaped d = true ∧ SeqAt.shaped (.list ds) = true then match firstW d ds 0 with
          | some j => .ok (.int j) S
          | none => .bad
        else .bad
      | none => .bad
    | _, _ => .bad
  | _ => .bad
section
variable {X : Cx}
theorem m_append : DMeth X "list.append" appendW := .of mt_append fun cl ι S H x ws a vs Q E r rx rw_ h => by
  unfold appendW at h
  split at h
  · split at h
    · rename_i w xs q1
      split at h
      · rename_i hz
        obtain ⟨rfl, hn⟩ := rx.ref_inv
        obtain ⟨v, rfl, r1⟩ := rw_.one
        obtain ⟨ys, h1, h2⟩ := lst_at r q1
        refine ⟨_, ys, v, rfl, rfl, h1, by rw [← h2.length]; exact hz, ?_⟩
        exact h _ _ _ (r.relist hn (h2.append (.cons r1 .nil))) .non
      · exact h.elim
    · exact h.elim
  · exact h.elim
theorem m_extend : DMeth X "list.extend" extendW := .of mt_extend fun cl ι S H x ws a vs Q E r rx rw_ h => by
  unfold extendW at h
  split at h
  · split at h
    · rename_i i j xs ys q1 q2
      split at h
      · rename_i hz
        obtain ⟨rfl, hn⟩ := rx.ref_inv
        obtain ⟨v, rfl, r1⟩ := rw_.one
        obtain ⟨rfl, hj⟩ := r1.ref_inv
        obtain ⟨us, h1, h2⟩ := lst_at r q1
        obtain ⟨ts, h3, h4⟩ := lst_at r q2
        refine ⟨_, _, us, ts, rfl, rfl, h1, h3, by rw [← h2.length, ← h4.length]; exact hz, ?_⟩
        exact h _ _ _ (r.relist hn (h2.append h4)) .non
      · exact h.elim
    · exact h.elim
  · exact h.elim
theorem m_pop : DMeth X "list.pop" popW := .of (MtR.or mt_pop mt_popAt) fun cl ι S H x ws a vs Q E r rx rw_ h => by
  unfold popW at h
  split at h
  · split at h
    · rename_i xs q1
      split at h
      · rename_i y q2
        obtain ⟨rfl, hn⟩ := rx.ref_inv
        cases rw_
        obtain ⟨us, h1, h2⟩ := lst_at r q1
        obtain ⟨v, e1, r1⟩ := h2.get q2
        refine .inl ⟨_, us, v, rfl, rfl, h1, by rw [← h2.length]; exact e1, ?_⟩
        have g := r.relist hn h2.dropLast
        exact h _ _ _ g (r1.go r g)
      · exact h.elim
    · exact h.elim
  · split at h
    · rename_i xs q1
      split at h
      · rename_i hb
        split at h
        · rename_i j q3
          split at h
          · rename_i y q2
            obtain ⟨rfl, hn⟩ := rx.ref_inv
            obtain ⟨v, rfl, r0⟩ := rw_.one
            cases r0
            obtain ⟨us, h1, h2⟩ := lst_at r q1
            obtain ⟨v, e1, r1⟩ := h2.get q2
            refine .inr ⟨_, us, _, j, v, rfl, rfl, h1, hb.1, hb.2, by rw [← h2.length]; exact q3, e1, ?_⟩
            have g := r.relist hn (h2.eraseIdx j)
            exact h _ _ _ g (r1.go r g)
          · exact h.elim
        · exact h.elim
      · exact h.elim
    · exact h.elim
  · exact h.elim
theorem m_count : DMeth X "list.count" countW := .of mt_lcount fun cl ι S H x ws a vs Q E r rx rw_ h => by
  unfold countW at h
  split at h
  · split at h
    · rename_i e
      split at h
      · rename_i e2
        obtain ⟨v, rfl, r0⟩ := rw_.one
        cases r0
        obtain ⟨l, us, rfl, h1, r1⟩ := lstOf_at r rx e
        have := intsW_rep r1 e2
        subst this
        exact ⟨_, _, _, rfl, rfl, h1.sq, Res.ok h r (.int _)⟩
      · exact h.elim
    · exact h.elim
  · exact h.elim
theorem m_clear : DMeth X "list.clear" clearW := .of mt_clear fun cl ι S H x ws a vs Q E r rx rw_ h => by
  unfold clearW at h
  split at h
  · split at h
    · rename_i xs q1
      obtain ⟨rfl, hn⟩ := rx.ref_inv
      cases rw_
      obtain ⟨us, h1, h2⟩ := lst_at r q1
      exact ⟨_, us, rfl, rfl, h1, h _ _ _ (r.relist hn .nil) .non⟩
    · exact h.elim
  · exact h.elim
theorem map_erase {α β : Type} (f : α → β) : ∀ (l : List α) (k : Nat), (l.map f).eraseIdx k = (l.eraseIdx k).map f
  | [], _ => rfl
  | _ :: _, 0 => rfl
  | a :: l, k + 1 => by
    show f a :: (l.map f).eraseIdx k = f a :: (l.eraseIdx k).map f
    rw [map_erase f l k]
theorem m_remove : DMeth X "list.remove" removeW := .of mt_remove fun cl ι S H x ws a vs Q E r rx rw_ h => by
  unfold removeW at h
  split at h
  · split at h
    · rename_i k _ xs q1
      split at h
      · rename_i ns e2
        split at h
        · rename_i hl
          obtain ⟨rfl, hn⟩ := rx.ref_inv
          obtain ⟨v, rfl, r0⟩ := rw_.one
          cases r0
          obtain ⟨us, h1, h2⟩ := lst_at r q1
          have := intsW_rep h2 e2
          subst this
          refine ⟨_, ns, k, ns.idxOf k, rfl, rfl, h1, ?_, fun m hm e => ?_, ?_⟩
          · rw [List.getElem?_eq_getElem hl, List.getElem_idxOf hl]
          · have hm2 : m < ns.length := Nat.lt_trans hm hl
            rw [List.getElem?_eq_getElem hm2] at e
            have e' : ns[m] = k := by injection e
            have := List.not_of_lt_findIdx (p := (· == k)) (xs := ns) (i := m) hm
            simp [e'] at this
          · rw [← map_erase]
            exact h _ _ _ (r.relist hn (h2.eraseIdx _)) .non
        · exact h.elim
      · exact h.elim
    · exact h.elim
  · exact h.elim
theorem m_index (hu : X.A.units + 65 < cLine) : DMeth X "list.index" indexW := by
  intro pins s σ cl ι S H x ws a vs v us Q E I R rx rw_ ra rv h
  unfold indexW at h
  split at h
  · rename_i y
    split at h
    · rename_i xs d e1 e2
      split at h
      · rename_i ds e3
        split at h
        · rename_i hs
          split at h
          · rename_i j e4
            obtain ⟨v1, rfl, r1⟩ := rw_.one
            obtain ⟨l, ys, rfl, h1, r2⟩ := lstOf_at R rx e1
            cases ra
            obtain ⟨u1, rfl, ru⟩ := vals1 rv
            obtain ⟨bs, q1⟩ := reads_of I R _ y v1 _ d r1 ru e2
            obtain ⟨its, n, rv2, ho, hz⟩ := lstRaw I h1
            obtain ⟨as, q2⟩ := reads_all (fun w v u d => reads_of I R _ w v u d) xs _ its ds r2 rv2 e3
            obtain ⟨m, z, ej, hz1, hz2, hno⟩ := firstW_some e4
            have hxs : PyData.canLayAll0 ds = true := SeqAt.canLay_of_shaped hs.2
            have hroom : X.A.units + 1 + min (PyData.depthAll ds) d.depth < cLine := room_in_shaped hs.1 hu
            have ejm : j = m := by omega
            subst ejm
            have hn : its.length = ds.length := SeqAt.ReadsAll.length ds its as q2
            have hmap : its.map (SeqAt.readOf s.heap) = ds := SeqAt.readsAll_map ds its as hxs q2
            have hvl := rv2.length
            have hsl := sizeLine_eq
            obtain ⟨hjd, _⟩ := List.getElem?_eq_some_iff.mp hz1
            have hjl : j < its.length := by omega
            have hj : j < its.toArray.size := by simpa using hjl
            have at_ : ∀ (m : Nat) (hm : m < its.toArray.size) (z' : PyData), ds[m]? = some z' → SeqAt.readOf s.heap its.toArray[m] = z' := by
              intro m hm z' hz'
              have hml : m < its.length := by simpa using hm
              rw [← hmap, List.getElem?_map, List.getElem?_eq_getElem hml] at hz'
              have e1 : SeqAt.readOf s.heap its[m] = z' := Option.some.inj (show some (SeqAt.readOf s.heap its[m]) = some z' from hz')
              simpa using e1
            refine call_meets PySem.F.slot_list_index ⟨_, ho, rfl⟩ PySem.F.entry_list_index (PySem.F.args_list_index_2 _ _)
              (SeqAt.list_indexAt l its.toArray n none #[] u1 (fun u => PyData.eqv (SeqAt.readOf s.heap u) d) j hj (by omega) ?_ ?_) ⟨ho, SeqAt.items_eqAt (vs := its.toArray) (show ReadsAll s.heap its.toArray.toList ds as from q2) q1 hxs (SeqAt.canLay_of_shaped hs.1) hroom, ?_⟩
            · show PyData.eqv (SeqAt.readOf s.heap its.toArray[j]) d = true
              rw [at_ j hj z hz1]
              exact hz2
            · intro m hm hmj
              have hmd : m < ds.length := by omega
              have hz' : ds[m]? = some ds[m] := List.getElem?_eq_getElem hmd
              show PyData.eqv (SeqAt.readOf s.heap its.toArray[m]) d = false
              rw [at_ m hm _ hz']
              exact hno m _ hmj hz'
            · exact ⟨.int (j : Nat), H, I.tok _, ⟨_, rfl⟩, Res.ok h R (.int _)⟩
          · exact h.elim
        · exact h.elim
      · exact h.elim
    · exact h.elim
  · exact h.elim
end
end DL

set_option Elab.async false
set_option linter.all false
set_option maxRecDepth 100000
/-! DL21: targets with a star; repr. -/
namespace DL
open PySem PySem.Spec PyProof.Rows L2

theorem star_unpack {prog : Program} {w : World} {A : Around} {E : Value → Shared → Prop} {s : Shared} {l : Addr} {items : Array Value} {n i : Nat} {Q : List Value → Shared → Prop} (hl : IsTup s.heap l items) (hh : A.handled = none) (hi : i < n) (hn : n ≤ items.size + 1) (hz : items.size ≤ sizeLine)
    (h : ∀ (h' : Heap) (tk : Nat), (∀ b o, s.heap.get? b = some o → h'.get? b = some o) → Q (items.toList.take i ++ [.ref h'.objs.size] ++ (items.toList.drop i).drop (items.size + 1 - n)) { s with heap := h'.push { cls := .type "list", data := .seq ((items.toList.drop i).take (items.size + 1 - n)).toArray }, toks := tk }) :
    wpAny (model prog w) A (unpackItems (.ref l) n (some i)) Q E s := by
  have hlt : l ≠ s.heap.objs.size := by obtain ⟨o, ho, _⟩ := hl; exact Nat.ne_of_lt (Heap.lt_size ho)
  have hll : l < s.heap.objs.size := by obtain ⟨o, ho, _⟩ := hl; exact Heap.lt_size ho
  unfold unpackItems
  refine wpAny_bind ?_
  unfold notIterableAtAll
  refine wpAny_bind (wpAny_specialOf hl.typeIs PySem.F.slot_tuple_iter.lookup ?_)
  refine wpAny_pure ?_
  simp only [Bool.false_eq_true, if_false]
  refine wpAny_bind (wpAny_holding (iter_tuple hl ?_))
  refine wpAny_bind (wpAny_holding (draw_tuple hlt i 0 _ _ ⟨_, Heap.get?_push_size _ rfl, rfl, rfl⟩ (hl.push _) (by omega) fun h₁ hit₁ hs₁ => ?_))
  have hl₁ : IsTup h₁ l items := (hl.push _).extBut hs₁.extBut hlt
  rw [Nat.zero_add] at hit₁
  have hit₁' := hit₁
  obtain ⟨oi, hoi, _⟩ := hit₁'
  have hl₁' := hl₁
  obtain ⟨ol, hol, _⟩ := hl₁'
  rw [List.drop_zero]
  have hfl : (items.toList.take i).length = i := by rw [List.length_take, Array.length_toList]; omega
  rw [if_neg (show ¬ ((items.toList.take i).length < i) by rw [hfl]; omega)]
  refine wpAny_bind (wpAny_holding (PySem.W.kun_collect (s := { s with heap := h₁ }) (T := "tuple_iterator") (.inr (.inr (.inr rfl))) (Walks.tuple (A := A.in1) hh s.heap.objs.size l hlt items) (fun j u st => st.1.typeIs) (k := i) (by omega) ⟨hit₁, hl₁⟩ (Heap.lt_size hoi) (Heap.lt_size hol) (fun h₂ tk hk => ?_) hz))
  have hrl : (items.toList.drop i).length = items.size - i := by rw [List.length_drop, Array.length_toList]
  have hmid : (items.toList.drop i).length - (n - 1 - i) = items.size + 1 - n := by rw [hrl]; omega
  show wpAny _ _ (if (items.toList.drop i).length < n - 1 - i then _ else _) _ _ _
  rw [if_neg (by rw [hrl]; omega)]
  show wpAny _ _ (newList ((items.toList.drop i).take ((items.toList.drop i).length - (n - 1 - i))) >>= fun d => pure (items.toList.take i ++ [d] ++ (items.toList.drop i).drop ((items.toList.drop i).length - (n - 1 - i)))) _ _ _
  rw [hmid]
  have he : ∀ b o, s.heap.get? b = some o → h₂.get? b = some o := fun b o e => hk b o (Nat.ne_of_lt (Heap.lt_size e)) (hs₁.extBut b o (Nat.ne_of_lt (Heap.lt_size e)) (Heap.get?_push_of_some _ e))
  exact wpAny_bind (wpAny_newList (wpAny_pure (h _ tk he)) (by rw [List.length_take, hrl]; omega))

def gStar (K : PySem.W.Frag) (n i : Nat) (t : TGs) : TG := fun v σ H Q => ∃ a xs, v = .ref a ∧ SqT K H a xs ∧ n ≤ xs.length + 1 ∧ ∀ p, H p = none → t (xs.take i ++ [.ref p] ++ (xs.drop i).drop (xs.length + 1 - n)) σ (upd H p (.lst ((xs.drop i).take (xs.length + 1 - n)))) Q
theorem vals_take : ∀ {xs : List V} {us : List Value} (n : Nat), Vals xs us → Vals (xs.take n) (us.take n)
  | _, _, 0, _ => .nil
  | _, _, n + 1, .nil => .nil
  | _, _, n + 1, .cons a b => .cons a (vals_take n b)
theorem vals_drop : ∀ {xs : List V} {us : List Value} (n : Nat), Vals xs us → Vals (xs.drop n) (us.drop n)
  | _, _, 0, h => h
  | _, _, n + 1, .nil => .nil
  | _, _, n + 1, .cons a b => vals_drop n b
section
variable {X : Cx} {pos : Pos}
theorem pgs_star {e : Expr} {p : Pos} {es : List Expr} {t : TG} {u : TGs} (h1 : PG X e t) (h2 : PGs X es u)
    (hs : (assignEach (.Starred e p :: es) X.env).map (·.2) = assign e X.env :: (assignEach es X.env).map (·.2) := by rfl) : PGs X (.Starred e p :: es) (gCons t u) := by
  refine ⟨fun pins s σ H vs us Q I r h => ?_⟩
  obtain ⟨v, vr, e1, h⟩ := h
  subst e1
  cases r with
  | cons r rr =>
    rw [hs]
    refine assignInOrder_cons (thn (h1.run pins s σ H _ _ _ I r h) fun _ s1 ⟨σ1, H1, I1, q1⟩ => ?_)
    exact h2.run pins s1 σ1 H1 _ _ Q I1 rr q1
theorem pg_star {es : List Expr} {k : Nat} {t : TGs} {n i : Nat} (hc : X.calm = true) (h : PGs X es t)
    (hn : (assignEach es X.env).length = n) (hst : (assignEach es X.env).findIdx? (·.1) = some i) (hi : i < n) : PG X (.Tuple es k pos) (gStar X.K n i t) := by
  refine ⟨fun pins s σ H v u Q I r hw => ?_⟩
  obtain ⟨a, xs, e1, hq, hl, hw⟩ := hw
  subst e1
  cases r
  obtain ⟨its, rv, ht, hz⟩ := I.tuple hq
  have hlen := rv.length
  rw [assign_Tuple]
  refine wpAny_bind (wpAny_standAt ?_)
  unfold unpack
  rw [hn, hst]
  refine wpAny_bind (wpAny_holding (star_unpack ht (I.ok.hd hc) hi (by simp only [List.size_toArray]; omega) (by simpa [hlen] using hz) fun h' tk hk => ?_))
  have I1 : Inv X pins σ H { s with heap := h', toks := tk } := I.kept (t' := tk) hk
  have hm : Vals ((xs.drop i).take (xs.length + 1 - n)) (((its.toArray.toList.drop i).take (its.toArray.size + 1 - n))) := by
    simp only [List.size_toArray, hlen]
    exact vals_take _ (vals_drop _ rv)
  have hzz : ((xs.drop i).take (xs.length + 1 - n)).length ≤ sizeLine := Nat.le_trans (by rw [List.length_take, List.length_drop]; omega) hz
  refine h.run pins _ σ _ _ _ Q (I1.lnew (t' := tk) hm hzz) ?_ (hw _ I1.fresh)
  have hr : Vals ((xs.drop i).drop (xs.length + 1 - n)) ((its.toArray.toList.drop i).drop (its.toArray.size + 1 - n)) := by
    simp only [List.size_toArray, hlen]
    exact vals_drop _ (vals_drop _ rv)
  exact ((vals_take i rv).append (.cons (show L2.RelV (.ref h'.objs.size) (.ref h'.objs.size) from rfl) .nil)).append hr
/-- (*a, b, ..) of a tuple -/
def gstar (n i : Nat) (r : DGs) : DG := fun w sw S => match w with
  | .tup ws => if n ≤ ws.length + 1 then r (ws.take i ++ [.ref S.length] ++ (ws.drop i).drop (ws.length + 1 - n)) sw (S ++ [.lst ((ws.drop i).take (ws.length + 1 - n))]) else .bad
  | _ => .bad
variable {cl : Cla} {P : SPr} {e : Expr} {es : List Expr} {g : DG} {gs : DGs}
theorem x_gstar {p : Pos} (h1 : PG X e (tG X.K cl P g)) (h2 : PGs X es (tGs X.K cl P gs)) (hs : (assignEach (.Starred e p :: es) X.env).map (·.2) = assign e X.env :: (assignEach es X.env).map (·.2) := by rfl) : PGs X (.Starred e p :: es) (tGs X.K cl P (ggcons g gs)) :=
  (pgs_star h1 h2 hs).dimp fun v σ H Q h => t_gcons h
theorem x_star {k n i : Nat} (hc : X.calm = true) (h : PGs X es (tGs X.K cl P gs)) (hn : (assignEach es X.env).length = n := by rfl) (hst : (assignEach es X.env).findIdx? (·.1) = some i := by rfl) (hi : i < n := by decide) :
    PG X (.Tuple es k pos) (tG X.K cl P (gstar n i gs)) := (pg_star hc h hn hst hi).dimp fun v σ H Q h => by
  obtain ⟨ι, S, sw, w, A, r, h⟩ := h
  cases w with
  | tup ws =>
    obtain ⟨a, vs, rfl, t1, t2⟩ := r.tup_inv
    have hl := t2.length
    unfold gstar at h
    by_cases hq : n ≤ ws.length + 1
    · simp only [if_pos hq] at h
      refine ⟨a, vs, rfl, t1.sq, by omega, fun p hp => ?_⟩
      have hm : Reps X.K ι S.length H ((ws.drop i).take (ws.length + 1 - n)) ((vs.drop i).take (vs.length + 1 - n)) := by rw [hl]; exact (t2.drop i).take _
      obtain ⟨g1, rp⟩ := A.rel.newL hp hm
      refine ⟨_, _, sw, ws.take i ++ [.ref S.length] ++ (ws.drop i).drop (ws.length + 1 - n), A.go g1, ?_, ?_⟩
      · have h3 : Reps X.K ι S.length H ((ws.drop i).drop (ws.length + 1 - n)) ((vs.drop i).drop (vs.length + 1 - n)) := by rw [hl]; exact (t2.drop i).drop _
        exact (((t2.take i).go A.rel g1).append (.cons rp .nil)).append (h3.go A.rel g1)
      · split at h
        · exact fun ι' σ' H' gg => h ι' σ' H' (g1.trans gg)
        · exact h.elim
    · simp only [if_neg hq] at h
  | _ => exact h.elim
end
end DL

set_option Elab.async false
set_option linter.all false
set_option maxRecDepth 100000
/-! DL22: repr, str, isinstance, list(range). -/
namespace DL
open PySem PySem.Spec PyProof.Rows L2

/-- the table of modules is a dict that is not empty -/
def smB (K : PySem.W.Frag) : Bool := match K.lookup sysModules with
  | some o => match o.data with
    | .dict es _ => !es.toList.isEmpty
    | _ => false
  | none => false
section
variable {X : Cx} {pins : List (Addr × Obj)} {σ : L2.St} {s : Shared} {cl : Cla} {ι : Nat → Addr} {S : Hs} {H : Hp}
theorem reads_allX {f : W → Option PyData} {n : Nat} (hf : ∀ (w : W) (v : V) (u : Value) (d : PyData), Rep X.K ι n H w v → RelV v u → f w = some d → ∃ as, Reads s.heap u d as ∧ sysModules ∉ as) :
    ∀ (ws : List W) (vs : List V) (us : List Value) (ds : List PyData), Reps X.K ι n H ws vs → Vals vs us → toDs f ws = some ds → ∃ as, ReadsAll s.heap us ds as ∧ sysModules ∉ as
  | [], _, _, _, h, r, e => by cases h; cases r; cases e; exact ⟨_, .nil, List.not_mem_nil⟩
  | w :: ws, _, _, _, h, r, e => by
    cases h with
    | cons h1 h2 =>
      cases r with
      | cons r1 r2 =>
        unfold toDs at e
        split at e
        · rename_i d ds e1 e2
          cases e
          obtain ⟨as, q1, n1⟩ := hf w _ _ d h1 r1 e1
          obtain ⟨bs, q2, n2⟩ := reads_allX hf ws _ _ ds h2 r2 e2
          exact ⟨_, .cons q1 q2, fun m => (List.mem_append.mp m).elim n1 n2⟩
        · cases e
theorem noSeq_ (hs : ∃ (o : Obj) (es : Array DictEntry) (ep : Nat), s.heap.get? sysModules = some o ∧ o.data = .dict es ep ∧ es.toList ≠ []) {a : Addr} {o : Obj} (ho : s.heap.get? a = some o) (hn : ∀ es ep, o.data ≠ .dict es ep) : sysModules ≠ a := fun e => by
  obtain ⟨o', es, ep, h1, h2, _⟩ := hs
  rw [e, ho] at h1
  cases h1
  exact hn _ _ h2
theorem noDic_ (hs : ∃ (o : Obj) (es : Array DictEntry) (ep : Nat), s.heap.get? sysModules = some o ∧ o.data = .dict es ep ∧ es.toList ≠ []) {a : Addr} {o : Obj} {es : Array DictEntry} {ep : Nat} (ho : s.heap.get? a = some o) (hd : o.data = .dict es ep) (he : es.toList = []) : sysModules ≠ a := fun e => by
  obtain ⟨o', es', ep', h1, h2, h3⟩ := hs
  rw [e, ho] at h1
  cases h1
  rw [hd] at h2
  cases h2
  exact h3 he
theorem reads_ofX (hs : ∃ (o : Obj) (es : Array DictEntry) (ep : Nat), s.heap.get? sysModules = some o ∧ o.data = .dict es ep ∧ es.toList ≠ []) (I : Inv X pins σ H s) (R : Rel X.K cl ι S H) : ∀ (k : Nat) (w : W) (v : V) (u : Value) (d : PyData), Rep X.K ι S.length H w v → RelV v u → toD S k w = some d → ∃ as, Reads s.heap u d as ∧ sysModules ∉ as := by
  have noSeq : ∀ {a : Addr} {o : Obj}, s.heap.get? a = some o → (∀ es ep, o.data ≠ .dict es ep) → sysModules ≠ a := fun h1 h2 => noSeq_ hs h1 h2
  have noDic : ∀ {a : Addr} {o : Obj} {es : Array DictEntry} {ep : Nat}, s.heap.get? a = some o → o.data = .dict es ep → es.toList = [] → sysModules ≠ a := fun h1 h2 h3 => noDic_ hs h1 h2 h3
  have leaf : ∀ (w : W) (v : V) (u : Value) (d : PyData), Rep X.K ι S.length H w v → RelV v u → toD S 0 w = some d → ∃ as, Reads s.heap u d as ∧ sysModules ∉ as := by
    intro w v u d h r e
    cases h <;> first
      | (cases e; cases r; exact ⟨_, .none, List.not_mem_nil⟩)
      | (cases e; cases r; exact ⟨_, .bool _, List.not_mem_nil⟩)
      | (cases e; obtain ⟨t, rfl⟩ := r; exact ⟨_, .int _ t, List.not_mem_nil⟩)
      | (cases e; obtain ⟨t, rfl⟩ := r; exact ⟨_, .str _ t, List.not_mem_nil⟩)
      | cases e
  intro k
  induction k with
  | zero => exact leaf
  | succ k ih =>
    intro w v u d h r e
    cases h with
    | non => exact leaf _ _ _ _ .non r e
    | bl b => exact leaf _ _ _ _ (.bl b) r e
    | int b => exact leaf _ _ _ _ (.int b) r e
    | str b => exact leaf _ _ _ _ (.str b) r e
    | tup ht hr =>
      rename_i a vs ws
      have e' : (toDs (toD S k) ws).map PyData.tuple = some d := e
      obtain ⟨ds, e1, rfl⟩ := Option.map_eq_some_iff.mp e'
      cases r
      obtain ⟨its, rv, ⟨o, ho, hc, n, hd⟩, _⟩ := I.tuple ht.sq
      obtain ⟨as, q, nm⟩ := reads_allX ih ws _ its ds hr rv e1
      exact ⟨_, .tuple ho hc hd q, nm⟩
    | fro ht hr =>
      rename_i a vs ws
      have e' : (toDs (toD S k) ws).map PyData.list = some d := e
      obtain ⟨ds, e1, rfl⟩ := Option.map_eq_some_iff.mp e'
      cases r
      obtain ⟨its, n, rv, ho, _⟩ := lstRaw I (.inr ht)
      obtain ⟨as, q, nm⟩ := reads_allX ih ws _ its ds hr rv e1
      exact ⟨_, .list ho rfl rfl q, fun m => by
          rcases List.mem_cons.mp m with m | m
          · exact noSeq ho (by intro es ep; simp) m
          · exact nm m⟩
    | ftp ht hr => cases e
    | ref hi =>
      rename_i i
      have e' : (match S[i]? with | some (.lst ws) => (toDs (toD S k) ws).map .list | some (.dic []) => some (.dict []) | _ => none) = some d := e
      cases r
      split at e'
      · rename_i ws q
        obtain ⟨ds, e1, rfl⟩ := Option.map_eq_some_iff.mp e'
        obtain ⟨vs, h1, h2⟩ := lst_at R q
        obtain ⟨its, n, rv, ho, _⟩ := lstRaw I (.inl h1)
        obtain ⟨as, q, nm⟩ := reads_allX ih ws _ its ds h2 rv e1
        exact ⟨_, .list ho rfl rfl q, fun m => by
          rcases List.mem_cons.mp m with m | m
          · exact noSeq ho (by intro es ep; simp) m
          · exact nm m⟩
      · rename_i q
        cases e'
        obtain ⟨kvs, h1, h2, h3⟩ := R.obj _ _ q
        have hk : kvs = [] := by
          cases kvs with
          | nil => rfl
          | cons _ _ => simp at h2
        subst hk
        obtain ⟨_, _, vs, kv, o, es, ep, ho, hx, hd, _, pr, _⟩ := I.hok _ _ h1
        cases kv
        have he : es.toList = [] := by cases q2 : es.toList with
          | nil => rfl
          | cons _ _ => rw [q2] at pr; cases pr
        exact ⟨_, .dict ho hx.1 hd (by rw [he]; exact .nil) (by rw [he]; exact .nil), fun m => by
          simp only [List.append_nil, List.mem_singleton] at m
          exact noDic ho hd he m⟩
      · cases e'
theorem smB_at (hb : smB X.K = true) (I : Inv X pins σ H s) : ∃ (o : Obj) (es : Array DictEntry) (ep : Nat), s.heap.get? sysModules = some o ∧ o.data = .dict es ep ∧ es.toList ≠ [] := by
  unfold smB at hb
  split at hb
  · rename_i o e
    split at hb
    · rename_i es ep e2
      refine ⟨o, es, ep, I.kIn _ _ e, e2, fun z => ?_⟩
      rw [z] at hb; cases hb
    · cases hb
  · cases hb
end
def showD (S : Hs) (w : W) : Option Str := match toD S dataDepth w with
  | some d => if d.showable = true ∧ d.shown.length ≤ sizeLine then some d.shown else none
  | none => none
def reprW : List W → Hs → R W := fun ws S => match ws with
  | [w] => match showD S w with
    | some x => .ok (.str x) S
    | none => .bad
  | _ => .bad
def strW : List W → Hs → R W := fun ws S => match ws with
  | [.int i] => if i.natAbs.log2 < 1920 then .ok (.str (toString i)) S else .bad
  | [.str x] => .ok (.str x) S
  | _ => .bad
section
variable {X : Cx}
theorem c_repr (hb : smB X.K = true) (hg : X.A.guards = some []) (hu : X.A.units + 64 < cLine) : DCall X (.builtin "repr") reprW := by
  intro pins s σ cl ι S H ws vs us Q E I R rw_ rv h
  unfold reprW at h
  split at h
  · rename_i w
    split at h
    · rename_i x e
      unfold showD at e
      split at e
      · rename_i d e1
        split at e
        · rename_i hs
          cases e
          obtain ⟨v, rfl, a⟩ := rw_.one
          obtain ⟨u, rfl, ru⟩ := vals1 rv
          obtain ⟨as, q, nm⟩ := reads_ofX (smB_at hb I) I R _ w v u d a ru e1
          have hd : X.A.units + (d.depth + 1) < cLine := by
            have := toD_depth S _ w d e1
            have q2 : dataDepth = 40 := rfl
            omega
          have fin : ∀ h' tk t', (∀ b o, s.heap.get? b = some o → h'.get? b = some o) → EP X pins σ Q (.str d.shown t') { s with heap := h', toks := tk } := fun h' tk t' hk =>
            ⟨.str _, H, I.kept (t' := tk) hk, ⟨_, rfl⟩, Res.ok h R (.str _)⟩
          cases q with
          | none => exact PySem.P.repr_of_none (fin s.heap _ _ fun _ _ e => e)
          | bool b => exact PySem.P.repr_of_bool (fin s.heap _ _ fun _ _ e => e)
          | int i t => exact PySem.P.repr_of_int (of_decide_eq_true (show decide (i.natAbs.log2 < 1920) = true from hs.1)) (fin s.heap _ _ fun _ _ e => e)
          | str x t => exact PySem.P.repr_of_str (fin s.heap _ _ fun _ _ e => e) hs.2
          | list h1 h2 h3 h4 => exact repr_of_reads' (.list h1 h2 h3 h4) hs.1 (fun z => nm) hg hd (fun _ _ e => e) (fun h' u tk hk => fin h' tk u hk) hs.2
          | tuple h1 h2 h3 h4 => exact repr_of_reads' (.tuple h1 h2 h3 h4) hs.1 (fun z => nm) hg hd (fun _ _ e => e) (fun h' u tk hk => fin h' tk u hk) hs.2
          | dict h1 h2 h3 h4 h5 => exact repr_of_reads' (.dict h1 h2 h3 h4 h5) hs.1 (fun z => nm) hg hd (fun _ _ e => e) (fun h' u tk hk => fin h' tk u hk) hs.2
        · cases e
      · cases e
    · exact h.elim
  · exact h.elim
theorem c_str : DCall X (.type "str") strW := .of (CallR.or call_str_int SkE.call_str_str) fun cl ι S H ws vs Q E r rw_ h => by
  unfold strW at h
  split at h
  · split at h
    · rename_i hz
      obtain ⟨v, rfl, a⟩ := rw_.one
      cases a
      exact .inl ⟨_, rfl, hz, Res.ok h r (.str _)⟩
    · exact h.elim
  · obtain ⟨v, rfl, a⟩ := rw_.one
    cases a
    exact .inr ⟨_, rfl, Res.ok h r (.str _)⟩
  · exact h.elim
end
/-! ### isinstance(x, a built-in class) -/
def typW (S : Hs) : W → Option String
  | .non => some "NoneType"
  | .bl _ => some "bool"
  | .int _ => some "int"
  | .str _ => some "str"
  | .tup _ => some "tuple"
  | .fro _ => some "list"
  | .ftp _ => none
  | .ref i => match S[i]? with
    | some (.lst _) => some "list"
    | some (.dic _) => some "dict"
    | _ => none
/-- is one of the class T, by the name of its type -/
def isTy (t T : String) : Bool := t == T || (t == "bool" && T == "int")
def isiW (T : String) (w : W) (S : Hs) : R W := match typW S w with
  | some t => .ok (.bl (isTy t T)) S
  | none => .bad
theorem kit_ty (K : PySem.W.Frag) : ∀ t ∈ ["NoneType", "bool", "int", "str", "tuple", "list", "dict"], ∀ T ∈ ["bool", "int", "str", "tuple", "list", "dict"], PySem.W.kitOne K (.type t) (.type T) = some (isTy t T) := by
  intro t ht T hT
  simp only [List.mem_cons, List.not_mem_nil, or_false] at ht hT
  rcases ht with rfl | rfl | rfl | rfl | rfl | rfl | rfl <;> rcases hT with rfl | rfl | rfl | rfl | rfl | rfl <;> rfl
end DL

set_option Elab.async false
set_option linter.all false
set_option maxRecDepth 100000
/-! DL23: augmented and parallel assignment, isinstance, range as an argument, dicts made. -/
namespace DL
open PySem PySem.Spec PyProof.Rows L2

/-! ### op= -/
def ipW (op : W → W → Hs → R W) : TIp := fun v u H Q => ∃ i j k S, v = .int i ∧ u = .int j ∧ op (.int i) (.int j) S = .ok (.int k) S ∧ Q (.int k) H
def saug (op : W → W → Hs → R W) (i : Nat) (f : DE) : DS := fun sw S => match sw[i]? with
  | some (some x) => (f sw S).to sw fun y S1 => match x, y with
    | .int a, .int b => match op (.int a) (.int b) S1 with
      | .ok (.int k) S2 => if S2 = S1 then .nx (sw.set i (some (.int k))) S1 else .bad
      | _ => .bad
    | _, _ => .bad
  | _ => .bad
/-- an int that stands at a place -/
def curW (x y : W) (S : Hs) : Option Int := match x with
  | .ref n => match S[n]? with
    | some (.lst ws) => match y with
      | .int k => match atI ws k with
        | some (.int a) => some a
        | _ => none
      | _ => none
    | some (.dic kvs) => match keyW y with
      | some k => match atK kvs k with
        | some (.int a) => some a
        | _ => none
      | none => none
    | _ => none
  | _ => none
def saugS (op : W → W → Hs → R W) (o i f : DE) : DS := fun sw S => (o sw S).to sw fun x S1 => (i sw S1).to sw fun y S2 => match curW x y S2 with
  | some a => (f sw S2).to sw fun z S4 => match z with
    | .int b => match op (.int a) (.int b) S4 with
      | .ok (.int k) S5 => if S5 = S4 then (match setW x y (.int k) S4 with
        | some S6 => .nx sw S6
        | none => .bad) else .bad
      | _ => .bad
    | _ => .bad
  | none => .bad
section
variable {X : Cx} {cl : Cla} {Wx : L2.WX} {pos pos' tpos : Pos} {e o i : Expr} {fe fo fi : DE} {op : Operator} {x : Str}
theorem ip_addW : PIp X .Add (ipW addW) := by
  intro pins s σ H x y v u Q I r1 r2 h
  obtain ⟨i, j, k, S, rfl, rfl, e, q⟩ := h
  obtain ⟨t, rfl⟩ := r1
  obtain ⟨t', rfl⟩ := r2
  cases e
  exact iadd_int ⟨.int _, H, I.tok _, ⟨_, rfl⟩, q⟩
theorem ip_subW : PIp X .Sub (ipW subW) := by
  intro pins s σ H x y v u Q I r1 r2 h
  obtain ⟨i, j, k, S, rfl, rfl, e, q⟩ := h
  obtain ⟨t, rfl⟩ := r1
  obtain ⟨t', rfl⟩ := r2
  have e' : R.ok (W.int (i - j)) S = .ok (.int k) S := e
  cases e'
  exact isub_int ⟨.int _, H, I.tok _, ⟨_, rfl⟩, q⟩
theorem ip_mulW : PIp X .Mult (ipW mulW) := by
  intro pins s σ H x y v u Q I r1 r2 h
  obtain ⟨i, j, k, S, rfl, rfl, e, q⟩ := h
  obtain ⟨t, rfl⟩ := r1
  obtain ⟨t', rfl⟩ := r2
  have e' : (if i.natAbs.log2 + j.natAbs.log2 < 1000000 then R.ok (W.int (i * j)) S else .bad) = .ok (W.int k) S := e
  split at e'
  · rename_i hc
    cases e'
    exact imul_int ⟨.int _, H, I.tok _, ⟨_, rfl⟩, q⟩ (CMulW.ok hc)
  · cases e'
theorem z_aug {g : W → W → Hs → R W} {i : Nat} (ho : PIp X op (ipW g)) (hN : X.N.Nodup) (he : PE X e (tE X.K cl Wx fe)) (hi : X.N[i]? = some x := by rfl) (hx : Loc X.env.scope x := by first | exact .inl rfl | exact .inr rfl) (hf : X.fn x = true ∨ X.env.scope.names.lookup x = some .local := by first | exact .inl rfl | exact .inr rfl | assumption) :
    PS X (.AugAssign (.Name x pos') op e pos) (tS X.K cl Wx (saug g i fe)) := (ps_aug hN hi hx he ho hf).dimp fun D σ H h => by
  obtain ⟨ι, S, sw, A, h⟩ := h
  unfold saug at h
  split at h
  · rename_i w e1
    obtain ⟨v, q, r⟩ := A.sl.get i w e1
    refine ⟨v, q, ι, S, sw, A, Res.imp (Res.to (RA := RV X.K) A h) fun y H1 ⟨ι1, S1, w1, g1, r1, _, h1⟩ => ?_⟩
    split at h1
    · split at h1
      · rename_i a b _ k S2 e2
        split at h1
        · rename_i e3
          subst e3
          have r' := r.go A.rel g1
          cases r'
          cases r1
          refine ⟨_, _, _, _, rfl, rfl, e2, ?_⟩
          have A1 := A.go g1
          exact ResS.nx_at h1 g1.rel (A1.sl.set _ (.int k))
        · exact h1.elim
      · exact h1.elim
    · exact h1.elim
  · exact h.elim
def rCur : V → V → Hp → VK → Prop := fun v u H Q => (∃ p xs k z, v = .ref p ∧ u = .int k ∧ H p = some (.lst xs) ∧ atI xs k = some z ∧ Q z H) ∨ rIxD v u H Q
theorem get_cur (hu : X.A.units + 1 < cLine) : PGet X rCur := by
  intro pins s σ H o i ov iv Q I ro ri h
  rcases h with ⟨p, xs, k, z, rfl, rfl, hp, he, q⟩ | ⟨a, w, rfl, g, q⟩
  · cases ro
    obtain ⟨t, rfl⟩ := ri
    obtain ⟨its, r, pl, hz⟩ := I.list (show SqL X.K H p xs from .inl (.inl hp))
    obtain ⟨j, h1, h2, h3, h4, h5⟩ := atI_get he
    obtain ⟨w, ew, rw'⟩ := r.get h2
    have hl := r.length
    have hn := line63
    have fin : EP X pins σ Q w s := ⟨z, H, I, rw', q⟩
    by_cases h0 : 0 ≤ k
    · have hj : k.toNat = j := by
        rw [seqIndex_of h0 h5] at h1
        exact Option.some.inj h1
      exact wpAny_getItem_list pl.isList h0 (by omega) (by rw [hj]; simpa using ew) fin
    · have hj : (k + (its.toArray.size : Int)).toNat = j := by
        rw [seqIndex_neg (by omega) h4] at h1
        rw [List.size_toArray, ← hl]
        exact Option.some.inj h1
      exact wpAny_getItem_list_neg pl.isList (by omega) (by rw [List.size_toArray] <;> omega) (by omega) (by rw [hj]; simpa using ew) fin
  · cases ro
    exact d_getItem hu I g ri fun w' s' I' r' => ⟨w, H, I', r', q⟩
theorem cur_at {K : PySem.W.Frag} {cl : Cla} {ι : Nat → Addr} {S : Hs} {H : Hp} {x y : W} {v u : V} {a : Int} {Q : VK} (r : Rel K cl ι S H) (rx : Rep K ι S.length H x v) (ry : Rep K ι S.length H y u) (e : curW x y S = some a) (q : Q (.int a) H) : rCur v u H Q := by
  unfold curW at e
  split at e
  · obtain ⟨rfl, hn⟩ := rx.ref_inv
    split at e
    · rename_i ws q1
      obtain ⟨vs, h1, h2⟩ := lst_at r q1
      split at e
      · rename_i k
        cases ry
        split at e
        · rename_i b e2
          cases e
          refine .inl ⟨_, vs, _, .int a, rfl, rfl, h1, ?_, q⟩
          unfold atI at e2 ⊢
          obtain ⟨j, e3, e4⟩ := Option.bind_eq_some_iff.mp e2
          obtain ⟨z, e5, r5⟩ := h2.get e4
          cases r5
          rw [← h2.length, e3]
          exact e5
        · cases e
      · cases e
    · rename_i kvs q1
      obtain ⟨kv, h1, h2⟩ := r.obj _ _ q1
      split at e
      · rename_i k ek
        split at e
        · rename_i b e2
          cases e
          obtain ⟨z, e3, r3⟩ := h2.at_ e2
          cases r3
          have := keyW_rep ry ek
          subst this
          exact .inr ⟨_, .int a, rfl, by rw [← e3]; exact .k h1, q⟩
        · cases e
      · cases e
    · cases e
  · cases e
theorem z_augS {g : W → W → Hs → R W} (hu : X.A.units + 1 < cLine) (hp : PIp X op (ipW g)) (ho : PE X o (tE X.K cl Wx fo)) (hi : PE X i (tE X.K cl Wx fi)) (he : PE X e (tE X.K cl Wx fe))
    (ha : ∀ ov iv new, augStore i ov iv new = (do holding [new, ov, iv] (setItem ov iv new); release [new, ov, iv] []; pure .next) := by intros; rfl) :
    PS X (.AugAssign (.Subscript o i tpos) op e pos) (tS X.K cl Wx (saugS g fo fi fe)) := (ps_augS ho hi (get_cur hu) he hp (set_W hu) ha).dimp fun D σ H h => by
  obtain ⟨ι, S, sw, A, h⟩ := h
  refine ⟨ι, S, sw, A, Res.imp (Res.to (RA := RV X.K) A h) fun v H1 ⟨ι1, S1, x, g1, r1, _, h1⟩ => ?_⟩
  refine ⟨ι1, S1, sw, A.go g1, Res.imp (Res.to (RA := RV X.K) (A.go g1) h1) fun u H2 ⟨ι2, S2, y, g2, r2, _, h2⟩ => ?_⟩
  have A2 := (A.go g1).go g2
  split at h2
  · rename_i a e1
    refine cur_at g2.rel (r1.go g1.rel g2) r2 e1 ?_
    refine ⟨ι2, S2, sw, A2, Res.imp (Res.to (RA := RV X.K) A2 h2) fun z H4 ⟨ι4, S4, w, g4, r4, _, h4⟩ => ?_⟩
    split at h4
    · split at h4
      · rename_i k S5 e5
        split at h4
        · rename_i e6
          subst e6
          split at h4
          · rename_i S6 e7
            cases r4
            refine ⟨_, _, _, _, rfl, rfl, e5, ?_⟩
            refine set_at g4.rel ((r1.go g1.rel g2).go g2.rel g4) (r2.go g2.rel g4) (.int k) e7 fun H' gg => ?_
            exact h4 _ _ _ gg ((A2.go g4).go gg).sl
          · exact h4.elim
        · exact h4.elim
      · exact h4.elim
    · exact h4.elim
  · exact h2.elim

/-! ### a, b = .. in one row -/
def spar (is : List Nat) (t : DA) : DS := fun sw S => (t sw S).to sw fun ws S1 => if ws.length = is.length then .nx ((is.zip ws).foldl (fun sw p => sw.set p.1 (some p.2)) sw) S1 else .bad
theorem z_par {i j : Nat} {x y : Str} {a b : Expr} {t : DA} {px py pt : Pos} {kt k2 pt2} (hc : X.calm = true) (hN : X.N.Nodup) (ha : PA X [a, b] (tA X.K cl Wx t)) (hi : X.N[i]? = some x := by rfl) (hj : X.N[j]? = some y := by rfl) (hij : i ≠ j := by decide)
    (hx : X.env.scope.names.lookup x = some .local := by rfl) (hy : X.env.scope.names.lookup y = some .local := by rfl)
    (hw : swappedStores [.Tuple [.Name x px, .Name y py] kt pt] (.Tuple [a, b] k2 pt2) X.env = pure (some [x, y]) := by rfl)
    (hs : swapsWithSole [.Tuple [.Name x px, .Name y py] kt pt] (.Tuple [a, b] k2 pt2) pos.line X.env = pure false := by rfl) :
    PS X (.Assign [.Tuple [.Name x px, .Name y py] kt pt] (.Tuple [a, b] k2 pt2) pos) (tS X.K cl Wx (spar [i, j] t)) := (ps_par hc hN hi hj hij hx hy ha hw hs).dimp fun D σ H h => by
  obtain ⟨ι, S, sw, A, h⟩ := h
  refine ⟨ι, S, sw, A, Res.imp (Res.to (RA := RVs X.K) A h) fun vs H1 ⟨ι1, S1, ws, g1, r1, _, h1⟩ => ?_⟩
  split at h1
  · rename_i hl
    match ws, hl, r1, h1 with
    | [p, q], _, .cons ra (.cons rb .nil), h1 =>
      exact ⟨_, _, rfl, ResS.nx_at h1 g1.rel (((A.go g1).sl.set _ ra).set _ rb)⟩
  · exact h1.elim
theorem z_par3 {i j l : Nat} {x y z : Str} {a b c : Expr} {t : DA} {px py pz pt : Pos} {kt k2 pt2} (hc : X.calm = true) (hN : X.N.Nodup) (ha : PA X [a, b, c] (tA X.K cl Wx t)) (hi : X.N[i]? = some x := by rfl) (hj : X.N[j]? = some y := by rfl) (hl : X.N[l]? = some z := by rfl) (hij : i ≠ j := by decide) (hil : i ≠ l := by decide) (hjl : j ≠ l := by decide)
    (hx : X.env.scope.names.lookup x = some .local := by rfl) (hy : X.env.scope.names.lookup y = some .local := by rfl) (hz : X.env.scope.names.lookup z = some .local := by rfl)
    (hw : swappedStores [.Tuple [.Name x px, .Name y py, .Name z pz] kt pt] (.Tuple [a, b, c] k2 pt2) X.env = pure (some [x, y, z]) := by rfl)
    (hs : swapsWithSole [.Tuple [.Name x px, .Name y py, .Name z pz] kt pt] (.Tuple [a, b, c] k2 pt2) pos.line X.env = pure false := by rfl) :
    PS X (.Assign [.Tuple [.Name x px, .Name y py, .Name z pz] kt pt] (.Tuple [a, b, c] k2 pt2) pos) (tS X.K cl Wx (spar [i, j, l] t)) := (ps_par3 hc hN hi hj hl hij hil hjl hx hy hz ha hw hs).dimp fun D σ H h => by
  obtain ⟨ι, S, sw, A, h⟩ := h
  refine ⟨ι, S, sw, A, Res.imp (Res.to (RA := RVs X.K) A h) fun vs H1 ⟨ι1, S1, ws, g1, r1, _, h1⟩ => ?_⟩
  split at h1
  · rename_i hl
    match ws, hl, r1, h1 with
    | [p, q, r], _, .cons ra (.cons rb (.cons rc .nil)), h1 =>
      exact ⟨_, _, _, rfl, ResS.nx_at h1 g1.rel ((((A.go g1).sl.set _ ra).set _ rb).set _ rc)⟩
  · exact h1.elim
end
end DL

set_option Elab.async false
set_option linter.all false
set_option maxRecDepth 100000
/-! DL24: isinstance of built-in classes, list(range(..)), dicts made, dict.get. -/
namespace DL
open PySem PySem.Spec PyProof.Rows L2

section
variable {X : Cx} {cl : Cla} {Wx : L2.WX} {p p2 q pos apos cpos : Pos} {a b e o : Expr} {es : List Expr} {fa fb fo : DE} {t : DA}
theorem typ_at {K : PySem.W.Frag} {ι : Nat → Addr} {S : Hs} {H : Hp} {w : W} {v : V} {T : String} (r : Rel K cl ι S H) (h : Rep K ι S.length H w v) (e : typW S w = some T) : TyX K H v (.type T) ∧ T ∈ ["NoneType", "bool", "int", "str", "tuple", "list", "dict"] := by
  cases h with
  | non => cases e; exact ⟨.base .non, by decide⟩
  | bl b => cases e; exact ⟨.base (.bl _), by decide⟩
  | int b => cases e; exact ⟨.base (.int _), by decide⟩
  | str b => cases e; exact ⟨.base (.str _), by decide⟩
  | tup h1 h2 =>
    cases e
    rcases h1 with (h1 | ⟨o, h1⟩) | ⟨o, its, n, h1, h3, _⟩
    · exact ⟨.base (.tup h1), by decide⟩
    · exact ⟨.fTuple h1, by decide⟩
    · exact ⟨.kTuple h1 h3, by decide⟩
  | fro h1 h2 =>
    cases e
    rcases h1 with ⟨o, h1⟩ | ⟨its, n, h1, _⟩
    · exact ⟨.base (.frz h1), by decide⟩
    · exact ⟨.kList h1 rfl, by decide⟩
  | ftp h1 h2 => cases e
  | ref hi =>
    rename_i i
    have e' : (match S[i]? with | some (.lst _) => some "list" | some (.dic _) => some "dict" | _ => none) = some T := e
    split at e'
    · rename_i q
      cases e'
      obtain ⟨vs, h1, h2⟩ := lst_at r q
      exact ⟨.base (.lst h1), by decide⟩
    · rename_i q
      cases e'
      obtain ⟨kv, h1, h2⟩ := r.obj _ _ q
      exact ⟨.base (.dK h1), by decide⟩
    · cases e'
/-- isinstance(a, T) -/
theorem d_isi {x : Str} {T : String} (ha : PE X a (tE X.K cl Wx fa)) (hg : Gl X "isinstance") (hm : X.mg "isinstance" = none) (hg2 : Gl X x) (hm2 : X.mg x = none) (hv : bootBuiltins x = some (.type T) := by rfl) (hT : T ∈ ["bool", "int", "str", "tuple", "list", "dict"] := by decide)
    (hn : x ≠ "__name__" := by decide) (hd : (x == ("__debug__" : Str)) = false := by decide)
    (he : starEach (a :: [.Name x p2]) X.env = (false, eval a X.env) :: starEach [.Name x p2] X.env := by rfl) (hs : starEach (.Name x p2 :: []) X.env = (false, eval (.Name x p2) X.env) :: starEach [] X.env := by rfl) (hpl : (backTo pos (starEach [.Name x p2] X.env)).any (·.1) = false := by rfl) :
    PE X (.Call (.Name "isinstance" p) [a, .Name x p2] [] pos) (tE X.K cl Wx (dun (isiW T) fa)) :=
  (pe_callB (id := "isinstance") call_isi hg hm rfl (pa_cons ha (pa_cons (pe_bltn (v := .ty T) (pos := p2) hg2 hm2 hv rfl hn hd) pa_nil hs) he) (by decide) (by decide) he hpl).dimp fun σ H Q h => by
  refine t_un (r := fun v H Q => rIsi X.K [v, .ty T] H Q) (fun cl ι S H w v Q E r rx h => ?_) h
  unfold isiW at h
  split at h
  · rename_i T' e
    obtain ⟨h1, h2⟩ := typ_at r rx e
    exact ⟨v, .ty T, .type T', .type T, _, rfl, .ty T, h1, kit_ty X.K T' h2 T hT, Res.ok h r (.bl _)⟩
  · exact h.elim
/-- list(range(a)), tuple(range(a)) -/
def lrgW (w : W) (S : Hs) : R W := match w with
  | .int n => if n ≤ 16777216 ∧ -4611686018427387904 ≤ n then .ok (.ref S.length) (S ++ [.lst (rgW 0 n.toNat)]) else .bad
  | _ => .bad
def trgW (w : W) (S : Hs) : R W := match w with
  | .int n => if n ≤ 16777216 ∧ -4611686018427387904 ≤ n then .ok (.tup (rgW 0 n.toNat)) S else .bad
  | _ => .bad
theorem reps_rg {K : PySem.W.Frag} {ι : Nat → Addr} {m : Nat} {H : Hp} {lo hi : Int} : Reps K ι m H (rgW lo (hi - lo).toNat) (rgV lo hi) := by
  unfold rgV rgW
  generalize List.range (hi - lo).toNat = l
  induction l with
  | nil => exact .nil
  | cons i r ih => exact .cons (.int _) ih
theorem d_listRg (hc : X.calm = true) (ha : PE X a (tE X.K cl Wx fa)) (hg : Gl X "list") (hm : X.mg "list" = none) (hg2 : Gl X "range") (hm2 : X.mg "range" = none) (na : starEach [a] X.env = (false, eval a X.env) :: starEach [] X.env := by rfl)
    (nb : starEach [.Call (.Name "range" p2) [a] [] q] X.env = (false, eval (.Call (.Name "range" p2) [a] [] q) X.env) :: starEach [] X.env := by rfl) :
    PE X (.Call (.Name "list" p) [.Call (.Name "range" p2) [a] [] q] [] pos) (tE X.K cl Wx (dun lrgW fa)) := (pe_listRg hc hg hm (prg_1 hg2 hm2 ha na) nb).dimp fun σ H Q h => by
  refine t_un (r := fun v H Q => ∃ n, v = .int n ∧ RgOk 0 n ∧ ∀ q, H q = none → Q (.ref q) (upd H q (.lst (rgV 0 n)))) (fun cl ι S H w v Q E r rx h => ?_) h
  unfold lrgW at h
  split at h
  · split at h
    · rename_i hz
      cases rx
      refine ⟨_, rfl, ⟨by omega, by omega, by omega, by omega, by omega⟩, fun q hq => ?_⟩
      rename_i n
      have e : rgW 0 n.toNat = rgW 0 (n - 0).toNat := by rw [Int.sub_zero]
      rw [e] at h
      obtain ⟨g, rp⟩ := r.newL hq (reps_rg (lo := 0) (hi := n))
      exact h _ _ _ g rp
    · exact h.elim
  · exact h.elim
theorem d_tupRg (hc : X.calm = true) (ha : PE X a (tE X.K cl Wx fa)) (hg : Gl X "tuple") (hm : X.mg "tuple" = none) (hg2 : Gl X "range") (hm2 : X.mg "range" = none) (na : starEach [a] X.env = (false, eval a X.env) :: starEach [] X.env := by rfl)
    (nb : starEach [.Call (.Name "range" p2) [a] [] q] X.env = (false, eval (.Call (.Name "range" p2) [a] [] q) X.env) :: starEach [] X.env := by rfl) :
    PE X (.Call (.Name "tuple" p) [.Call (.Name "range" p2) [a] [] q] [] pos) (tE X.K cl Wx (dun trgW fa)) := (pe_tupRg hc hg hm (prg_1 hg2 hm2 ha na) nb).dimp fun σ H Q h => by
  refine t_un (r := fun v H Q => ∃ n, v = .int n ∧ RgOk 0 n ∧ ∀ q, H q = none → Q (.ref q) (upd H q (.tup (rgV 0 n)))) (fun cl ι S H w v Q E r rx h => ?_) h
  unfold trgW at h
  split at h
  · split at h
    · rename_i hz
      cases rx
      refine ⟨_, rfl, ⟨by omega, by omega, by omega, by omega, by omega⟩, fun q hq => ?_⟩
      rename_i n
      have e : rgW 0 n.toNat = rgW 0 (n - 0).toNat := by rw [Int.sub_zero]
      rw [e] at h
      obtain ⟨g, rp⟩ := r.newT hq (reps_rg (lo := 0) (hi := n))
      exact h _ _ _ g rp
    · exact h.elim
  · exact h.elim
/-! ### dict.get(k, d) -/
def dget2 (o i d : DE) : DE := fun sw S => (o sw S).bind fun x S1 => match x with
  | .ref n => match S1[n]? with
    | some (.dic _) => (i sw S1).bind fun y S2 => (d sw S2).bind fun z S3 => match S3[n]?, keyW y with
      | some (.dic kvs), some k => .ok ((atK kvs k).getD z) S3
      | _, _ => .bad
    | _ => .bad
  | _ => .bad
theorem d_dget2 {f : Expr} (hu : X.A.units + 1 < cLine) (ho : PE X o (tE X.K cl Wx fo)) (he : PE X e (tE X.K cl Wx fa)) (hf : PE X f (tE X.K cl Wx fb)) (m : M2 X o "get" apos e f cpos := by exact ⟨rfl, rfl, rfl, rfl⟩) :
    PE X (.Call (.Attribute o "get" apos) [e, f] [] cpos) (tE X.K cl Wx (dget2 fo fa fb)) := (pe_dget2 hu ho he hf m).dimp fun σ H Q h => by
  obtain ⟨ι, S, sw, A, h⟩ := h
  refine ⟨ι, S, sw, A, Res.imp (Res.split (RA := RV X.K) h) fun v H1 ⟨ι1, S1, w1, g1, r1, _, h1⟩ => ?_⟩
  split at h1
  · rename_i n _
    obtain ⟨rfl, hn⟩ := r1.ref_inv
    split at h1
    · rename_i kvs0 q0
      obtain ⟨kv0, k1, k2⟩ := g1.rel.obj _ _ q0
      refine ⟨_, rfl, .inl ⟨kv0, .inl k1⟩, ι1, S1, sw, A.go g1, Res.imp (Res.split (RA := RV X.K) h1) fun u H2 ⟨ι2, S2, w2, g2, r2, _, h2⟩ => ?_⟩
      refine ⟨ι2, S2, sw, (A.go g1).go g2, Res.imp (Res.split (RA := RV X.K) h2) fun z H3 ⟨ι3, S3, w3, g3, r3, _, h3⟩ => ?_⟩
      split at h3
      · rename_i kvs k q3 ek
        have r1' := (r1.go g1.rel g2).go g2.rel g3
        obtain ⟨e1, hn3⟩ := r1'.ref_inv
        have r2' := r2.go g2.rel g3
        have := keyW_rep r2' ek
        subst this
        obtain ⟨kv, k3, k4⟩ := g3.rel.obj _ _ q3
        have ea : ι1 n = ι3 n := by injection e1
        rw [ea]
        refine ⟨_, .k k3, ?_⟩
        cases eq : atK kvs k with
        | none =>
          rw [k4.none_ eq]
          rw [eq] at h3
          exact Res.ok h3 g3.rel r3
        | some w =>
          obtain ⟨v, e2, r4⟩ := k4.at_ eq
          rw [e2]
          rw [eq] at h3
          exact Res.ok h3 g3.rel r4
      · exact h3.elim
    · exact h1.elim
  · exact h1.elim
end
end DL

set_option Elab.async false
set_option linter.all false
set_option maxRecDepth 100000
/-! DL25: dicts made. -/
namespace DL
open PySem PySem.Spec PyProof.Rows L2

def mergeW (kvs : List (Key × W)) (more : List (Key × W)) : List (Key × W) := more.foldl (fun acc kv => putW acc kv.1 kv.2) kvs
theorem KReps.merge {K : PySem.W.Frag} {ι : Nat → Addr} {n : Nat} {H : Hp} : ∀ {more : List (Key × W)} {mv : List (Key × V)} {kw : List (Key × W)} {kv : List (Key × V)}, KReps K ι n H more mv → KReps K ι n H kw kv → KReps K ι n H (mergeW kw more) (mergeK kv mv)
  | [], mv, kw, kv, h, h2 => by
    have : mv = [] := by
      have := h.length
      cases mv with
      | nil => rfl
      | cons _ _ => simp at this
    subst this; exact h2
  | p :: r, _, kw, kv, h, h2 => by
    obtain ⟨v, s, rfl, h3, h4⟩ := h.cons_inv
    exact KReps.merge (more := r) (mv := s) h4 (h2.put h3)
/-- (key, value) pairs of values -/
def keyedW : List (W × W) → Option (List (Key × W))
  | [] => some []
  | (k, v) :: r => match keyW k, keyedW r with
    | some k, some l => some ((k, v) :: l)
    | _, _ => none
def dpairs : List (DE × DE) → SW → Hs → R (List (W × W))
  | [] => fun _ S => .ok [] S
  | (k, v) :: r => fun sw S => (k sw S).bind fun x S1 => (v sw S1).bind fun y S2 => (dpairs r sw S2).bind fun ps S3 => .ok ((x, y) :: ps) S3
def ddisp (l : List (DE × DE)) : DE := fun sw S => (dpairs l sw (S ++ [.dic []])).bind fun ps S2 => match S2[S.length]?, keyedW ps with
  | some (.dic []), some kvs => if kvs.length ≤ 15 then .ok (.ref S.length) (S2.set S.length (.dic (mergeW [] kvs))) else .bad
  | _, _ => .bad
def ddict0 : DE := fun _ S => .ok (.ref S.length) (S ++ [.dic []])
def RPs (K : PySem.W.Frag) (ι : Nat → Addr) (n : Nat) (H : Hp) (ws : List (W × W)) (ps : List (V × V)) : Prop := Reps K ι n H (ws.map (·.1)) (ps.map (·.1)) ∧ Reps K ι n H (ws.map (·.2)) (ps.map (·.2)) 
section
variable {X : Cx} {cl : Cla} {Wx : L2.WX} {pos : Pos}
theorem t_pairs {K : PySem.W.Frag} : ∀ {l : List (DE × DE)} {ι : Nat → Addr} {S : Hs} {sw : SW} {σ : L2.St} {H : Hp} {Q : List (V × V) → Hp → Prop} (A : At K cl ι S sw σ H),
    Res K cl (fun ι n H a b => RPs K ι n H a b) ι S H (dpairs l sw S) Q (fun c d H' => Wx c d σ H') → tPairs (l.map fun p => (tE K cl Wx p.1, tE K cl Wx p.2)) σ H Q
  | [], ι, S, sw, σ, H, Q, A, h => Res.ok (RA := fun ι n H a b => RPs K ι n H a b) h A.rel ⟨.nil, .nil⟩
  | (k, v) :: r, ι, S, sw, σ, H, Q, A, h => by
    refine ⟨ι, S, sw, A, Res.imp (Res.split (RA := RV K) h) fun x H1 ⟨ι1, S1, w1, g1, r1, _, h1⟩ => ?_⟩
    refine ⟨ι1, S1, sw, A.go g1, Res.imp (Res.split (RA := RV K) h1) fun y H2 ⟨ι2, S2, w2, g2, r2, _, h2⟩ => ?_⟩
    refine t_pairs ((A.go g1).go g2) (Res.imp (Res.split (RA := fun ι n H a b => RPs K ι n H a b) h2) fun ps H3 ⟨ι3, S3, w3, g3, r3, _, h3⟩ => ?_)
    have r1' := (r1.go g1.rel g2).go g2.rel g3
    have r2' := r2.go g2.rel g3
    exact Res.ok (RA := fun ι n H a b => RPs K ι n H a b) h3 g3.rel ⟨.cons r1' r3.1, .cons r2' r3.2⟩
theorem keyed_rep {K : PySem.W.Frag} {ι : Nat → Addr} {n : Nat} {H : Hp} : ∀ {ws : List (W × W)} {ps : List (V × V)} {kvs : List (Key × W)}, RPs K ι n H ws ps → keyedW ws = some kvs → ∃ kv : List (Key × V), ps = kv.map (fun p => (kV p.1, p.2)) ∧ KReps K ι n H kvs kv
  | [], ps, kvs, h, e => by
    cases e
    cases ps with
    | nil => exact ⟨[], rfl, .nil⟩
    | cons _ _ => cases h.1
  | (k, v) :: r, ps, kvs, h, e => by
    unfold keyedW at e
    split at e
    · rename_i k' l e1 e2
      cases e
      cases ps with
      | nil => cases h.1
      | cons p ps =>
        obtain ⟨h1, h2⟩ := h
        cases h1 with
        | cons a b =>
          cases h2 with
          | cons c d =>
            obtain ⟨kv, rfl, e3⟩ := keyed_rep ⟨b, d⟩ e2
            have e4 := keyW_rep a e1
            exact ⟨(k', p.2) :: kv, by rw [List.map_cons, ← e4], .cons c e3⟩
    · cases e
theorem d_dict0 : PE X (.Dict [] [] pos) (tE X.K cl Wx ddict0) := pe_dnewK.dimp fun σ H Q h => by
  obtain ⟨ι, S, sw, A, h⟩ := h
  intro p hp
  have g := A.rel.alloc hp (u := .dK []) (o := .dic []) ⟨[], upd_same, .nil⟩
  have : Rep X.K (ins_ ι S.length p) (S ++ [WO.dic []]).length (upd H p (.dK [])) (.ref S.length) (.ref (ins_ ι S.length p S.length)) := .ref (by simp)
  rw [ins_same] at this
  exact h _ _ _ g this
theorem d_disp {keys : List (Option Expr)} {values : List Expr} {l : List (DE × DE)} (h : PPs X pos keys values (l.map fun p => (tE X.K cl Wx p.1, tE X.K cl Wx p.2))) (hall : keys.all (·.isSome) = true := by rfl) (hl : keys.length = values.length := by rfl) (h0 : keys ≠ [] := by exact fun z => nomatch z)
    (h15 : keys.length ≤ 15 := by decide) : PE X (.Dict keys values pos) (tE X.K cl Wx (ddisp l)) := (pe_disp h hall hl h0 h15).dimp fun σ H Q h => by
  obtain ⟨ι, S, sw, A, h⟩ := h
  intro p hp
  have g := A.rel.alloc hp (u := .dK []) (o := .dic []) ⟨[], upd_same, .nil⟩
  have A1 := A.go g
  have h' : Res X.K cl (RV X.K) ι S H ((dpairs l sw (S ++ [.dic []])).bind fun ps S2 => match S2[S.length]?, keyedW ps with
    | some (.dic []), some kvs => if kvs.length ≤ 15 then .ok (.ref S.length) (S2.set S.length (.dic (mergeW [] kvs))) else .bad
    | _, _ => .bad) Q fun c d H' => Wx c d σ H' := h
  have h2 : Res X.K cl (RV X.K) (ins_ ι S.length p) (S ++ [.dic []]) (upd H p (.dK [])) ((dpairs l sw (S ++ [.dic []])).bind fun ps S2 => match S2[S.length]?, keyedW ps with
    | some (.dic []), some kvs => if kvs.length ≤ 15 then .ok (.ref S.length) (S2.set S.length (.dic (mergeW [] kvs))) else .bad
    | _, _ => .bad) Q fun c d H' => Wx c d σ H' := by
    revert h'
    generalize ((dpairs l sw (S ++ [WO.dic []])).bind fun ps S2 => match S2[S.length]?, keyedW ps with
      | some (.dic []), some kvs => if kvs.length ≤ 15 then R.ok (W.ref S.length) (S2.set S.length (.dic (mergeW [] kvs))) else .bad
      | _, _ => .bad) = r
    intro h'
    cases r with
    | ok a S' => exact fun ι2 b H2 g2 x2 => h' ι2 b H2 (g.trans g2) x2
    | exc C fs S' => exact fun ι2 d gs H2 g2 x2 => h' ι2 d gs H2 (g.trans g2) x2
    | bad => exact h'
  refine t_pairs A1 (Res.imp (Res.split (RA := fun ι n H a b => RPs X.K ι n H a b) h2) fun ps H2 ⟨ι2, S2, w2, g2, r2, _, h3⟩ => ?_)
  split at h3
  · rename_i kvs q1 q2
    split at h3
    · rename_i hz
      have hn : S.length < S2.length := by
        have := g2.le
        simp only [List.length_append, List.length_singleton] at this
        omega
      have hp2 : ι2 S.length = p := by
        rw [g2.ext S.length (by simp), ins_same]
      obtain ⟨kv0, k1, k2⟩ := g2.rel.obj _ _ q1
      have : kv0 = [] := by
        have := k2.length
        cases kv0 with
        | nil => rfl
        | cons _ _ => simp at this
      subst this
      rw [hp2] at k1
      obtain ⟨kv, e3, e4⟩ := keyed_rep r2 q2
      refine ⟨k1, kv, e3, by rw [← e4.length]; exact hz, ?_⟩
      have gw := g2.rel.write (i := S.length) (u := .dK (mergeK [] kv)) (o := .dic (mergeW [] kvs)) hn ⟨_, upd_same, (e4.merge .nil).mono (Nat.le_refl _) (fun _ _ => rfl) (Kpt.upd g2.rel hn _)⟩
      rw [hp2] at gw
      have rr : Rep X.K ι2 (S2.set S.length (.dic (mergeW [] kvs))).length (upd H2 p (.dK (mergeK [] kv))) (.ref S.length) (.ref (ι2 S.length)) := .ref (by simpa using hn)
      rw [hp2] at rr
      exact h3 _ _ _ gw rr
    · exact h3.elim
  · exact h3.elim
/-- dict(a list of pairs) -/
def pairsW (S : Hs) : List W → Option (List (W × W))
  | [] => some []
  | .tup [k, v] :: r => (pairsW S r).map ((k, v) :: ·)
  | _ :: _ => none
def dictW : List W → Hs → R W := fun ws S => match ws with
  | [w] => match lstOf S w with
    | some xs => match pairsW S xs with
      | some ps => match keyedW ps with
        | some kvs => .ok (.ref S.length) (S ++ [.dic (mergeW [] kvs)])
        | none => .bad
      | none => .bad
    | none => .bad
  | _ => .bad
theorem pairs_rep {K : PySem.W.Frag} {ι : Nat → Addr} {n : Nat} {H : Hp} {S : Hs} : ∀ {xs : List W} {vs : List V} {ps : List (W × W)} {kvs : List (Key × W)}, Reps K ι n H xs vs → pairsW S xs = some ps → keyedW ps = some kvs →
    ∃ (as : List Addr) (kv : List (Key × V)), vs = as.map V.ref ∧ Paired (fun p kv => SqT K H p [kV kv.1, kv.2]) as kv ∧ KReps K ι n H kvs kv
  | [], _, _, _, h, e, e2 => by
    cases h; cases e; cases e2
    exact ⟨[], [], rfl, .nil, .nil⟩
  | w :: r, _, _, _, h, e, e2 => by
    cases h with
    | cons a b =>
      unfold pairsW at e
      split at e
      · cases e; rename_i e3; cases e3
      · rename_i k v r' e3
        cases e3
        obtain ⟨l, e4, rfl⟩ := Option.map_eq_some_iff.mp e
        unfold keyedW at e2
        split at e2
        · rename_i k' l' e5 e6
          cases e2
          obtain ⟨t, us, rfl, t1, t2⟩ := a.tup_inv
          obtain ⟨x, y, rfl, rx, ry⟩ := t2.two
          have := keyW_rep rx e5
          subst this
          obtain ⟨as, kv, rfl, h1, h2⟩ := pairs_rep b e4 e6
          exact ⟨t :: as, (k', y) :: kv, rfl, .cons t1.sq h1, .cons ry h2⟩
        · cases e2
      · cases e
theorem c_dict (hc : X.calm = true) : DCall X (.type "dict") dictW := .of (call_dictP hc) fun cl ι S H ws vs Q E r rw_ h => by
  unfold dictW at h
  split at h
  · split at h
    · rename_i e
      split at h
      · rename_i ps e2
        split at h
        · rename_i kvs e3
          obtain ⟨v, rfl, a⟩ := rw_.one
          obtain ⟨l, us, rfl, h1, r1⟩ := lstOf_at r a e
          obtain ⟨as, kv, rfl, h2, h3⟩ := pairs_rep r1 e2 e3
          refine ⟨_, as, kv, rfl, h1.sq, h2, fun p hp => ?_⟩
          have g := r.alloc hp (u := .dK (mergeK [] kv)) (o := .dic (mergeW [] kvs)) ⟨_, upd_same, (h3.merge .nil).mono (Nat.le_succ _) (fun i hi => ins_lt hi) fun a u _ e => upd_keep hp a u e⟩
          have rr : Rep X.K (ins_ ι S.length p) (S ++ [WO.dic (mergeW [] kvs)]).length (upd H p (.dK (mergeK [] kv))) (.ref S.length) (.ref (ins_ ι S.length p S.length)) := .ref (by simp)
          rw [ins_same] at rr
          exact h _ _ _ g rr
        · exact h.elim
      · exact h.elim
    · exact h.elim
  · exact h.elim
end
end DL

set_option Elab.async false
set_option linter.all false
set_option maxRecDepth 100000
/-! DL26: what printed proofs lean on: what is not followed, constants, a def's context, the law's end. -/
namespace DL
open PySem PySem.Spec PyProof.Rows L2

def dbad : DE := fun _ _ => .bad
def sbad : DS := fun _ _ => .bad
theorem e_bad {X : Cx} {cl : Cla} {Wx : L2.WX} {e : Expr} : PE X e (tE X.K cl Wx dbad) := ⟨fun pins s σ H Q I h => by obtain ⟨ι, S, sw, A, h⟩ := h; exact h.elim⟩
theorem z_bad {X : Cx} {cl : Cla} {Wx : L2.WX} {st : Stmt} : PS X st (tS X.K cl Wx sbad) := ⟨fun pins s σ H D I h => by obtain ⟨ι, S, sw, A, h⟩ := h; exact h.elim⟩
/-- a constant of the module -/
def Cst (K : PySem.W.Frag) (mg : Str → Option Value) (x : Str) (w : W) : Prop := ∃ u v, mg x = some u ∧ RelV v u ∧ ∀ (ι : Nat → Addr) (n : Nat) (H : Hp), Rep K ι n H w v
theorem d_cst {X : Cx} {cl : Cla} {Wx : L2.WX} {x : Str} {w : W} {pos : Pos} (c : Cst X.K X.mg x w) (hg : Gl X x := by rfl) (hd : (x == ("__debug__" : Str)) = false := by decide) : PE X (.Name x pos) (tE X.K cl Wx (dcon w)) := by
  obtain ⟨u, v, h1, h2, h3⟩ := c
  exact d_glob hg h1 h2 h3 hd
theorem RoomG.u1 {k : Nat} {A : Around} (r : RoomG k A) : A.units + 1 < cLine := by have := r.room.un; omega
theorem RoomG.u64 {k : Nat} {A : Around} (r : RoomG k A) : A.units + 64 < cLine := by have := r.room.un; omega
theorem RoomG.u65 {k : Nat} {A : Around} (r : RoomG k A) : A.units + 65 < cLine := by have := r.room.un; omega
abbrev WxE (E : XK) : L2.WX := fun c d _ H => E c d H
theorem takes0 {X : Cx} (h : X.xe = fun _ _ => False) : Takes X W0 := fun u s' ⟨a, B, sI, pins, σ, H, cls, d, e, I, nb, up, sky, na, os, ag, w⟩ => w.elim
/-! ### the law's end -/
theorem reps_ints {K : PySem.W.Frag} {ι : Nat → Addr} {n : Nat} {H : Hp} : ∀ ns : List Int, Reps K ι n H (ns.map .int) (ns.map V.int)
  | [] => .nil
  | i :: r => .cons (.int i) (reps_ints r)
theorem walk_D {l : PySem.W.OpenLaw} {n k : Nat} {q : Program} {loose : List Str} {XP : (Str → Option Value) → Heap → Prop} {YP : World → Heap → Prop} {d : DefRec} {x : Str} {cl : PySem.W.Frag → Cla}
    (hn : l.most = some n) (hn2 : n ≤ sizeLine) (hdf : d.params.defaults = []) (hr : RoomG k callerA) (hcl : ∀ K, (cl K).tabs = [])
    (F : ∀ (w : World) (mg : Str → Option Value) (fa : Addr) (h : Heap), YP w h → h.Ns mainGlobals mg → mg d.name = some (.ref fa) →
      ∃ (K : PySem.W.Frag) (fd : FuncData) (g : DF), K.In h ∧ (∀ (s : Shared) (u : Value), BindsTo s fd ⟨[u], []⟩ [(x, u)]) ∧
        (∀ ns : List Int, ns.length ≤ n → ∃ S, g [.fro (ns.map .int)] [] = .ok (.bl true) S) ∧
        ∀ base : Heap, K.In base → base.Ns mainGlobals mg → FnD l.prog w K mg base (cl K) k fa fd [x] g) :
    PySem.W.WalkO q loose XP YP l.row.toRowW d [] (fun f vs => PySem.call f vs) := by
  refine Att.attach_call hn hdf fun w s₀ s₁ mg mb fa o pm cd doc a vs ns G Y ho hd hcd hmg hobj hints hlen hg => ?_
  obtain ⟨K, fd, g, KX, hb, hsp, hF⟩ := F w mg fa _ Y G.T.g hmg
  have hl : ns.length ≤ sizeLine := Nat.le_trans hlen hn2
  have lenV := hints.length
  have rv := vals_ints hints
  obtain ⟨S', hok0⟩ := hsp ns hlen
  have hns := G.T.g
  have hbn := G.T.b
  have hbb := G.T.builtins
  have hlim := G.T.nolimit
  have ha := hobj
  -- from an abstract heap in which nothing but the script may be tracked
  have core : ∀ H : Hp, Only H → FroAt K H a (ns.map V.int) → HOk l.prog w H s₁.heap → (∀ b, H b ≠ none → b = a) → (H a ≠ none → K.lookup a = none) →
      codeAny (model l.prog w) callerA (.call (.ref fa) ⟨[.ref a], []⟩) (fun r s' => r = .ok (.ret (.bool true)) ∧ OldK s₁.heap s'.heap ∧ s'.os = s₁.os ∧ AllBare s'.gens) s₁ := by
    intro H hO hS hok hA hK
    have base_of : ∀ {b : Addr} {o : Obj}, s₁.heap.get? b = some o → H b = none → (hidT s₁.heap H).get? b = some o := fun e n => hidT_get e n
    have noA : ∀ {b : Addr} {o : Obj} {es : Array DictEntry} {ep : Nat}, s₁.heap.get? b = some o → o.data = .dict es ep → H b = none := fun {b o es ep} e d => by
      cases q : H b with
      | none => rfl
      | some u =>
        have e' : b = a := hA b (by rw [q]; simp)
        subst e'
        rw [ha] at e; cases e
        have d' : Data.seq vs.toArray _ = Data.dict es ep := d
        cases d'
    have nsK : ∀ {b : Addr} {m : Str → Option Value}, s₁.heap.Ns b m → (hidT s₁.heap H).Ns b m := fun {b m} ⟨o, es, ep, e, d, r⟩ => ⟨o, es, ep, base_of e (noA e d), d, r⟩
    have hKb : K.In (hidT s₁.heap H) := fun b o e => base_of (KX b o e) (by
      cases q : H b with
      | none => rfl
      | some u =>
        have e' : b = a := hA b (by rw [q]; simp)
        subst e'
        rw [hK (by rw [q]; simp)] at e; cases e)
    have hM : Mod K mg (hidT s₁.heap H) := ⟨hKb, nsK G.T.g, ⟨mb, nsK hbn, hbb⟩, let ⟨mc, h1, h2⟩ := hlim; ⟨mc, nsK h1, h2⟩⟩
    have e0 : Env0 l.prog w K mg (hidT s₁.heap H) callerA [] s₁ H := ⟨rfl, hM, fun b o e => of_hidT e, Nat.le_of_eq (hidT_size _ _), trivial, fun b hb => absurd (show b ∈ ([] : List Addr) from hb) (by simp), hok, .of_eq hg⟩
    refine codeAny_mono ((hF _ hKb (nsK G.T.g)).run callerA [] s₁ H ⟨[.ref a], []⟩ [.ref a] [.ref a] (fun v _ => v = .bl true) (fun _ _ _ => False) hr e0 (hb s₁ (.ref a)) (.cons rfl .nil) ⟨rfl, fun _ => 0, [], [.fro (ns.map .int)], ⟨fun i o e => (by cases e), fun i j hi => absurd hi (Nat.not_lt_zero _), fun p hp => by rw [hcl] at hp; cases hp⟩, .cons (.fro hS (reps_ints ns)) .nil, by rw [hok0]; exact fun ι' b H' _ h => by cases h; rfl⟩) fun r s' h => ?_
    cases r with
    | error e => exact (by obtain ⟨_, _, _, _, _, _, _, _, _, _, _, _, z⟩ := h; exact z : False).elim
    | ok fl =>
      cases fl with
      | next => exact False.elim h
      | brk => exact False.elim h
      | cont => exact False.elim h
      | ret u =>
        obtain ⟨v, H', os, bare, un, hok', r', q⟩ := h
        have q' : v = .bl true := q
        subst q'
        obtain rfl : u = Value.bool true := r'
        refine ⟨rfl, OldK.of_keep fun b o e => ?_, os, bare⟩
        cases q : H b with
        | none => exact un.keep b o e q (by intro z; exact absurd (show b ∈ ([] : List Addr) from z) (by simp)) (by simp)
        | some u =>
          rcases hO b with z | ⟨ob, xs, z⟩
          · rw [q] at z; cases z
          · have z2 := un.frzs b ob _ z
            obtain ⟨e1, _⟩ := hok b _ z
            obtain ⟨e2, _⟩ := hok' b _ z2
            rw [e] at e1; cases e1
            exact e2
  cases hk : K.lookup a with
  | some o =>
    -- the script is one of the module's own objects
    have e := KX a o hk
    rw [ha] at e
    cases e
    refine core (fun _ => none) (fun _ => .inl rfl) (.inr ⟨vs, _, hk, by rw [lenV]; exact hl, rv⟩) (fun b u z => by have z' : (none : Option HO) = some u := z; cases z') (fun b z => absurd rfl z) fun z => absurd rfl z
  | none =>
    refine core (fun b => if b = a then some (.frz { cls := .type "list", data := .seq vs.toArray } (.lst (ns.map V.int))) else none) (fun b => ?_) (.inl ⟨{ cls := .type "list", data := .seq vs.toArray }, if_pos rfl⟩) (fun b u z => ?_) (fun b z => ?_) fun _ => hk
    · by_cases hb : b = a
      · exact .inr ⟨_, _, if_pos hb⟩
      · exact .inl (if_neg hb)
    · by_cases hb : b = a
      · have z' := (if_pos hb).symm.trans z
        cases z'
        subst hb
        exact ⟨ha, by rw [List.length_map]; exact hl, vs, _, rv, ha⟩
      · have z' := (if_neg hb).symm.trans z
        cases z'
    · by_cases hb : b = a
      · exact hb
      · exact absurd (if_neg hb) z
end DL

set_option Elab.async false
set_option linter.all false
set_option maxRecDepth 100000
/-! DL27: what the head finds: constants and defaults by value, a hook of one's own. -/
namespace DL
open PySem PySem.Spec PyProof.Rows L2

/-- a value of the written part, by value -/
def wOfs (f : Value → Option W) : List Value → Option (List W)
  | [] => some []
  | u :: us => match f u, wOfs f us with
    | some w, some ws => some (w :: ws)
    | _, _ => none
def wOf : Nat → PySem.W.Frag → Value → Option W
  | 0, _, _ => none
  | n + 1, K, u => match u with
    | .none => some .non
    | .bool b => some (.bl b)
    | .int i _ => some (.int i)
    | .str x _ => some (.str x)
    | .ref a => match K.lookup a with
      | some ⟨.type t, _, .seq its _, _⟩ => if t = "tuple" ∧ its.size ≤ sizeLine then (wOfs (wOf n K) its.toList).map .tup else none
      | _ => none
    | _ => none
def RepV (K : PySem.W.Frag) (u : Value) (w : W) : Prop := ∃ v, RelV v u ∧ ∀ (ι : Nat → Addr) (n : Nat) (H : Hp), Rep K ι n H w v
theorem wOf_all {K : PySem.W.Frag} {m : Nat} (ih : ∀ (u : Value) (w : W), wOf m K u = some w → RepV K u w) : ∀ (us : List Value) (ws : List W), wOfs (wOf m K) us = some ws → ∃ vs, Vals vs us ∧ ∀ (ι : Nat → Addr) (n : Nat) (H : Hp), Reps K ι n H ws vs
  | [], _, e => by
    cases e; exact ⟨[], .nil, fun _ _ _ => .nil⟩
  | u :: us, _, e => by
    unfold wOfs at e
    split at e
    · rename_i w ws e1 e2
      cases e
      obtain ⟨v, h1, h2⟩ := ih u w e1
      obtain ⟨vs, h3, h4⟩ := wOf_all ih us ws e2
      exact ⟨v :: vs, .cons h1 h3, fun ι n H => .cons (h2 ι n H) (h4 ι n H)⟩
    · cases e
theorem wOf_ok {K : PySem.W.Frag} : ∀ (m : Nat) (u : Value) (w : W), wOf m K u = some w → RepV K u w
  | 0, _, _, e => by cases e
  | m + 1, u, w, e => by
    unfold wOf at e
    split at e
    · cases e; exact ⟨.non, rfl, fun _ _ _ => .non⟩
    · cases e; exact ⟨.bl _, rfl, fun _ _ _ => .bl _⟩
    · cases e; exact ⟨.int _, ⟨_, rfl⟩, fun _ _ _ => .int _⟩
    · cases e; exact ⟨.str _, ⟨_, rfl⟩, fun _ _ _ => .str _⟩
    · split at e
      · rename_i a _ t dd its n sl q
        split at e
        · rename_i ht
          obtain ⟨rfl, hz⟩ := ht
          obtain ⟨ws, e1, rfl⟩ := Option.map_eq_some_iff.mp e
          obtain ⟨vs, h1, h2⟩ := wOf_all (wOf_ok m) _ ws e1
          exact ⟨.ref a, rfl, fun ι k H => .tup (.inr ⟨_, its, n, q, rfl, rfl, hz, h1⟩) (h2 ι k H)⟩
        · cases e
      · cases e
    · cases e
/-- a module's constant -/
def cstB (K : PySem.W.Frag) (x : Str) (w : W) : Bool := match PySem.W.nsIn K mainGlobals x with
  | some (some u) => decide (wOf 4 K u = some w)
  | _ => false
theorem cstB_ok {K : PySem.W.Frag} {h : Heap} {mg : Str → Option Value} (X : K.In h) (G : h.Ns mainGlobals mg) {x : Str} {w : W} (c : cstB K x w = true) : Cst K mg x w := by
  unfold cstB at c
  split at c
  · rename_i u e
    obtain ⟨v, h1, h2⟩ := wOf_ok 4 u w (of_decide_eq_true c)
    exact ⟨u, v, PySem.W.mg_of X G e, h1, h2⟩
  · cases c
/-- a def's keyword-only defaults -/
def kwV (K : PySem.W.Frag) (kV : Value) (ns : List Str) (ws : List W) : Bool := match kV with
  | .ref D => decide (ns.length = ws.length) && (ns.zip ws).all fun p => match PySem.W.nsIn K D p.1 with
    | some (some u) => decide (wOf 4 K u = some p.2)
    | _ => false
  | _ => false
def kwB (K : PySem.W.Frag) (f : Addr) (ns : List Str) (ws : List W) : Bool := match K.lookup f with
  | some ⟨_, _, .func fd, _⟩ => kwV K fd.kwdefaults ns ws
  | _ => false
theorem kw_vals {K : PySem.W.Frag} {D : Addr} : ∀ (ns : List Str) (ws : List W), ns.length = ws.length → ((ns.zip ws).all fun p => match PySem.W.nsIn K D p.1 with
      | some (some u) => decide (wOf 4 K u = some p.2)
      | _ => false) = true → ∃ dv : List V, dv.length = ns.length ∧ (∀ (ι : Nat → Addr) (n : Nat) (H : Hp), Reps K ι n H ws dv) ∧ ∀ q ∈ ns.zip dv, ∃ u, PySem.W.nsIn K D q.1 = some (some u) ∧ RelV q.2 u
  | [], [], _, _ => ⟨[], rfl, fun _ _ _ => .nil, fun q h => by cases h⟩
  | [], _ :: _, h, _ => by cases h
  | _ :: _, [], h, _ => by cases h
  | x :: ns, w :: ws, h, c => by
    rw [List.zip_cons_cons, List.all_cons, Bool.and_eq_true] at c
    obtain ⟨c1, c2⟩ := c
    obtain ⟨dv, h1, h2, h3⟩ := kw_vals ns ws (Nat.succ.inj h) c2
    split at c1
    · rename_i u e
      obtain ⟨v, h4, h5⟩ := wOf_ok 4 u w (of_decide_eq_true c1)
      refine ⟨v :: dv, congrArg Nat.succ h1, fun ι n H => .cons (h5 ι n H) (h2 ι n H), fun q hq => ?_⟩
      rcases List.mem_cons.mp (show q ∈ (x, v) :: ns.zip dv from hq) with rfl | hq
      · exact ⟨u, e, h4⟩
      · exact h3 q hq
    · cases c1
/-- a def as the printed facts have it -/
def DefF (K : PySem.W.Frag) (mg : Str → Option Value) (x : Str) (st : Stmt) (kwn : List Str) (dfl : List W) : Prop :=
  ∃ (f : Addr) (fd : FuncData) (dv : List V), FunD K x x (defArgs st) (defBody st) (defScope st) [] (kwn.zip dv) f fd ∧ dv.length = kwn.length ∧ (∀ ι n H, Reps K ι n H dfl dv) ∧ mg x = some (.ref f)
theorem defF_ok {K : PySem.W.Frag} {h : Heap} {mg : Str → Option Value} (X : K.In h) (G : h.Ns mainGlobals mg) {x : Str} {st : Stmt} {f : Addr} {fd : FuncData} (F : FunD K x x (defArgs st) (defBody st) (defScope st) [] [] f fd) (g : mg x = some (.ref f)) : DefF K mg x st [] [] :=
  ⟨f, fd, [], F, rfl, fun _ _ _ => .nil, g⟩
theorem defF_kw {K : PySem.W.Frag} {mg : Str → Option Value} {x : Str} {st : Stmt} {f : Addr} {fd : FuncData} {kwn : List Str} {dfl : List W} (F : FunD K x x (defArgs st) (defBody st) (defScope st) [] [] f fd) (g : mg x = some (.ref f)) (c : kwB K f kwn dfl = true) : DefF K mg x st kwn dfl := by
  have kp := F.kp
  obtain ⟨oc, od, dV, kV, doc, pm, an, cdv, ct, osl, rfl, lk, hcd, hD, hK⟩ := F.ex
  unfold kwB at c
  rw [lk] at c
  have c' : kwV K kV kwn dfl = true := c
  unfold kwV at c'
  split at c'
  · rename_i D
    rw [Bool.and_eq_true] at c'
    obtain ⟨dv, h1, h2, h3⟩ := kw_vals kwn dfl (of_decide_eq_true c'.1) c'.2
    exact ⟨f, _, dv, ⟨⟨oc, od, dV, .ref D, doc, pm, an, cdv, ct, osl, rfl, lk, hcd, hD, .inr ⟨D, rfl, h3⟩⟩, kp⟩, h1, h2, g⟩
  · cases c'
/-! ### a hook of one's own -/
def obsM (chk : PySem.W.Frag → Bool) (fn : List He.DefD) (K : PySem.W.Frag) : He.AlD := (chk K && fn.all fun d => d.ok K, fn.map fun d => He.fnW K d.at_)
def SaysM (chk : PySem.W.Frag → Bool) (fn : List He.DefD) (K : PySem.W.Frag) : Prop := obsM chk fn K = He.valD fn
def obsMG (n : Nat) (chk : PySem.W.Frag → Bool) (fn : List He.DefD) (g : Addr → Option Obj) : He.AlD := obsM chk fn (He.frG g (He.asD g n))
def hookM (n : Nat) (chk : PySem.W.Frag → Bool) (fn : List He.DefD) : PySem.W.Hook where
  α := He.AlD
  obs := fun s => obsMG n chk fn s.heap.get?
  val := fun _ => He.valD fn
  says := fun _ h => ∃ K : PySem.W.Frag, K.In h ∧ SaysM chk fn K
  of := fun _ _ e => ⟨_, He.frG_in, e⟩
  keeps := fun _ _ _ ⟨K, hK, c⟩ k => ⟨K, PySem.W.Frag.In.keeps hK k, c⟩
theorem obsMG_eq {n : Nat} {chk : PySem.W.Frag → Bool} {fn : List He.DefD} {g : Addr → Option Obj} {s : Shared} (h : ∀ a, g a = s.heap.get? a) : obsMG n chk fn g = (hookM n chk fn).obs s := by
  have e : g = s.heap.get? := funext h
  rw [e] <;> rfl
theorem SaysM.chk {chk : PySem.W.Frag → Bool} {fn : List He.DefD} {K : PySem.W.Frag} (c : SaysM chk fn K) : chk K = true := (He.ba (show (chk K && fn.all fun d => d.ok K) = true from congrArg (fun z : He.AlD => z.1) c)).1
theorem SaysM.def_ {chk : PySem.W.Frag → Bool} {fn : List He.DefD} {K : PySem.W.Frag} (c : SaysM chk fn K) (i : Nat) {d : He.DefD} (h : fn[i]? = some d := by rfl) : ∃ fd, FunD K d.name d.qual d.params d.body d.scope (d.dvs K) (d.kws K) (He.fAd K d.at_) fd := by
  have c2 := (He.ba (show (chk K && fn.all fun d => d.ok K) = true from congrArg (fun z : He.AlD => z.1) c)).2
  have e : fn.map (fun d => He.fnW K d.at_) = fn.map He.DefD.val := congrArg (fun z : He.AlD => z.2) c
  have e2 : (fn.map fun d => He.fnW K d.at_)[i]? = (fn.map He.DefD.val)[i]? := by rw [e]
  rw [List.getElem?_map, List.getElem?_map, h] at e2
  exact He.DefD.funD (Option.some.inj e2) (List.all_eq_true.mp c2 d (List.mem_of_getElem? h))
end DL

set_option Elab.async false
set_option linter.all false
set_option maxRecDepth 100000
/-! DL28: raise of an own class over ValueError that keeps one field. -/
namespace DL
open PySem PySem.Spec PyProof.Rows L2

/-- what the head says of the class from which an own exception class takes its __init__ -/
structure BaseC (K : PySem.W.Frag) (B : Addr) : Prop where
  rd : PySem.W.readsIn K B (.type "type") = true
  ga : PySem.W.specialIn K (.ref B) "__getattribute__" = some (some (.builtin "type.__getattribute__"))
  ini : PySem.W.findCls K (.ref B) (.type "type") "__init__" = some (.val (.builtin "ValueError.__init__"))
def baseB (K : PySem.W.Frag) (B : Addr) : Bool := PySem.W.readsIn K B (.type "type") && (decide (PySem.W.specialIn K (.ref B) "__getattribute__" = some (some (.builtin "type.__getattribute__"))) &&
  (match PySem.W.findCls K (.ref B) (.type "type") "__init__" with
    | some (.val u) => decide (u = .builtin "ValueError.__init__")
    | _ => false))
theorem baseB_ok {K : PySem.W.Frag} {B : Addr} (h : baseB K B = true) : BaseC K B := by
  obtain ⟨h1, h⟩ := Bool.and_eq_true_iff.mp h
  obtain ⟨h2, h3⟩ := Bool.and_eq_true_iff.mp h
  refine ⟨h1, of_decide_eq_true h2, ?_⟩
  split at h3
  · rename_i u e
    rw [e, of_decide_eq_true h3]
  · cases h3
def oexB (K : PySem.W.Frag) (C : Addr) : Bool := (match K.lookup C with
  | some ⟨.type "type", _, .cls cd, sl⟩ => (match cd.mro, sl.toList with
    | .ref C' :: bm, [_, _, _, _, some (.builtin n), _] => C' == C && n == "ValueError.__new__" && !cd.hasDel && cd.hasDict && PySem.HandSPX.refsVE bm
    | _, _ => false)
  | _ => false) && (decide (PySem.W.findIn K (.ref C) "__setattr__" = some (some (.builtin "object.__setattr__"))) && (decide (PySem.W.subIn K (.ref C) (.type "BaseException") = some true) &&
    (decide (PySem.W.typeIn K (.ref C) = some (.type "type")) && PySem.W.keepIn K (.ref C))))
theorem oexB_ok {K : PySem.W.Frag} {C : Addr} (h : oexB K C = true) : OexC K C := by
  obtain ⟨q, h⟩ := Bool.and_eq_true_iff.mp h
  obtain ⟨h2, h⟩ := Bool.and_eq_true_iff.mp h
  obtain ⟨h3, h⟩ := Bool.and_eq_true_iff.mp h
  obtain ⟨h4, h5⟩ := Bool.and_eq_true_iff.mp h
  refine ⟨?_, of_decide_eq_true h2, of_decide_eq_true h3, of_decide_eq_true h4, h5⟩
  split at q
  · rename_i dd cd sl ho
    split at q
    · rename_i C' bm k0 k1 k2 k3 n k5 hm hs
      simp only [Bool.and_eq_true, beq_iff_eq, Bool.not_eq_true'] at q
      obtain ⟨⟨⟨⟨rfl, rfl⟩, hdel⟩, hdi⟩, hbm⟩ := q
      obtain ⟨nm, bs, mro, ns, qn, hd, sn, sub, ab, col, del⟩ := cd
      dsimp only at hm hdel hdi
      subst hm hdel hdi
      have hsl : sl = #[k0, k1, k2, k3, some (.builtin "ValueError.__new__"), k5] := by
        apply Array.toList_inj.mp
        rw [hs]
      subst hsl
      exact ⟨nm, qn, ns, bs, bm, sn, sub, ab, col, dd, k0, k1, k2, k3, k5, ho, hbm⟩
    · cases q
  · cases q
section
variable {X : Cx} {o e : Expr} {es : List Expr} {to te : TE} {ta : TA} {f : Str} {p p' p1 p2 pos : Pos} {Bn : Str} {B : Addr}
/-- B.__init__(self, ..), B an own class that has ValueError's -/
theorem pe_oinit {pl : Sem Bool} (hg : Gl X Bn) (hm : X.mg Bn = some (.ref B)) (b : BaseC X.K B) (ha : PA X (e :: es) ta)
    (hc : eval (.Call (.Attribute (.Name Bn p1) "__init__" p2) (e :: es) [] pos) X.env = (do
      let ov ← eval (.Name Bn p1) X.env
      standAt p2.atName
      let (f, first) ← holding [ov] (getMethod ov "__init__" pl)
      callWith pos f first (backTo pos (starEach (e :: es) X.env)) (backToKw pos (keywordEach [] X.env))) := by rfl)
    (hdb : (Bn == ("__debug__" : Str)) = false := by decide) (he : starEach (e :: es) X.env = (false, eval e X.env) :: starEach es X.env := by rfl) (hpl : (backTo pos (starEach es X.env)).any (·.1) = false := by rfl) :
    PE X (.Call (.Attribute (.Name Bn p1) "__init__" p2) (e :: es) [] pos) (tVeI X.K ta) := by
  refine ⟨fun pins s σ H Q I h => ?_⟩
  refine PySem.W.methodCall_KW (ld_glob I hg hm ?_ hdb) hc
  refine PySem.W.method_cls I.kIn b.ga (PySem.W.cls_value I.kIn b.rd b.ini (by decide +kernel) ?_)
  show wpAny _ _ (callWith pos (Value.builtin "ValueError.__init__") [] (backTo pos (starEach (e :: es) X.env)) []) _ _ _
  refine PyProof.Rows.callWith_method1 (thn (ha.run pos pins _ σ H _ (I.tok _) h) fun us s1 ⟨vs, H1, I1, r1, a, C, ws, ev, hl, T, ea, q⟩ => ?_) he hpl
  subst ev
  cases r1 with
  | @cons _ u0 _ ur ra rw' =>
    obtain rfl : u0 = Value.ref a := ra
    have hlen : ur.length ≤ sizeLine := by
      rw [← Paired.length rw', sizeLine_eq]
      omega
    exact oinit_ok T I1 ea hlen fun s' J => ⟨.non, H1, J, rfl, q⟩
end
/-- what such an __init__ keeps -/
def spI (K : PySem.W.Frag) (f : Str) : Sp := fun vs H Q _ => ∃ (a C : Addr) (y : V), vs = [.ref a, y] ∧ OexC K C ∧ PySem.W.findIn K (.ref C) f = some none ∧ H a = some (exo a C none) ∧
  ∀ dx, H dx = none → dx ≠ a → Q .non (upd (upd H dx (exd dx [(f, y)])) a (exo a C (some dx)))
/-- what the head finds of the class Cn of the text: q the qualified name of its __init__, st its statement, Bn the class that it names, f its field -/
structure ExcF (K : PySem.W.Frag) (mg : Str → Option Value) (Cn Bn f q : Str) (st : Stmt) (C B : Addr) : Prop where
  cls : mg Cn = some (.ref C)
  bas : mg Bn = some (.ref B)
  oex : OexC K C
  bc : BaseC K B
  nof : PySem.W.findIn K (.ref C) f = some none
  xf : XfC K C
  ini : ∃ (fI : Addr) (fd : FuncData), PySem.W.findIn K (.ref C) "__init__" = some (some (.ref fI)) ∧ PySem.W.typeIn K (.ref fI) = some (.type "function") ∧ FunD K "__init__" q (defArgs st) (defBody st) (defScope st) [] [] fI fd
theorem ini_run {K : PySem.W.Frag} {f x : Str} {vs : List V} {H : Hp} {Q : VK} {E : XK} (h : spI K f vs H Q E) :
    tSeq (tDrop (tVeI K (tCons (tVar 0) (tCons (tC (.str x)) tNil)))) (tOst K f (tVar 0) (tVar 1)) { nx := fun _ H' => Q .non H', rt := Q } (start ["self", f] vs) H := by
  obtain ⟨a, C, y, rfl, T, hno, ea, q⟩ := h
  refine ⟨.ref a, rfl, a, C, [.str x], rfl, Nat.le_of_ble_eq_true rfl, T, ea, ?_⟩
  exact ⟨y, rfl, .ref a, rfl, a, C, rfl, T, hno, .inl ⟨ea, fun dx n ne => q dx n ne⟩⟩
def sraise (C f : Str) (e : DE) : DS := fun sw S => (e sw S).to sw fun w S1 => .exc C [(f, w)] sw S1
section
variable {X : Cx} {cl : Cla} {Wx : L2.WX} {Cn Bn f : Str} {e : Expr} {fe : DE} {p pos pos' : Pos} {C B : Addr}
theorem t_raise {K : PySem.W.Frag} (T : OexC K C) (hno : PySem.W.findIn K (.ref C) f = some none) (hcl : cl Cn = C) {D : Ends} {σ : L2.St} {H : Hp} (h : tS K cl Wx (sraise Cn f fe) D σ H) :
    tMkO C (spI K f) [] (tCons (tE K cl Wx fe) tNil) σ H fun cls d H' => Wx cls d σ H' := by
  obtain ⟨ι, S, sw, A, h⟩ := h
  refine ⟨ι, S, sw, A, Res.imp (Res.to (RA := RV K) A h) fun y H1 ⟨ι1, S1, w1, g1, r1, _, h1⟩ => ?_⟩
  refine ⟨Nat.le_of_ble_eq_true rfl, fun a ha => ⟨a, C, y, rfl, T, hno, upd_same, fun dx n ne => ⟨rfl, dx, [(f, y)], upd_same, ?_, ?_, ?_⟩⟩⟩
  · rw [upd_ne ne, upd_same]
  · rw [upd_ne ne] at n; exact n
  · rw [upd_ne ne] at n
    have eH : upd (del (upd (upd (upd H1 a (exo a C none)) dx (exd dx [(f, y)])) a (exo a C (some dx))) a) dx (.xd [(f, y)]) = upd H1 dx (.xd [(f, y)]) := by
      funext b
      by_cases hb : b = dx
      · subst hb; rw [upd_same, upd_same]
      · rw [upd_ne hb, upd_ne hb]
        by_cases hba : b = a
        · subst hba; rw [del_same, ha]
        · rw [del_ne hba, upd_ne hba, upd_ne hb, upd_ne hba]
    rw [eH]
    have gD : Go K cl ι1 S1 H1 ι1 S1 (upd H1 dx (.xd [(f, y)])) := g1.rel.tuple n
    have := h1 ι1 σ dx [(f, y)] _ gD ((A.sl.go A.rel g1).go g1.rel gD) upd_same (.cons (k := f) (r1.go g1.rel gD) .nil) (fun i hi z => by
      obtain ⟨u, hu, _⟩ := g1.rel.at_ hi
      rw [← z, n] at hu; cases hu)
    rw [hcl] at this
    exact this
/-- raise C(e) -/
theorem z_raise {k : Nat} {fd : FuncData} {fI : Addr} (hc : X.calm = true) (tk : Takes X Wx) (T : OexC X.K C) (hno : PySem.W.findIn X.K (.ref C) f = some none) (hcl : cl Cn = C) (hm : X.mg Cn = some (.ref C))
    (iC : PySem.W.findIn X.K (.ref C) "__init__" = some (some (.ref fI))) (tI : PySem.W.typeIn X.K (.ref fI) = some (.type "function"))
    (F1 : FnOk X.prog X.w X.K X.mg X.base CX0 k fI fd ["self", f] (spI X.K f)) (hb : Binds X.K fd ["self", f] []) (hr : Room (k + 1) X.A) (he : PE X e (tE X.K cl Wx fe)) (hg : Gl X Cn) (hdb : (Cn == ("__debug__" : Str)) = false := by decide)
    (hs : starEach (e :: []) X.env = (false, eval e X.env) :: starEach [] X.env := by rfl) (hpl : (backTo pos (starEach [] X.env)).any (·.1) = false := by rfl) :
    PS X (.Raise (some (.Call (.Name Cn p) [e] [] pos)) none pos') (tS X.K cl Wx (sraise Cn f fe)) :=
  (ps_raise hc tk (pmk_oex T iC tI F1 hr hb .nil pass0 hg hm (pa_cons he pa_nil hs) hdb hs hpl)).dimp fun D σ H h => t_raise T hno hcl h
end
end DL

set_option Elab.async false
set_option linter.all false
set_option maxRecDepth 100000
set_option maxHeartbeats 2000000
/-! DL29: an exception caught and kept: try: .. except C as n: m = n. -/
namespace DL
open PySem PySem.Spec PyProof.Rows L2

section
variable {X : Cx} {pins : List (Addr × Obj)} {σ : L2.St} {H : Hp} {s : Shared}
theorem _root_.L2.Inv.track {a : Addr} {o : HO} {oe : Obj} (I : Inv X pins σ H s) (ho : s.heap.get? a = some oe) (hn : H a = none) (h0 : X.s_0.heap.get? a = none) (hx : X.ex = []) (nL : a ≠ X.env.locals) (nC : ∀ x c, X.env.cells.lookup x = some c → c ≠ a)
    (nP : ∀ p ∈ X.pn ++ pins, p.1 ≠ a) (new : ObjOk X.prog X.w (upd H a o) s.heap a o) : Inv X pins σ (upd H a o) s where
  ok := I.ok
  os := I.os
  bare := I.bare
  base := {
    keep := I.base.keep
    slot := I.base.slot
    free := fun b u e n hb => by
      rw [upd_ne (fun z => by rw [z, h0] at e; cases e)]
      exact I.base.free b u e n hb
    there := I.base.there
    tups := fun b xs e => by
      have q := I.base.tups b xs e
      rw [upd_ne (ne_of_none q hn)]; exact q
    frzs := fun b u xs e => by
      have q := I.base.frzs b u xs e
      rw [upd_ne (ne_of_none q hn)]; exact q
    tbls := fun b ps e => by
      obtain ⟨m, q⟩ := I.base.tbls b ps e
      exact ⟨m, by rw [upd_ne (ne_of_none q hn)]; exact q⟩ }
  loc := I.loc
  cell := I.cell
  free := by rw [upd_ne (Ne.symm nL)]; exact I.free
  freeC := fun x c e => by rw [upd_ne (nC x c e)]; exact I.freeC x c e
  pin := fun p hp => by
    obtain ⟨e, n, q⟩ := I.pin p hp
    exact ⟨e, by rw [upd_ne (nP p hp)]; exact n, q⟩
  hok := fun b u e => by
    by_cases hb : b = a
    · subst hb
      rw [upd_same] at e; cases e
      exact new
    · rw [upd_ne hb] at e
      exact (I.hok b u e).stay (fun c v _ q => q) (fun c q => by rw [upd_ne (ne_of_none q hn)]; exact q) fun c xs q => by rw [upd_ne (ne_of_none q hn)]; exact q
  len := I.len
theorem gone_ok2 {M : Model} {A : Around} {E : Value → Shared → Prop} {i : Nat} {n : Str} {pos : Pos} {Q : Unit → Shared → Prop} (I : Inv X pins σ H s) (hN : X.N.Nodup) (hi : X.N[i]? = some n) (hl : X.env.kindOf n = some .local)
    (h : ∀ s', Inv X pins (σ.set i none) H s' → (∀ b o, b ≠ X.env.locals → s.heap.get? b = some o → s'.heap.get? b = some o) → Q () s') : wpAny M A (do bindName X.env n .none; unbindBehindTheSuite X.env n pos) Q E s := by
  obtain ⟨m, hn, hlk⟩ := id I.loc
  have hcls : (X.env.scope.kind == .class || (X.env.scope.kind == .module && X.env.locals != X.env.globals)) = false := by rw [I.ok.kind]; rfl
  refine wpAny_nameGoes_keeps hl hn hcls fun h' v hn' hs => h _ ?_ fun b o hb e => (hs.2 b hb).trans e
  obtain ⟨oL, _, _, hoL, _⟩ := id hn
  have neL : ∀ b o, X.s_0.heap.get? b = some o → b ≠ X.env.locals := fun b o e => Nat.ne_of_lt (Nat.lt_of_lt_of_le (Heap.lt_size e) I.ok.above)
  refine ⟨I.ok, I.os, I.bare, ⟨fun b o e n hb hx => ?_, fun b o e n hb hx => ?_, I.base.free, fun b o e hx => ?_, I.base.tups, I.base.frzs, I.base.tbls⟩, ⟨_, hn', fun j y v' e1 e2 e3 => ?_⟩, fun y c e => ?_, I.free, I.freeC, fun p hp => ?_, fun b ob e => ?_, by simpa using I.len⟩
  · exact (hs.2 b (neL b o e)).trans (I.base.keep b o e n hb hx)
  · obtain ⟨sl, e1⟩ := I.base.slot b o e n hb hx
    exact ⟨sl, (hs.2 b (neL b o e)).trans e1⟩
  · obtain ⟨o', e1⟩ := I.base.there b o e hx
    exact ⟨o', (hs.2 b (neL b o e)).trans e1⟩
  · by_cases hj : j = i
    · subst hj
      by_cases hlt : j < σ.length
      · rw [List.getElem?_set_self hlt] at e2; cases e2
      · rw [List.getElem?_eq_none (by simpa using hlt)] at e2; cases e2
    · rw [List.getElem?_set_ne (Ne.symm hj)] at e2
      obtain ⟨u', r', q⟩ := hlk j y v' e1 e2 e3
      refine ⟨u', r', ?_⟩
      rcases q with ⟨k, e⟩ | ⟨k, c, e, z⟩
      · have ny : y ≠ n := fun e => hj (nodup_ix hN e1 (e ▸ hi))
        exact .inl ⟨k, (if_neg ny).trans e⟩
      · exact .inr ⟨k, c, e, z.sameBut hs (I.cne y c e)⟩
  · obtain ⟨w', z⟩ := I.cell y c e
    exact ⟨w', z.sameBut hs (I.cne y c e)⟩
  · obtain ⟨e, n, ne, nf, d⟩ := I.pin p hp
    exact ⟨(hs.2 p.1 ne).trans e, n, ne, nf, d⟩
  · refine (I.hok b ob e).stay (fun c w' hc q => (hs.2 c ?_).trans q) (fun _ q => q) fun _ _ q => q
    intro z
    subst z
    rcases hc with hc | hc
    · rw [← hc, I.free] at e; cases e
    · rw [I.free] at hc; cases hc
end
/-- what the clause wishes of an exception of the body -/
def wKeep (K : PySem.W.Frag) (c : Value) (i j : Nat) (Wout : L2.WX) (D : Ends) : L2.WX := fun cls d σ H =>
  ∃ b, PySem.W.exmOne K cls c = some b ∧ (b = true → ∃ C dd, cls = .ref C ∧ d = some dd ∧ ∀ a, H a = none → D.nx (((σ.set i (some (.ref a))).set j (some (.ref a))).set i none) (upd H a (XO a C dd))) ∧ (b = false → Wout cls d σ H)
section
variable {X : Cx} {x n m : Str} {c : Value} {i j : Nat} {body : List Stmt} {np np2 mp pos pos' pos2 : Pos} {tb : L2.WX → TS} {Wout : L2.WX}
theorem ps_try_keep (hs : X.stack = X.env :: X.outer) (hf : X.env.frame = some X.env.locals) (hx : X.ex = []) (hN : X.N.Nodup) (hi : X.N[i]? = some n) (hj : X.N[j]? = some m) (hln : X.env.kindOf n = some .local) (hlm : X.env.scope.names.lookup m = some .local) (hc : Names X x c) (tk : Takes X Wout)
    (hb : ∀ (W : WX) (pn : List (Addr × Obj)) (xe : Value → Shared → Prop), Takes (X.tr pn xe) W → PassesOwn (model X.prog X.w) X.A X.env xe → PSs (X.tr pn xe) body (tb W)) (hdn : (n == ("__debug__" : Str)) = false := by decide) (hcd : (n == ("__classdict__" : Str)) = false := by decide)
    (hsw : swapsWithSole [.Name m mp] (.Name n np2) pos2.line X.env = pure false := by rfl) (hsw2 : swappedStores [.Name m mp] (.Name n np2) X.env = pure none := by rfl) :
    PS X (.Try body [.ExceptHandler (some (.Name x np)) (some n) [.Assign [.Name m mp] (.Name n np2) pos2] pos'] [] [] pos) (fun D σ H => tb (wKeep X.K c i j Wout D) D σ H) := by
  refine ⟨fun pins s σ H D I h => ?_⟩
  have ok := I.ok
  have hfr : X.A.frames = some (X.env :: X.outer) := by rw [ok.frames, hs]
  have hloc : Loc X.env.scope n := .inl hln
  refine wpAny_Try_except ?_
  refine wpAny_mono ((hb (wKeep X.K c i j Wout D) (X.pn ++ pins) (fun e s₁ => wpAny (model X.prog X.w) X.A (noteFrame e X.env) (fun _ s₂ => wpAny (model X.prog X.w) X.A (setFlight e none) (fun _ s₃ =>
    wpAny (model X.prog X.w) X.A (handleBy e X.env [.ExceptHandler (some (.Name x np)) (some n) [.Assign [.Name m mp] (.Name n np2) pos2] pos']) (SP X pins D) X.xe s₃) X.xe s₂) X.xe s₁) (fun u s' xx => ?_) PassesOwn.looking).run [] s σ H D (I.toTry _) h) (fun f s1 hsp => ?_) (fun e s1 he => he)
  · -- the catch
    obtain ⟨a, B, sI, pins', σ', H', cls, d, rfl, J', nb, up, sky, na, os, ag, b, hb1, hyes, hno⟩ := xx
    have J : Inv X pins σ' H' sI := J'.ofTry ok
    have sky' : Sky B (X.env :: X.outer) a (Zc cls d) X.env.locals s'.heap := by rw [← hs]; exact sky
    show wpAny (model X.prog X.w) X.A (noteFrame (.ref a) X.env) _ _ _
    refine Sky.land Zc.steady hfr hf sky' fun h3 fl3 up3 => ?_
    have J3 : Inv X pins σ' H' { s' with heap := h3 } := J.landed nb fl3.1 (up.trans up3) os ag
    obtain ⟨oe3, vs3, he3, hz3, hd3⟩ := fl3.there
    have notFr : ∀ {h : Heap} {o : Obj} {vs : Array Value}, h.FunFrames B (X.env :: X.outer) → h.get? a = some o → o.data = .fields vs → a ∉ frs (X.env :: X.outer) := fun {h o vs} ff e dd hm => by
      obtain ⟨_, o', e', hnf⟩ := ff.mem hm
      rw [e] at e'; cases e'
      exact hnf _ dd
    have nfr := notFr fl3.2.2.1 he3 hd3
    have nL : a ≠ X.env.locals := fun z => nfr (List.mem_filterMap.mpr ⟨X.env, List.mem_cons_self, by rw [hf, z]⟩)
    have nF : a ∉ X.fs := fun hm => by
      obtain ⟨e, he, q⟩ := List.mem_filterMap.mp hm
      exact nfr (List.mem_filterMap.mpr ⟨e, List.mem_cons_of_mem _ he, q⟩)
    have nB : B.get? a = none := fl3.2.1
    have nS : sI.heap.get? a = none := by
      cases q : sI.heap.get? a with
      | none => rfl
      | some o =>
        have := nb a o q (by rw [hs]; exact nfr)
        rw [nB] at this; cases this
    have n0 : X.s_0.heap.get? a = none := by
      cases q : X.s_0.heap.get? a with
      | none => rfl
      | some o =>
        obtain ⟨o', q'⟩ := J.base.there a o q (by rw [hx]; exact List.not_mem_nil)
        rw [nS] at q'; cases q'
    have nP : ∀ p ∈ X.pn ++ pins, p.1 ≠ a := fun p hp z => by
      have := (J.pin p hp).1
      rw [z, nS] at this; cases this
    have S3 := J3.suite he3 hd3 na nL nF
    refine wpAny_handleBy_cons (codeAny_handlers_test ?_) (by intro q; cases q)
    have LT : PySem.W.Looks (model X.prog X.w) h3 (typeOf (.ref a)) cls := fun A Q E s k q => wpAny_typeOf_ref (k _ _ he3) (by rw [hz3.1]; exact q)
    have LM := PySem.W.exm_one (M := model X.prog X.w) (J3.kIn) LT hb1
    have test : ∀ {Q : Value → Shared → Prop} {E : Value → Shared → Prop}, Q c { s' with heap := h3 } → wpAny (model X.prog X.w) (X.A.mark (some (.ref a))) (eval (.Name x np) X.env) Q E { s' with heap := h3 } := fun {Q E} q => by
      obtain ⟨hg, hdbg, hm | ⟨hm, hv, hnn⟩⟩ := hc
      · exact ld_glob (X := X.suite a ((a, oe3) :: (X.pn ++ pins))) S3 hg hm q hdbg
      · exact ld_blt (X := X.suite a ((a, oe3) :: (X.pn ++ pins))) S3 hg hm hv q hnn hdbg
    refine test (LM.here ?_)
    cases b with
    | true =>
      refine codeAny_handlers_suite_as ?_
      refine HandSPX.lands_againZ fl3 fun h4 fl4 up4 => ?_
      have J4 : Inv X pins σ' H' { s' with heap := h4 } := J.landed nb fl4.1 ((up.trans up3).trans up4) os ag
      obtain ⟨oe4, vs4, he4, hz4, hd4⟩ := fl4.there
      have S4 := J4.suite he4 hd4 na nL nF
      refine store_ok (X := X.suite a ((a, oe4) :: (X.pn ++ pins))) (v := .ref a) S4 hN hi hloc rfl (fun s5 S5 => ?_) (.inr hln)
      obtain ⟨C, dd, ec, ed, hq⟩ := hyes rfl
      subst ec ed
      have hv : Vis X.env.scope n := .inl hln
      have hsu : PSs (X.suite a ((a, oe4) :: (X.pn ++ pins))) [.Assign [.Name m mp] (.Name n np2) pos2] _ := pss_one (ps_asg (pos := pos2) (pe_var (pos := np2) hi hv hdn hcd) (pg_name (pos := mp) hN hj (.inl hlm) (.inr hlm)) hsw hsw2 (by rfl))
      have hlt : i < σ'.length := by
        rw [J.len]
        exact (List.getElem?_eq_some_iff.mp hi).1
      refine wpAny_mono (hsu.run [] s5 (σ'.set i (some (.ref a))) H' { nx := fun σ6 H6 => σ6 = (σ'.set i (some (.ref a))).set j (some (.ref a)) ∧ H6 = H', rt := fun _ _ => False } S5 ?_) (fun f s6 hsp => ?_) (fun _ _ z => False.elim z)
      · exact ⟨.ref a, List.getElem?_set_self hlt, rfl, rfl⟩
      cases f with
      | next =>
        obtain ⟨σ6, H6, S6, rfl, rfl⟩ := hsp
        obtain ⟨he6, _⟩ := S6.pin (a, oe4) (List.mem_append_left _ List.mem_cons_self)
        refine gone_ok2 (S6.unsuite ok) hN hi hln fun s7 J7 k7 => ?_
        have he7 : s7.heap.get? a = some oe4 := k7 a oe4 nL he6
        refine ⟨_, _, J7.track (o := XO a C dd) he7 na n0 hx nL (fun y c' e z => ?_) nP ?_, hq a na⟩
        · subst z
          obtain ⟨v, o', e1, e2⟩ := J7.cell y _ e
          rw [he7] at e1; cases e1
          rw [hd4] at e2; cases e2
        · exact ⟨⟨oe4, vs4, he7, hz4.1, hz4.2, hd4⟩, ⟨oe4, he7⟩, fun h1 h2 ⟨oe, vs, q1, q2, q3, q4⟩ k => ⟨oe, vs, k _ q1, q2, q3, q4⟩⟩
      | brk =>
        obtain ⟨_, _, _, q6⟩ := hsp
        exact q6.elim
      | cont =>
        obtain ⟨_, _, _, q6⟩ := hsp
        exact q6.elim
      | ret u =>
        obtain ⟨_, _, _, _, _, q6⟩ := hsp
        exact q6.elim
    | false =>
      show wpAny _ X.A (handleBy (.ref a) X.env []) _ _ _
      refine wpAny_handleBy_nil ?_
      obtain ⟨k1, k2, k3, oe, vs, T, oT, ts', he, hz, hd, h1, hr⟩ := id fl3
      unfold PySem.passOn
      refine wpAny_bind (wpAny_field he hd h1 ?_)
      rw [if_neg (show ¬ ((Value.ref T == Value.none) = true) from by simp)]
      have fin : wpAny (model X.prog X.w) X.A (setFlight (.ref a) X.env.frame) (fun _ s4 => wpAny (model X.prog X.w) X.A (throw (.ref a) : Sem Flow) (SP X pins D) X.xe s4) X.xe { s' with heap := h3 } := by
        rw [hf]
        refine HandSPX.setFlight_upZ fl3 fun h4 hh4 up4 => wpAny_throw (tk _ _ ?_)
        exact ⟨a, B, sI, pins, σ', H', cls, d, rfl, J, nb, (up.trans up3).trans up4, .inr (.inr (by rw [hs]; exact hh4)), na, os, ag, hno rfl⟩
      first
        | exact wpAny_bind (wpAny_pure (wpAny_bind fin))
        | exact wpAny_bind fin
  · cases f with
    | next =>
      obtain ⟨σ', H', J', q⟩ := hsp
      exact wpAny_execs_nil ⟨σ', H', J'.ofTry ok, q⟩
    | brk =>
      obtain ⟨σ', H', J', q⟩ := hsp
      exact ⟨σ', H', J'.ofTry ok, q⟩
    | cont =>
      obtain ⟨σ', H', J', q⟩ := hsp
      exact ⟨σ', H', J'.ofTry ok, q⟩
    | ret u =>
      obtain ⟨v, σ', H', J', r, q⟩ := hsp
      exact ⟨v, σ', H', J'.ofTry ok, r, q⟩
end
end DL

set_option Elab.async false
set_option linter.all false
set_option maxRecDepth 100000
set_option maxHeartbeats 2000000
/-! DL30: try by denotation; isinstance and fields of a kept exception. -/
namespace PySem.W
open PySem PySem.Spec PySem.Calls PyProof.Rows
section
variable {prog : Program} {w : World} {A : Around} {E : Value → Shared → Prop} {s : Shared} {K : Frag} {x D : Addr} {ox : Obj}
theorem findObj_dataD {C : Addr} {od : Option Obj} {name : Str} {a g : Value} (hc : (clsIn K C).isSome = true) (ha : findIn K (.ref C) name = some (some a)) (hg : specialIn K a "__get__" = some (some g)) (ht : takesIn K a = some true) : findObj K C od name = some (.bind g a) := by
  obtain ⟨cd, hc⟩ := Option.isSome_iff_exists.mp hc
  unfold findObj
  rw [hc, Option.bind_some, ha, Option.bind_some]
  simp [hg, ht]
theorem kin_classD {od : Option Obj} {Q : Option Value → Shared → Prop} (hga : findIn K (.ref D) "__getattribute__" = some (some (.builtin "BaseException.__getattribute__"))) (hgt : findIn K (.ref D) "__getattr__" = some none) (hsub : subIn K (.ref D) (.type "BaseException") = some true)
    (hdct : hasDictIn K D = true) (ha : findIn K (.ref D) "__class__" = some (some (.builtin "object.__class__")))
    (hn : specialIn K (.builtin "object.__class__") "__get__" = some (some (.builtin "getset_descriptor.__get__"))) (htk : takesIn K (.builtin "object.__class__") = some true) (hm : mroIn K D (.type "object") = some true)
    (X : K.In s.heap) (I : InstAt s.heap x ox D od) (h : Q (some (.ref D)) { s with toks := s.toks + 1 }) : wpAny (model prog w) A (getAttr? (.ref x) "__class__") Q E s := by
  have hf : findObj K D od "__class__" = some (.bind (.builtin "getset_descriptor.__get__") (.builtin "object.__class__")) := findObj_dataD (by obtain ⟨cd, hc, _⟩ := any_some hdct; rw [hc]; rfl) ha hn htk
  obtain ⟨hp, g, d, t, os⟩ := s
  have L0 := I.type (M := model prog w)
  have L1 := looks_findIn (M := model prog w) X hga
  have L2 := looks_findIn (M := model prog w) X hgt
  have L3 := looks_find (M := model prog w) X I hf
  have sub : Looks (model prog w) hp (isInstance (.ref x) (.type "BaseException")) true := L0.andThen (looks_subIn X hsub)
  have hx0 : (false && onTheHeap (Value.builtin "BaseException.__getattribute__")) = false := rfl
  have hx2 : (Value.builtin "BaseException.__getattribute__" == Value.builtin "object.__getattribute__") = false := by decide +kernel
  have hx1 : (onTheHeap (Value.ref D) && Value.builtin "BaseException.__getattribute__" == Value.builtin "object.__getattribute__") = false := by rw [hx2]; rfl
  unfold getAttr? getAttrBy? getAttrBy
  refine wpAny_bind (wpAny_mkText (wpAny_bind (wpAny_attempt (wpAny_holding (wpAny_bind (L0.at (wpAny_bind (L1.at ?_))))))))
  show wpAny _ _ (if (onTheHeap (Value.ref D) && Value.builtin "BaseException.__getattribute__" == Value.builtin "object.__getattribute__") = true then _ else _) _ _ _
  rw [hx1, if_neg Bool.false_ne_true]
  unfold getAttrByItsOwn hookBefore
  refine wpAny_bind ?_
  rw [if_pos (show onTheHeap (Value.ref D) = true from rfl)]
  refine L2.at ?_
  refine wpAny_bind (wpAny_attempt (wpAny_holding ?_))
  unfold callGetattribute
  rw [hx0, if_neg Bool.false_ne_true]
  unfold boundAndCalled
  rw [PySem.F.excAttr_ValueError.ga.bind (.ref x)]
  refine wpAny_bind (wpAny_pure ?_)
  show wpAny _ _ (call (.builtin "BaseException.__getattribute__") [.ref x, .str "__class__" t]) _ _ _
  refine wpAny_call (codeAny_call_builtin PySem.F.excAttr_ValueError.ga.plain PySem.F.entry_bexc_ga ?_)
  refine @check_slot (model prog w) _ _ ⟨hp, g, d, t + 1, os⟩ "BaseException.__getattribute__" "BaseException" "__getattribute__" (.ref x) [.str "__class__" t] [] _ (by decide +kernel) (by decide +kernel) sub (PySem.F.args_bexc_ga (.ref x) (.str "__class__" t)) ?_
  unfold Builtin.«object.__getattribute__»
  refine wpAny_bind (wpAny_of_eq (a := ((Value.ref x : Value), [Value.str "__class__" t])) (by first | rfl | (simp only [slotArgs]; rfl)) ?_)
  refine wpAny_bind (wpAny_pure (wpAny_bind (L0.at (wpAny_bind (L3.at ?_)))))
  show wpAny _ _ (holding [Value.builtin "object.__class__"] (call (.builtin "getset_descriptor.__get__") [.builtin "object.__class__", .ref x, .ref D]) >>= ret) _ _ _
  refine wpAny_bind (wpAny_holding (wpAny_call (class_get (s := ⟨hp, g, d, t + 1, os⟩) (ox := ox) (od := od) X I hm ?_)))
  refine wpAny_pure ?_
  show wpAny _ _ (handedOut (.ref D)) _ _ _
  rw [handedOut_of (v := .ref D) rfl]
  first
    | exact wpAny_pure (wpAny_pure h)
    | exact wpAny_pure h
    | exact wpAny_pure (wpAny_bind (wpAny_pure (wpAny_pure h)))
theorem handS_kitx_excD {od : Option Obj} (hga : findIn K (.ref D) "__getattribute__" = some (some (.builtin "BaseException.__getattribute__"))) (hgt : findIn K (.ref D) "__getattr__" = some none) (hsub : subIn K (.ref D) (.type "BaseException") = some true) (hdct : hasDictIn K D = true) (ha : findIn K (.ref D) "__class__" = some (some (.builtin "object.__class__")))
    (hn : specialIn K (.builtin "object.__class__") "__get__" = some (some (.builtin "getset_descriptor.__get__"))) (htk : takesIn K (.builtin "object.__class__") = some true) (hm : mroIn K D (.type "object") = some true) :
    KitX K (.ref x) (.ref D) (fun h => InstAt h x ox D od) where
  ty := fun _ _ _ I => I.type
  it := fun _ _ X _ => by
    obtain ⟨cdD, hcD, _⟩ := any_some hdct
    unfold clsIn at hcD
    split at hcD
    · rename_i c' d' cd' sl' ho
      intro A' Q' E' s' k q
      unfold isType loadHead
      exact wpAny_bind (wpAny_loadPart (k _ _ (X _ _ ho)) (wpAny_pure q))
    · cases hcD
  ne := fun h tp dd its n sl X htp => by
    obtain ⟨cdD, hcD, _⟩ := any_some hdct
    refine Bool.eq_false_iff.mpr fun q => ?_
    have e : D = tp := Value.ref.inj (beq_iff_eq.mp q)
    subst e
    unfold clsIn at hcD
    split at hcD
    · rename_i c' d' cd' sl' ho
      have z := (X _ _ ho).symm.trans htp
      cases z
    · cases hcD
  ca := fun X I k => kin_classD hga hgt hsub hdct ha hn htk hm X I k
end
end PySem.W
namespace DL
open PySem PySem.Spec PyProof.Rows L2

def excCB (K : PySem.W.Frag) (D : Addr) : Bool := decide (PySem.W.findIn K (.ref D) "__getattribute__" = some (some (.builtin "BaseException.__getattribute__"))) && (decide (PySem.W.findIn K (.ref D) "__getattr__" = some none) && (decide (PySem.W.subIn K (.ref D) (.type "BaseException") = some true) && (PySem.W.hasDictIn K D &&
  (decide (PySem.W.findIn K (.ref D) "__class__" = some (some (.builtin "object.__class__"))) && (decide (PySem.W.specialIn K (.builtin "object.__class__") "__get__" = some (some (.builtin "getset_descriptor.__get__"))) && (decide (PySem.W.takesIn K (.builtin "object.__class__") = some true) && decide (PySem.W.mroIn K D (.type "object") = some true)))))))
theorem excCB_ok {K : PySem.W.Frag} {D : Addr} (h : excCB K D = true) : ExcC K D := by
  obtain ⟨h1, h⟩ := Bool.and_eq_true_iff.mp h
  obtain ⟨h2, h⟩ := Bool.and_eq_true_iff.mp h
  obtain ⟨h3, h⟩ := Bool.and_eq_true_iff.mp h
  obtain ⟨h4, h⟩ := Bool.and_eq_true_iff.mp h
  obtain ⟨h5, h⟩ := Bool.and_eq_true_iff.mp h
  obtain ⟨h6, h⟩ := Bool.and_eq_true_iff.mp h
  obtain ⟨h7, h8⟩ := Bool.and_eq_true_iff.mp h
  exact ⟨of_decide_eq_true h1, of_decide_eq_true h2, of_decide_eq_true h3, h4, of_decide_eq_true h5, of_decide_eq_true h6, of_decide_eq_true h7, of_decide_eq_true h8⟩
/-! ### try: .. except C as n: m = n -/
/-- sub: is a class of the text caught -/
def stry (sub : Str → Option Bool) (i j : Nat) (f : DS) : DS := fun sw S => match f sw S with
  | .exc C fs sw1 S1 => match sub C with
    | some true => .nx (((sw1.set i (some (.ref S1.length))).set j (some (.ref S1.length))).set i none) (S1 ++ [.exc C fs])
    | some false => .exc C fs sw1 S1
    | none => .bad
  | r => r
section
variable {X : Cx} {cl : Cla} {Wx : L2.WX} {x n m : Str} {c : Value} {i j : Nat} {body : List Stmt} {np np2 mp pos pos' pos2 : Pos} {f : DS}
theorem t_try {K : PySem.W.Frag} {sub : Str → Option Bool} (hsub : ∀ C b, sub C = some b → PySem.W.exmOne K (.ref (cl C)) c = some b) {D : Ends} {σ : L2.St} {H : Hp} (h : tS K cl Wx (stry sub i j f) D σ H) : tS K cl (wKeep K c i j Wx D) f D σ H := by
  obtain ⟨ι, S, sw, A, h⟩ := h
  refine ⟨ι, S, sw, A, ?_⟩
  unfold stry at h
  cases q : f sw S with
  | exc C fs sw1 S1 =>
    rw [q] at h
    intro ι1 σ1 d gs H1 g1 s1 ed kr ne
    simp only at h
    cases e : sub C with
    | none => rw [e] at h; exact h.elim
    | some b =>
      refine ⟨b, hsub C b e, fun eb => ?_, fun eb => ?_⟩
      · subst eb
        rw [e] at h
        refine ⟨cl C, d, rfl, rfl, fun a ha => ?_⟩
        have hda : d ≠ a := ne_of_none ed ha
        have g := g1.rel.alloc ha (u := XO a (cl C) d) (o := .exc C fs) ⟨d, gs, upd_same, by rw [upd_ne hda]; exact ed, kr.mono (Nat.le_succ _) (fun k hk => ins_lt hk) fun a u _ e => upd_keep ha a u e, fun k hk => by
          by_cases hk2 : k < S1.length
          · rw [ins_lt hk2]; exact ne k hk2
          · have : k = S1.length := by omega
            subst this
            rw [ins_same]; exact hda⟩
        have rr : Rep K (ins_ ι1 S1.length a) (S1 ++ [WO.exc C fs]).length (upd H1 a (XO a (cl C) d)) (.ref S1.length) (.ref (ins_ ι1 S1.length a S1.length)) := .ref (by simp)
        rw [ins_same] at rr
        exact h _ _ _ (g1.trans g) ((((s1.go g1.rel g).set i rr).set j rr).unset i)
      · subst eb
        rw [e] at h
        exact h ι1 σ1 d gs H1 g1 s1 ed kr ne
  | nx a b => rw [q] at h; exact h
  | rt a b => rw [q] at h; exact h
  | bk a b => rw [q] at h; exact h
  | ct a b => rw [q] at h; exact h
  | bad => rw [q] at h; exact h
theorem z_try {sub : Str → Option Bool} (hsub : ∀ C b, sub C = some b → PySem.W.exmOne X.K (.ref (cl C)) c = some b) (hs : X.stack = X.env :: X.outer) (hf : X.env.frame = some X.env.locals) (hx : X.ex = []) (hN : X.N.Nodup) (tk : Takes X Wx) (hc : Names X x c)
    (hb : ∀ (W : L2.WX) (pn : List (Addr × Obj)) (xe : Value → Shared → Prop), Takes (X.tr pn xe) W → PassesOwn (model X.prog X.w) X.A X.env xe → PSs (X.tr pn xe) body (tS X.K cl W f))
    (hi : X.N[i]? = some n := by rfl) (hj : X.N[j]? = some m := by rfl) (hln : X.env.kindOf n = some .local := by rfl) (hlm : X.env.scope.names.lookup m = some .local := by rfl) (hdn : (n == ("__debug__" : Str)) = false := by decide) (hcd : (n == ("__classdict__" : Str)) = false := by decide)
    (hsw : swapsWithSole [.Name m mp] (.Name n np2) pos2.line X.env = pure false := by rfl) (hsw2 : swappedStores [.Name m mp] (.Name n np2) X.env = pure none := by rfl) :
    PS X (.Try body [.ExceptHandler (some (.Name x np)) (some n) [.Assign [.Name m mp] (.Name n np2) pos2] pos'] [] [] pos) (tS X.K cl Wx (stry sub i j f)) :=
  (ps_try_keep hs hf hx hN hi hj hln hlm hc tk (tb := fun W => tS X.K cl W f) hb hdn hcd hsw hsw2).dimp fun D σ H h => t_try hsub h
end
/-! ### isinstance(e, C), e.f -/
/-- isa: is a class of the text one of the class that is asked -/
def isiE (isa : Str → Option Bool) (w : W) (S : Hs) : R W := match w with
  | .ref n => match S[n]? with
    | some (.exc C _) => match isa C with
      | some b => .ok (.bl b) S
      | none => .bad
    | _ => .bad
  | _ => .bad
def fldX (isf : Str → Bool) (f : Str) (w : W) (S : Hs) : R W := match w with
  | .ref n => match S[n]? with
    | some (.exc C fs) => if isf C = true then (match fs.lookup f with
      | some w => .ok w S
      | none => .bad) else .bad
    | _ => .bad
  | _ => .bad
theorem KReps.look {K : PySem.W.Frag} {ι : Nat → Addr} {n : Nat} {H : Hp} {f : Str} {w : W} : ∀ {fs : List (Str × W)} {gs : List (Str × V)}, KReps K ι n H fs gs → fs.lookup f = some w → ∃ v, gs.lookup f = some v ∧ Rep K ι n H w v
  | [], _, _, e => by cases e
  | p :: r, _, h, e => by
    obtain ⟨v, t, rfl, h1, h2⟩ := h.cons_inv
    obtain ⟨pk, pv⟩ := p
    rw [List.lookup_cons] at e ⊢
    cases q : f == pk with
    | true =>
      simp only [q] at e ⊢
      cases e
      exact ⟨v, rfl, h1⟩
    | false =>
      simp only [q] at e ⊢
      exact KReps.look (fs := r) h2 e
def rIsX (K : PySem.W.Frag) : List V → Hp → VK → Prop := fun xs H Q => ∃ (a C d : Addr) (gs : List (Str × V)) (c : V) (cv : Value) (b : Bool), xs = [.ref a, c] ∧ H a = some (XO a C d) ∧ H d = some (.xd gs) ∧ ExcC K C ∧ (∀ u, RelV c u → u = cv) ∧ PySem.W.kitOne K (.ref C) cv = some b ∧ Q (.bl b) H
section
variable {X : Cx}
theorem exc_inst {pins : List (Addr × Obj)} {σ : L2.St} {H : Hp} {s : Shared} {a C d : Addr} {gs : List (Str × V)} (I : Inv X pins σ H s) (ha : H a = some (XO a C d)) (hd : H d = some (.xd gs)) : ∃ (oe od : Obj) (mA : Str → Option Value), PySem.W.InstAt s.heap a oe C (some od) ∧ s.heap.get? d = some od ∧ (∀ f, PySem.W.lookIn f od = some (mA f)) ∧ ∀ f, RelO (gs.lookup f) (mA f) := by
  obtain ⟨⟨oe, vs, e1, e2, e3, e4⟩, _, _⟩ := I.hok a _ ha
  obtain ⟨mA, hns, hr⟩ := I.hok d _ hd
  obtain ⟨od, ho, hl⟩ := lookIn_ns hns
  exact ⟨oe, od, mA, ⟨e1, e2, by unfold PySem.W.notCls; rw [e4] <;> rfl, by rw [e3]; exact ho⟩, ho, fun f => hl f, hr⟩
theorem call_isX : CallR X (.builtin "isinstance") (rIsX X.K) := by
  intro pins s σ H xs us Q I r h
  obtain ⟨a, C, d, gs, c, cv, b, rfl, ha, hd, EC, hcv, e, q⟩ := h
  obtain ⟨u1, u2, rfl, rx, rt⟩ := vals2 r
  cases rx
  have ec := hcv _ rt
  subst ec
  obtain ⟨oe, od, mA, J, _⟩ := exc_inst I ha hd
  exact PySem.W.kia_one (PySem.W.handS_kitx_excD EC.hg EC.hk EC.hs EC.hd EC.ha EC.hn EC.ht EC.hm) I.kIn J e (fun z => nomatch z) fun tk => ⟨.bl b, H, I.kept (t' := tk) fun _ _ z => z, rfl, q⟩
theorem isi_at {K : PySem.W.Frag} {cl : Cla} {isa : Str → Option Bool} {cv : Value} {c : V} (hcv : ∀ u, RelV c u → u = cv) (hisa : ∀ C b, isa C = some b → ExcC K (cl C) ∧ PySem.W.kitOne K (.ref (cl C)) cv = some b) (κ : Cla) (hκ : κ = cl) :
    ∀ (ι : Nat → Addr) (S : Hs) (H : Hp) (w : W) (v : V) (Q : VK) (E : XK), Rel K κ ι S H → Rep K ι S.length H w v → Res K κ (RV K) ι S H (isiE isa w S) Q E → rIsX K [v, c] H Q := by
  subst hκ
  intro ι S H w v Q E r rx h
  unfold isiE at h
  split at h
  · split at h
    · rename_i n C fs q1
      split at h
      · rename_i b e
        obtain ⟨rfl, hn⟩ := rx.ref_inv
        obtain ⟨d, gs, h1, h2, h3, h4⟩ := r.obj _ _ q1
        obtain ⟨h5, h6⟩ := hisa _ _ e
        exact ⟨_, _, d, gs, c, cv, b, rfl, h1, h2, h5, hcv, h6, Res.ok h r (.bl _)⟩
      · exact h.elim
    · exact h.elim
  · exact h.elim
variable {cl : Cla} {Wx : L2.WX} {p p2 pos : Pos} {a : Expr} {fa : DE}
/-- one value, in a context's own cl -/
theorem t_unC {K : PySem.W.Frag} {r : V → Hp → VK → Prop} {g : W → Hs → R W} (hr : ∀ (ι : Nat → Addr) (S : Hs) (H : Hp) (x : W) (v : V) (Q : VK) (E : XK), Rel K cl ι S H → Rep K ι S.length H x v → Res K cl (RV K) ι S H (g x S) Q E → r v H Q) {σ : L2.St} {H : Hp} {Q : VK} (h : tE K cl Wx (dun g fa) σ H Q) : tUn r (tE K cl Wx fa) σ H Q := by
  obtain ⟨ι, S, sw, A, h⟩ := h
  refine ⟨ι, S, sw, A, Res.imp (Res.split (RA := RV K) h) fun x H1 ⟨ι1, S1, w1, g1, r1, _, h1⟩ => ?_⟩
  exact hr ι1 S1 H1 w1 x Q _ g1.rel r1 h1
/-- isinstance(a, C), C an own class -/
theorem d_isE {x : Str} {D : Addr} {isa : Str → Option Bool} (hisa : ∀ C b, isa C = some b → ExcC X.K (cl C) ∧ PySem.W.kitOne X.K (.ref (cl C)) (.ref D) = some b) (ha : PE X a (tE X.K cl Wx fa)) (hg : Gl X "isinstance") (hm : X.mg "isinstance" = none) (hg2 : Gl X x) (hm2 : X.mg x = some (.ref D))
    (hd : (x == ("__debug__" : Str)) = false := by decide)
    (he : starEach (a :: [.Name x p2]) X.env = (false, eval a X.env) :: starEach [.Name x p2] X.env := by rfl) (hs : starEach (.Name x p2 :: []) X.env = (false, eval (.Name x p2) X.env) :: starEach [] X.env := by rfl) (hpl : (backTo pos (starEach [.Name x p2] X.env)).any (·.1) = false := by rfl) :
    PE X (.Call (.Name "isinstance" p) [a, .Name x p2] [] pos) (tE X.K cl Wx (dun (isiE isa) fa)) :=
  (pe_callB (id := "isinstance") call_isX hg hm rfl (pa_cons ha (pa_cons (pe_glob (v := .ref D) (pos := p2) hg2 hm2 rfl hd) pa_nil hs) he) (by decide) (by decide) he hpl).dimp fun σ H Q h =>
  t_unC (r := fun v H Q => rIsX X.K [v, .ref D] H Q) (isi_at (c := .ref D) (cv := .ref D) (fun u r => r) hisa cl rfl) h
/-- isinstance(a, T), T a built-in class -/
theorem d_isEb {x : Str} {T : String} {isa : Str → Option Bool} (hisa : ∀ C b, isa C = some b → ExcC X.K (cl C) ∧ PySem.W.kitOne X.K (.ref (cl C)) (.type T) = some b) (ha : PE X a (tE X.K cl Wx fa)) (hg : Gl X "isinstance") (hm : X.mg "isinstance" = none) (hg2 : Gl X x) (hm2 : X.mg x = none) (hv : bootBuiltins x = some (.type T) := by rfl)
    (hn : x ≠ "__name__" := by decide) (hd : (x == ("__debug__" : Str)) = false := by decide)
    (he : starEach (a :: [.Name x p2]) X.env = (false, eval a X.env) :: starEach [.Name x p2] X.env := by rfl) (hs : starEach (.Name x p2 :: []) X.env = (false, eval (.Name x p2) X.env) :: starEach [] X.env := by rfl) (hpl : (backTo pos (starEach [.Name x p2] X.env)).any (·.1) = false := by rfl) :
    PE X (.Call (.Name "isinstance" p) [a, .Name x p2] [] pos) (tE X.K cl Wx (dun (isiE isa) fa)) :=
  (pe_callB (id := "isinstance") call_isX hg hm rfl (pa_cons ha (pa_cons (pe_bltn (v := .ty T) (pos := p2) hg2 hm2 hv rfl hn hd) pa_nil hs) he) (by decide) (by decide) he hpl).dimp fun σ H Q h =>
  t_unC (r := fun v H Q => rIsX X.K [v, .ty T] H Q) (isi_at (c := .ty T) (cv := .type T) (fun u r => r) hisa cl rfl) h
/-- e.f of a kept exception; fld: the classes of the text that have it -/
theorem d_fldE {f : Str} {isf : Str → Bool} (hf : ∀ C, isf C = true → XfC X.K (cl C) ∧ PySem.W.findIn X.K (.ref (cl C)) f = some none) (ha : PE X a (tE X.K cl Wx fa)) (hb : attributeBase a f X.env (eval a X.env) = eval a X.env := by rfl) :
    PE X (.Attribute a f pos) (tE X.K cl Wx (dun (fldX isf f) fa)) := by
  refine ⟨fun pins s σ H Q I h => ?_⟩
  obtain ⟨ι, S, sw, A, h⟩ := h
  have h0 : tE X.K cl Wx fa σ H _ := ⟨ι, S, sw, A, Res.split (RA := RV X.K) h⟩
  refine attr_of hb (thn (ha.run pins s σ H _ I h0) fun u s1 ⟨x, H1, I1, r1, ι1, S1, w1, g1, rp, _, h1⟩ => ?_)
  unfold fldX at h1
  split at h1
  · split at h1
    · rename_i n _ C fs q1
      split at h1
      · rename_i hi
        obtain ⟨T, hno⟩ := hf C hi
        split at h1
        · rename_i w e
          obtain ⟨rfl, hn⟩ := rp.ref_inv
          obtain ⟨d, gs, h2, h3, h4, h5⟩ := g1.rel.obj _ _ q1
          cases r1
          obtain ⟨oe, od, mA, J, ho, hl, hr⟩ := exc_inst I1 h2 h3
          obtain ⟨v, hv, rv⟩ := h4.look e
          obtain ⟨u, hu, ru⟩ := RelO.some_of (v := v) (o := mA f) (by rw [← hv]; exact hr f)
          exact HandSPX.exc_get I1.kIn J T.ga T.gg T.exC (PySem.W.findObj_own T.hdC hno rfl (by rw [hl, hu])) (handed_of ru) ⟨v, H1, I1.tok _, ru, Res.ok h1 g1.rel rv⟩
        · exact h1.elim
      · exact h1.elim
    · exact h1.elim
  · exact h1.elim
end
end DL

set_option Elab.async false
set_option linter.all false
set_option maxRecDepth 100000
/-! DL31: evaluating denotations. -/
namespace DL
open PySem PySem.Spec PyProof.Rows L2

@[simp] theorem R.bind_ok {α β : Type} (a : α) (S : Hs) (k : α → Hs → R β) : (R.ok a S).bind k = k a S := Eq.trans rfl rfl
@[simp] theorem R.bind_exc {α β : Type} (C : Str) (fs : List (Str × W)) (S : Hs) (k : α → Hs → R β) : (R.exc C fs S : R α).bind k = .exc C fs S := Eq.trans rfl rfl
@[simp] theorem R.bind_bad {α β : Type} (k : α → Hs → R β) : (R.bad : R α).bind k = .bad := Eq.trans rfl rfl
@[simp] theorem R.to_ok {α : Type} (a : α) (S : Hs) (sw : SW) (k : α → Hs → RS) : (R.ok a S).to sw k = k a S := Eq.trans rfl rfl
@[simp] theorem R.to_exc {α : Type} (C : Str) (fs : List (Str × W)) (S : Hs) (sw : SW) (k : α → Hs → RS) : (R.exc C fs S : R α).to sw k = .exc C fs sw S := Eq.trans rfl rfl
@[simp] theorem RS.seq_nx (sw : SW) (S : Hs) (k : SW → Hs → RS) : (RS.nx sw S).seq k = k sw S := Eq.trans rfl rfl
@[simp] theorem RS.seq_rt (w : W) (S : Hs) (k : SW → Hs → RS) : (RS.rt w S).seq k = .rt w S := Eq.trans rfl rfl
@[simp] theorem RS.seq_bk (sw : SW) (S : Hs) (k : SW → Hs → RS) : (RS.bk sw S).seq k = .bk sw S := Eq.trans rfl rfl
@[simp] theorem RS.seq_ct (sw : SW) (S : Hs) (k : SW → Hs → RS) : (RS.ct sw S).seq k = .ct sw S := Eq.trans rfl rfl
@[simp] theorem RS.seq_exc (C : Str) (fs : List (Str × W)) (sw : SW) (S : Hs) (k : SW → Hs → RS) : (RS.exc C fs sw S).seq k = .exc C fs sw S := Eq.trans rfl rfl
/-! no mutable object in it -/
mutual
def pureW : W → Bool
  | .ref _ => false
  | .tup ws => pureWs ws
  | .fro ws => pureWs ws
  | .ftp ws => pureWs ws
  | _ => true
def pureWs : List W → Bool
  | [] => true
  | w :: ws => pureW w && pureWs ws
end
mutual
theorem pure_refIn (n : Nat) : ∀ w : W, pureW w = true → refIn n w = true
  | .ref _, h => by simp [pureW] at h
  | .tup ws, h => by rw [refIn]; exact pure_refsIn n ws (by rw [pureW] at h; exact h)
  | .fro ws, h => by rw [refIn]; exact pure_refsIn n ws (by rw [pureW] at h; exact h)
  | .ftp ws, h => by rw [refIn]; exact pure_refsIn n ws (by rw [pureW] at h; exact h)
  | .non, _ => rfl
  | .bl _, _ => rfl
  | .int _, _ => rfl
  | .str _, _ => rfl
theorem pure_refsIn (n : Nat) : ∀ ws : List W, pureWs ws = true → refsIn n ws = true
  | [], _ => rfl
  | w :: ws, h => by
    rw [pureWs, Bool.and_eq_true] at h
    rw [refsIn, pure_refIn n w h.1, pure_refsIn n ws h.2]; rfl
end
theorem okPre_app (S T : Hs) : okPre S (S ++ T) = true := by
  unfold okPre
  rw [List.all_eq_true]
  intro i hi
  rw [List.mem_range] at hi
  rw [List.getElem?_append_left hi]
  simp
theorem trim_app {S T : Hs} {w : W} (h : refIn S.length w = true) : trimR S (.ok w (S ++ T)) = .ok w S := by
  show (if refIn S.length w = true ∧ okPre S (S ++ T) = true then R.ok w ((S ++ T).take S.length) else R.ok w (S ++ T)) = _
  rw [if_pos ⟨h, okPre_app S T⟩, List.take_left]
theorem trim_self {S : Hs} {w : W} (h : refIn S.length w = true) : trimR S (.ok w S) = .ok w S := by
  have := trim_app (S := S) (T := []) h
  rwa [List.append_nil] at this
theorem trim_pure {S T : Hs} {w : W} (h : pureW w = true) : trimR S (.ok w (S ++ T)) = .ok w S := trim_app (pure_refIn _ w h)
theorem trim_pure0 {S : Hs} {w : W} (h : pureW w = true) : trimR S (.ok w S) = .ok w S := trim_self (pure_refIn _ w h)
/-- is an int within bounds, no bool -/
def isInt (w : W) (lo hi : Int) : Bool := match w with
  | .int i => decide (lo ≤ i) && decide (i ≤ hi)
  | _ => false
/-! ### what is done at a state -/
@[simp] theorem dvar_ap (i : Nat) (sw : SW) (S : Hs) : dvar i sw S = match sw[i]? with | some (some w) => .ok w S | _ => .bad := Eq.trans rfl rfl
@[simp] theorem dcon_ap (w : W) (sw : SW) (S : Hs) : dcon w sw S = .ok w S := Eq.trans rfl rfl
@[simp] theorem dbin_ap (g : W → W → Hs → R W) (a b : DE) (sw : SW) (S : Hs) : dbin g a b sw S = (a sw S).bind fun x S1 => (b sw S1).bind fun y S2 => g x y S2 := Eq.trans rfl rfl
@[simp] theorem dun_ap (g : W → Hs → R W) (a : DE) (sw : SW) (S : Hs) : dun g a sw S = (a sw S).bind fun x S1 => g x S1 := Eq.trans rfl rfl
@[simp] theorem dchain_ap (g g' : W → W → Hs → R W) (a b c : DE) (sw : SW) (S : Hs) : dchain g g' a b c sw S = (a sw S).bind fun x S1 => (b sw S1).bind fun y S2 => (g x y S2).bind fun z S3 => match z with
  | .bl true => (c sw S3).bind fun u S4 => g' y u S4
  | .bl false => .ok (.bl false) S3
  | _ => .bad := Eq.trans rfl rfl
@[simp] theorem dtru_ap (f : DE) (sw : SW) (S : Hs) : dtru f sw S = (f sw S).bind fun w S1 => match truthW w S1 with
  | some b => .ok b S1
  | none => .bad := Eq.trans rfl rfl
@[simp] theorem dtst_ap (f : DE) (sw : SW) (S : Hs) : dtst f sw S = (f sw S).bind fun w S1 => match w with
  | .bl b => .ok b S1
  | _ => .bad := Eq.trans rfl rfl
@[simp] theorem dandT_ap (t u : DT) (sw : SW) (S : Hs) : dandT t u sw S = (t sw S).bind fun b S1 => if b = true then u sw S1 else .ok false S1 := Eq.trans rfl rfl
@[simp] theorem dorT_ap (t u : DT) (sw : SW) (S : Hs) : dorT t u sw S = (t sw S).bind fun b S1 => if b = true then .ok true S1 else u sw S1 := Eq.trans rfl rfl
@[simp] theorem dnotT_ap (t : DT) (sw : SW) (S : Hs) : dnotT t sw S = (t sw S).bind fun b S1 => .ok (!b) S1 := Eq.trans rfl rfl
@[simp] theorem difE_ap (t : DT) (a b : DE) (sw : SW) (S : Hs) : difE t a b sw S = (t sw S).bind fun c S1 => if c = true then a sw S1 else b sw S1 := Eq.trans rfl rfl
@[simp] theorem dandV_ap (a b : DE) (sw : SW) (S : Hs) : dandV a b sw S = (a sw S).bind fun w S1 => match truthW w S1 with
  | some true => b sw S1
  | some false => .ok w S1
  | none => .bad := Eq.trans rfl rfl
@[simp] theorem dorV_ap (a b : DE) (sw : SW) (S : Hs) : dorV a b sw S = (a sw S).bind fun w S1 => match truthW w S1 with
  | some true => .ok w S1
  | some false => b sw S1
  | none => .bad := Eq.trans rfl rfl
@[simp] theorem dnotV_ap (a : DE) (sw : SW) (S : Hs) : dnotV a sw S = (a sw S).bind fun w S1 => match truthW w S1 with
  | some b => .ok (.bl (!b)) S1
  | none => .bad := Eq.trans rfl rfl
@[simp] theorem dnil_ap (sw : SW) (S : Hs) : dnil sw S = .ok [] S := Eq.trans rfl rfl
@[simp] theorem dcons_ap (a : DE) (r : DA) (sw : SW) (S : Hs) : dcons a r sw S = (a sw S).bind fun w S1 => (r sw S1).bind fun ws S2 => .ok (w :: ws) S2 := Eq.trans rfl rfl
@[simp] theorem dtup_ap (t : DA) (sw : SW) (S : Hs) : dtup t sw S = (t sw S).bind fun ws S1 => if ws.length ≤ sizeLine then .ok (.tup ws) S1 else .bad := Eq.trans rfl rfl
@[simp] theorem dlst_ap (t : DA) (sw : SW) (S : Hs) : dlst t sw S = (t sw S).bind fun ws S1 => if ws.length ≤ sizeLine then .ok (.ref S1.length) (S1 ++ [.lst ws]) else .bad := Eq.trans rfl rfl
@[simp] theorem dnoPart_ap (sw : SW) (S : Hs) : dnoPart sw S = .ok none S := Eq.trans rfl rfl
@[simp] theorem dpart_ap (e : DE) (sw : SW) (S : Hs) : dpart e sw S = (e sw S).bind fun w S1 => match w with
  | .int i => .ok (some i) S1
  | _ => .bad := Eq.trans rfl rfl
@[simp] theorem dslice_ap (x : DE) (lo hi : DO) (sw : SW) (S : Hs) : dslice x lo hi sw S = (x sw S).bind fun w S1 => (lo sw S1).bind fun l S2 => (hi sw S2).bind fun u S3 => sliceW w l u S3 := Eq.trans rfl rfl
@[simp] theorem snil_ap (sw : SW) (S : Hs) : snil sw S = .nx sw S := Eq.trans rfl rfl
@[simp] theorem sseq_ap (a b : DS) (sw : SW) (S : Hs) : sseq a b sw S = (a sw S).seq b := Eq.trans rfl rfl
@[simp] theorem sexpr_ap (e : DE) (sw : SW) (S : Hs) : sexpr e sw S = (e sw S).to sw fun _ S1 => .nx sw S1 := Eq.trans rfl rfl
@[simp] theorem sret_ap (e : DE) (sw : SW) (S : Hs) : sret e sw S = (e sw S).to sw fun w S1 => .rt w S1 := Eq.trans rfl rfl
@[simp] theorem sretN_ap (sw : SW) (S : Hs) : sretN sw S = .rt .non S := Eq.trans rfl rfl
@[simp] theorem sbreak_ap (sw : SW) (S : Hs) : sbreak sw S = .bk sw S := Eq.trans rfl rfl
@[simp] theorem scont_ap (sw : SW) (S : Hs) : scont sw S = .ct sw S := Eq.trans rfl rfl
@[simp] theorem sif_ap (t : DT) (a b : DS) (sw : SW) (S : Hs) : sif t a b sw S = (t sw S).to sw fun c S1 => if c = true then a sw S1 else b sw S1 := Eq.trans rfl rfl
@[simp] theorem sasg_ap (e : DE) (g : DG) (sw : SW) (S : Hs) : sasg e g sw S = (e sw S).to sw fun w S1 => match g w sw S1 with
  | .ok sw' S2 => .nx sw' S2
  | _ => .bad := Eq.trans rfl rfl
theorem sfor_ap (it : DI) (g : DG) (body : DS) (sw : SW) (S : Hs) : sfor it g body sw S = (it sw S).to sw fun i S1 => forD i.guard g body i.items sw S1 := rfl
@[simp] theorem dyes_ap (sw : SW) (S : Hs) : dyes sw S = .ok true S := Eq.trans rfl rfl
theorem dlc_ap (vs : List Nat) (it : DI) (g : DG) (tt : DT) (te : DE) (sw : SW) (S : Hs) : dlc vs it g tt te sw S = (it sw S).bind fun i S1 => (compD i.guard g tt te (wipeW sw vs) i.items [] S1).bind fun ys S2 => .ok (.ref S2.length) (S2 ++ [.lst ys]) := rfl
@[simp] theorem dcallK_ap (n m : Nat) (arr : List Nat) (ds : List W) (g : DF) (t tk : DA) (sw : SW) (S : Hs) : dcallK n m arr ds g t tk sw S = (t sw S).bind fun us S1 => (tk sw S1).bind fun ws S2 => if us.length = n ∧ ws.length = m then g (sel arr (us ++ ws ++ ds)) S2 else .bad := Eq.trans rfl rfl
@[simp] theorem dcB_ap (g : List W → Hs → R W) (t : DA) (sw : SW) (S : Hs) : dcB g t sw S = (t sw S).bind g := Eq.trans rfl rfl
@[simp] theorem dmeth_ap (T : String) (g : W → List W → Hs → R W) (o : DE) (t : DA) (sw : SW) (S : Hs) : dmeth T g o t sw S = (o sw S).bind fun x S1 => if tyW S1 T x = true then (t sw S1).bind fun ws S2 => g x ws S2 else .bad := Eq.trans rfl rfl
@[simp] theorem spar_ap (is : List Nat) (t : DA) (sw : SW) (S : Hs) : spar is t sw S = (t sw S).to sw fun ws S1 => if ws.length = is.length then .nx ((is.zip ws).foldl (fun sw p => sw.set p.1 (some p.2)) sw) S1 else .bad := Eq.trans rfl rfl
@[simp] theorem saug_ap (op : W → W → Hs → R W) (i : Nat) (f : DE) (sw : SW) (S : Hs) : saug op i f sw S = match sw[i]? with
  | some (some x) => (f sw S).to sw fun y S1 => match x, y with
    | .int a, .int b => match op (.int a) (.int b) S1 with
      | .ok (.int k) S2 => if S2 = S1 then .nx (sw.set i (some (.int k))) S1 else .bad
      | _ => .bad
    | _, _ => .bad
  | _ => .bad := Eq.trans rfl rfl
@[simp] theorem saugS_ap (op : W → W → Hs → R W) (o i f : DE) (sw : SW) (S : Hs) : saugS op o i f sw S = (o sw S).to sw fun x S1 => (i sw S1).to sw fun y S2 => match curW x y S2 with
  | some a => (f sw S2).to sw fun z S4 => match z with
    | .int b => match op (.int a) (.int b) S4 with
      | .ok (.int k) S5 => if S5 = S4 then (match setW x y (.int k) S4 with
        | some S6 => .nx sw S6
        | none => .bad) else .bad
      | _ => .bad
    | _ => .bad
  | none => .bad := Eq.trans rfl rfl
@[simp] theorem dget2_ap (o i d : DE) (sw : SW) (S : Hs) : dget2 o i d sw S = (o sw S).bind fun x S1 => match x with
  | .ref n => match S1[n]? with
    | some (.dic _) => (i sw S1).bind fun y S2 => (d sw S2).bind fun z S3 => match S3[n]?, keyW y with
      | some (.dic kvs), some k => .ok ((atK kvs k).getD z) S3
      | _, _ => .bad
    | _ => .bad
  | _ => .bad := Eq.trans rfl rfl
@[simp] theorem ddict0_ap (sw : SW) (S : Hs) : ddict0 sw S = .ok (.ref S.length) (S ++ [.dic []]) := Eq.trans rfl rfl
@[simp] theorem diseq_ap (e : DE) (sw : SW) (S : Hs) : diseq e sw S = (e sw S).bind fun w S1 => itSeq w S1 := Eq.trans rfl rfl
@[simp] theorem diargs_ap (f : List W → Hs → R ItD) (t : DA) (sw : SW) (S : Hs) : diargs f t sw S = (t sw S).bind fun ws S1 => f ws S1 := Eq.trans rfl rfl
@[simp] theorem gname_ap (i : Nat) (w : W) (sw : SW) (S : Hs) : gname i w sw S = .ok (sw.set i (some w)) S := Eq.trans rfl rfl
@[simp] theorem ggnil_ap (ws : List W) (sw : SW) (S : Hs) : ggnil ws sw S = match ws with
  | [] => .ok sw S
  | _ => .bad := Eq.trans rfl rfl
@[simp] theorem ggcons_ap (g : DG) (r : DGs) (ws : List W) (sw : SW) (S : Hs) : ggcons g r ws sw S = match ws with
  | w :: ws => (g w sw S).bind fun sw1 S1 => r ws sw1 S1
  | [] => .bad := Eq.trans rfl rfl
@[simp] theorem gtup_ap (r : DGs) (w : W) (sw : SW) (S : Hs) : gtup r w sw S = match w with
  | .tup ws => r ws sw S
  | _ => .bad := Eq.trans rfl rfl
@[simp] theorem gstar_ap (n i : Nat) (r : DGs) (w : W) (sw : SW) (S : Hs) : gstar n i r w sw S = match w with
  | .tup ws => if n ≤ ws.length + 1 then r (ws.take i ++ [.ref S.length] ++ (ws.drop i).drop (ws.length + 1 - n)) sw (S ++ [.lst ((ws.drop i).take (ws.length + 1 - n))]) else .bad
  | _ => .bad := Eq.trans rfl rfl
@[simp] theorem gsub_ap (o i : DE) (w : W) (sw : SW) (S : Hs) : gsub o i w sw S = match o sw S with
  | .ok x S1 => match i sw S1 with
    | .ok y S2 => match setW x y w S2 with
      | some S3 => .ok sw S3
      | none => .bad
    | _ => .bad
  | _ => .bad := Eq.trans rfl rfl
@[simp] theorem sraise_ap (C f : Str) (e : DE) (sw : SW) (S : Hs) : sraise C f e sw S = (e sw S).to sw fun w S1 => .exc C [(f, w)] sw S1 := Eq.trans rfl rfl
@[simp] theorem stry_ap (sub : Str → Option Bool) (i j : Nat) (f : DS) (sw : SW) (S : Hs) : stry sub i j f sw S = match f sw S with
  | .exc C fs sw1 S1 => match sub C with
    | some true => .nx (((sw1.set i (some (.ref S1.length))).set j (some (.ref S1.length))).set i none) (S1 ++ [.exc C fs])
    | some false => .exc C fs sw1 S1
    | none => .bad
  | r => r := Eq.trans rfl rfl
@[simp] theorem drevL_ap (e : DE) (sw : SW) (S : Hs) : drevL e sw S = (e sw S).bind fun w S1 => match lstOf S1 w with
  | some ws => .ok (.ref S1.length) (S1 ++ [.lst ws.reverse])
  | none => .bad := Eq.trans rfl rfl
@[simp] theorem truth_bl (b : Bool) (S : Hs) : truthW (.bl b) S = some b := Eq.trans rfl rfl
@[simp] theorem truth_non (S : Hs) : truthW .non S = some false := Eq.trans rfl rfl
@[simp] theorem truth_int (i : Int) (S : Hs) : truthW (.int i) S = some (i != 0) := Eq.trans rfl rfl
@[simp] theorem truth_tup (ws : List W) (S : Hs) : truthW (.tup ws) S = some (!ws.isEmpty) := Eq.trans rfl rfl
@[simp] theorem isi_int (T : String) (i : Int) (S : Hs) : isiW T (.int i) S = .ok (.bl (isTy "int" T)) S := Eq.trans rfl rfl
@[simp] theorem isi_bl (T : String) (i : Bool) (S : Hs) : isiW T (.bl i) S = .ok (.bl (isTy "bool" T)) S := Eq.trans rfl rfl
@[simp] theorem isi_non (T : String) (S : Hs) : isiW T .non S = .ok (.bl (isTy "NoneType" T)) S := Eq.trans rfl rfl
@[simp] theorem isi_str (T : String) (x : Str) (S : Hs) : isiW T (.str x) S = .ok (.bl (isTy "str" T)) S := Eq.trans rfl rfl
@[simp] theorem isi_tup (T : String) (ws : List W) (S : Hs) : isiW T (.tup ws) S = .ok (.bl (isTy "tuple" T)) S := Eq.trans rfl rfl
@[simp] theorem isi_fro (T : String) (ws : List W) (S : Hs) : isiW T (.fro ws) S = .ok (.bl (isTy "list" T)) S := Eq.trans rfl rfl
/-! ### a def's run -/
theorem defD_rt {n : Nat} {f : DS} {ws : List W} {S S' : Hs} {w : W} (h : f (ws.map some ++ List.replicate (n - ws.length) none) S = .rt w S') : defD n f ws S = trimR S (.ok w S') := by unfold defD; rw [h]
theorem defD_nx {n : Nat} {f : DS} {ws : List W} {S S' : Hs} {sw : SW} (h : f (ws.map some ++ List.replicate (n - ws.length) none) S = .nx sw S') : defD n f ws S = trimR S (.ok .non S') := by unfold defD; rw [h]
theorem defD_rtP {n : Nat} {f : DS} {ws : List W} {S T : Hs} {w : W} (h : f (ws.map some ++ List.replicate (n - ws.length) none) S = .rt w (S ++ T)) (hw : pureW w = true) : defD n f ws S = .ok w S := by rw [defD_rt h, trim_pure hw]
theorem defD_rt0 {n : Nat} {f : DS} {ws : List W} {S : Hs} {w : W} (h : f (ws.map some ++ List.replicate (n - ws.length) none) S = .rt w S) (hw : pureW w = true) : defD n f ws S = .ok w S := by rw [defD_rt h, trim_pure0 hw]
theorem defD_nx0 {n : Nat} {f : DS} {ws : List W} {S : Hs} {sw : SW} (h : f (ws.map some ++ List.replicate (n - ws.length) none) S = .nx sw S) : defD n f ws S = .ok .non S := by rw [defD_nx h, trim_pure0 rfl]
theorem defD_nxP {n : Nat} {f : DS} {ws : List W} {S T : Hs} {sw : SW} (h : f (ws.map some ++ List.replicate (n - ws.length) none) S = .nx sw (S ++ T)) : defD n f ws S = .ok .non S := by rw [defD_nx h, trim_pure rfl]
end DL

set_option Elab.async false
set_option linter.all false
set_option maxRecDepth 100000
/-! DL32: loops and comprehensions, evaluated. -/
namespace DL
open PySem L2

theorem lst_last (S : Hs) (o : WO) : (S ++ [o])[S.length]? = some o := by simp
@[simp] theorem lstOf_tup (S : Hs) (ws : List W) : lstOf S (.tup ws) = none := Eq.trans rfl rfl
@[simp] theorem lstOf_fro (S : Hs) (ws : List W) : lstOf S (.fro ws) = some ws := Eq.trans rfl rfl
theorem lstOf_last (S : Hs) (ws : List W) : lstOf (S ++ [.lst ws]) (.ref S.length) = some ws := by
  show (match (S ++ [WO.lst ws])[S.length]? with | some (.lst ws) => some ws | _ => none) = some ws
  rw [lst_last]
@[simp] theorem get_app (S T : Hs) (k : Nat) : (S ++ T)[S.length + k]? = T[k]? := by rw [List.getElem?_append_right (by omega)]; congr 1; omega
@[simp] theorem get_app0 (S T : Hs) : (S ++ T)[S.length]? = T[0]? := get_app S T 0
@[simp] theorem lstOf_app (S T : Hs) (k : Nat) : lstOf (S ++ T) (.ref (S.length + k)) = match T[k]? with | some (WO.lst ws) => some ws | _ => none := by
  show (match (S ++ T)[S.length + k]? with | some (WO.lst ws) => some ws | _ => none) = _
  rw [get_app]
@[simp] theorem lstOf_app0 (S T : Hs) : lstOf (S ++ T) (.ref S.length) = match T[0]? with | some (WO.lst ws) => some ws | _ => none := lstOf_app S T 0
theorem lstOf_at_ {S : Hs} {n : Nat} {ws : List W} (h : S[n]? = some (.lst ws)) : lstOf S (.ref n) = some ws := by
  show (match S[n]? with | some (.lst ws) => some ws | _ => none) = some ws
  rw [h]
@[simp] theorem blsW_map {α : Type} (f : α → Bool) : ∀ l : List α, blsW (l.map fun x => W.bl (f x)) = some (l.map f)
  | [] => rfl
  | x :: r => by
    show (blsW (r.map fun x => W.bl (f x))).map (f x :: ·) = _
    rw [blsW_map f r]; rfl
@[simp] theorem intsW_map {α : Type} (f : α → Int) : ∀ l : List α, intsW (l.map fun x => W.int (f x)) = some (l.map f)
  | [] => rfl
  | x :: r => by
    show (intsW (r.map fun x => W.int (f x))).map (f x :: ·) = _
    rw [intsW_map f r]; rfl
@[simp] theorem blsW_repl (b : Bool) : ∀ n : Nat, blsW (List.replicate n (W.bl b)) = some (List.replicate n b)
  | 0 => rfl
  | n + 1 => by
    rw [List.replicate_succ]
    show (blsW (List.replicate n (W.bl b))).map (b :: ·) = _
    rw [blsW_repl b n]; rfl
theorem map_const_ {α β : Type} (b : β) : ∀ l : List α, l.map (fun _ => b) = List.replicate l.length b
  | [] => rfl
  | _ :: r => by rw [List.map_cons, map_const_ b r]; rfl
/-- a comprehension whose parts leave the heap alone -/
theorem compD_pure {guard : Hs → Bool} {g : DG} {tt : DT} {te : DE} {sw : SW} {S : Hs} (p : W → Bool) (f : W → W) (hg : guard S = true) : ∀ (ws acc : List W),
    (∀ w ∈ ws, ∃ sw1, g w sw S = .ok sw1 S ∧ tt sw1 S = .ok (p w) S ∧ (p w = true → te sw1 S = .ok (f w) S)) → acc.length + ws.length ≤ sizeLine → compD guard g tt te sw ws acc S = .ok (acc ++ (ws.filter p).map f) S
  | [], acc, _, _ => by simp only [compD, if_pos hg]; simp
  | w :: ws, acc, h, hl => by
    obtain ⟨sw1, h1, h2, h3⟩ := h w List.mem_cons_self
    have hl' : acc.length + ws.length + 1 ≤ sizeLine := hl
    simp only [compD, if_pos hg, h1, h2]
    cases q : p w with
    | true =>
      simp only [h3 q]
      rw [if_pos (by omega), compD_pure p f hg ws (acc ++ [f w]) (fun u m => h u (List.mem_cons_of_mem _ m)) (by simp; omega), List.filter_cons_of_pos q]
      simp
    | false =>
      simp only
      rw [compD_pure p f hg ws acc (fun u m => h u (List.mem_cons_of_mem _ m)) (by omega), List.filter_cons_of_neg (by rw [q]; decide)]
theorem dlc_pure {vs : List Nat} {it : DI} {g : DG} {tt : DT} {te : DE} {sw : SW} {S : Hs} {i : ItD} (p : W → Bool) (f : W → W) (hi : it sw S = .ok i S) (hg : i.guard S = true)
    (h : ∀ w ∈ i.items, ∃ sw1, g w (wipeW sw vs) S = .ok sw1 S ∧ tt sw1 S = .ok (p w) S ∧ (p w = true → te sw1 S = .ok (f w) S)) (hl : i.items.length ≤ sizeLine) : dlc vs it g tt te sw S = .ok (.ref S.length) (S ++ [.lst ((i.items.filter p).map f)]) := by
  rw [dlc_ap, hi, R.bind_ok, compD_pure p f hg i.items [] h (by simpa using hl), R.bind_ok, List.nil_append]
/-- without a test -/
theorem dlc_map {vs : List Nat} {it : DI} {g : DG} {te : DE} {sw : SW} {S : Hs} {i : ItD} (f : W → W) (hi : it sw S = .ok i S) (hg : i.guard S = true)
    (h : ∀ w ∈ i.items, ∃ sw1, g w (wipeW sw vs) S = .ok sw1 S ∧ te sw1 S = .ok (f w) S) (hl : i.items.length ≤ sizeLine) : dlc vs it g dyes te sw S = .ok (.ref S.length) (S ++ [.lst (i.items.map f)]) := by
  rw [dlc_pure (fun _ => true) f hi hg (fun w m => ?_) hl, List.filter_eq_self.mpr fun _ _ => rfl]
  obtain ⟨sw1, h1, h2⟩ := h w m
  exact ⟨sw1, h1, rfl, fun _ => h2⟩
/-- a for that ends: I holds between its turns -/
theorem forD_inv {guard : Hs → Bool} {g : DG} {body : DS} (I : Nat → SW → Hs → Prop) : ∀ (ws : List W) (k : Nat) (sw : SW) (S : Hs), I k sw S →
    (∀ (i : Nat) (w : W) (sw : SW) (S : Hs), ws[i]? = some w → I (k + i) sw S → guard S = true ∧ ∃ sw1 S1, g w sw S = .ok sw1 S1 ∧ ((∃ sw2 S2, (body sw1 S1 = .nx sw2 S2 ∨ body sw1 S1 = .ct sw2 S2) ∧ I (k + i + 1) sw2 S2))) →
    (∀ (sw : SW) (S : Hs), I (k + ws.length) sw S → guard S = true) → ∃ sw' S', forD guard g body ws sw S = .nx sw' S' ∧ I (k + ws.length) sw' S'
  | [], k, sw, S, h0, _, he => ⟨sw, S, by simp only [forD, if_pos (he sw S h0)], h0⟩
  | w :: ws, k, sw, S, h0, hs, he => by
    obtain ⟨hg, sw1, S1, e1, sw2, S2, e2, h2⟩ := hs 0 w sw S rfl h0
    obtain ⟨sw', S', e3, h3⟩ := forD_inv I ws (k + 1) sw2 S2 h2 (fun i u sw S e h => by
      have := hs (i + 1) u sw S (by simpa using e) (by rw [show k + (i + 1) = k + 1 + i by omega]; exact h)
      rw [show k + (i + 1) + 1 = k + 1 + i + 1 by omega] at this
      exact this) (fun sw S h => he sw S (by rw [List.length_cons, show k + (ws.length + 1) = k + 1 + ws.length by omega]; exact h))
    refine ⟨sw', S', ?_, by rw [List.length_cons, show k + (ws.length + 1) = k + 1 + ws.length by omega]; exact h3⟩
    rcases e2 with e2 | e2 <;> simp only [forD, if_pos hg, e1, e2] <;> exact e3
/-- a for that is left by a return, or ends -/
theorem forD_find {guard : Hs → Bool} {g : DG} {body : DS} {R_ : RS → Prop} (I : Nat → SW → Hs → Prop) : ∀ (ws : List W) (k : Nat) (sw : SW) (S : Hs), I k sw S →
    (∀ (i : Nat) (w : W) (sw : SW) (S : Hs), ws[i]? = some w → I (k + i) sw S → guard S = true ∧ ∃ sw1 S1, g w sw S = .ok sw1 S1 ∧ ((∃ sw2 S2, body sw1 S1 = .nx sw2 S2 ∧ I (k + i + 1) sw2 S2) ∨ ∃ u S2, body sw1 S1 = .rt u S2 ∧ R_ (.rt u S2))) →
    (∀ (sw : SW) (S : Hs), I (k + ws.length) sw S → guard S = true ∧ R_ (.nx sw S)) → R_ (forD guard g body ws sw S)
  | [], k, sw, S, h0, _, he => by
    obtain ⟨h1, h2⟩ := he sw S h0
    simp only [forD, if_pos h1]; exact h2
  | w :: ws, k, sw, S, h0, hs, he => by
    obtain ⟨hg, sw1, S1, e1, h⟩ := hs 0 w sw S rfl h0
    simp only [forD, if_pos hg, e1]
    rcases h with ⟨sw2, S2, e2, h2⟩ | ⟨u, S2, e2, h2⟩
    · simp only [e2]
      refine forD_find I ws (k + 1) sw2 S2 h2 (fun i u sw S e h => ?_) fun sw S h => he sw S (by rw [List.length_cons, show k + (ws.length + 1) = k + 1 + ws.length by omega]; exact h)
      have := hs (i + 1) u sw S (by simpa using e) (by rw [show k + (i + 1) = k + 1 + i by omega]; exact h)
      rw [show k + (i + 1) + 1 = k + 1 + i + 1 by omega] at this
      exact this
    · simp only [e2]; exact h2
/-! ### slices -/
theorem cut_from {α : Type} (xs : List α) (k : Nat) : cutA xs (some (k : Int)) none = xs.drop k := by
  unfold cutA
  rw [HT.sIx_nat, HT.sIx_none]
  rcases Nat.le_total k xs.length with h | h
  · rw [Nat.min_eq_left h, List.take_of_length_le (by rw [List.length_drop]; omega)]
  · rw [Nat.min_eq_right h, List.drop_eq_nil_of_le (Nat.le_refl _), List.drop_eq_nil_of_le h]; simp
theorem cut_to {α : Type} (xs : List α) (k : Nat) : cutA xs none (some (k : Int)) = xs.take k := by
  unfold cutA
  rw [HT.sIx_nat, HT.sIx_none, List.drop_zero, Nat.sub_zero]
  rcases Nat.le_total k xs.length with h | h
  · rw [Nat.min_eq_left h]
  · rw [Nat.min_eq_right h, List.take_of_length_le (Nat.le_refl _), List.take_of_length_le h]
theorem cut_mid {α : Type} (xs : List α) (j k : Nat) : cutA xs (some (j : Int)) (some (k : Int)) = (xs.take k).drop j := by
  unfold cutA
  rw [HT.sIx_nat, HT.sIx_nat]
  rcases Nat.le_total j xs.length with h | h <;> rcases Nat.le_total k xs.length with h2 | h2
  · rw [Nat.min_eq_left h, Nat.min_eq_left h2, List.drop_take]
  · rw [Nat.min_eq_left h, Nat.min_eq_right h2, List.take_of_length_le h2, List.take_of_length_le (by rw [List.length_drop]; omega)]
  · rw [Nat.min_eq_right h, Nat.min_eq_left h2, List.drop_eq_nil_of_le (Nat.le_refl _), List.drop_eq_nil_of_le (by rw [List.length_take]; omega)]; simp
  · rw [Nat.min_eq_right h, Nat.min_eq_right h2, List.drop_eq_nil_of_le (Nat.le_refl _), List.drop_eq_nil_of_le (by rw [List.length_take]; omega)]; simp
@[simp] theorem cut_from1 {α : Type} (xs : List α) : cutA xs (some 1) none = xs.drop 1 := cut_from xs 1
@[simp] theorem cut_from2 {α : Type} (xs : List α) : cutA xs (some 2) none = xs.drop 2 := cut_from xs 2
@[simp] theorem cut_to1 {α : Type} (xs : List α) : cutA xs none (some 1) = xs.take 1 := cut_to xs 1
@[simp] theorem cut_to4 {α : Type} (xs : List α) : cutA xs none (some 4) = xs.take 4 := cut_to xs 4
theorem zipW_map {α β : Type} (f : W → W → γ) (a : α → W) (b : β → W) : ∀ (l : List α) (m : List β), List.zipWith f (l.map a) (m.map b) = (l.zip m).map fun p => f (a p.1) (b p.2)
  | [], _ => by simp
  | _ :: _, [] => by simp
  | x :: l, y :: m => by
    simp only [List.map_cons, List.zipWith_cons_cons, List.zip_cons_cons]
    rw [zipW_map f a b l m]
theorem asc_zip {l : List Int} (h : l.Pairwise (· < ·)) : ∀ p ∈ l.zip (l.drop 1), p.1 < p.2 := by
  induction l with
  | nil => simp
  | cons x r ih =>
    cases r with
    | nil => simp
    | cons y t =>
      intro p hp
      rw [List.pairwise_cons] at h
      rw [List.drop_one, List.tail_cons, List.zip_cons_cons] at hp
      rcases List.mem_cons.mp hp with rfl | hp
      · exact h.1 y List.mem_cons_self
      · exact ih h.2 p (by rw [List.drop_one, List.tail_cons]; exact hp)
end DL

set_option Elab.async false
set_option linter.all false
set_option maxRecDepth 100000
/-! DL33: comparisons of data, evaluated. -/
namespace DL
open PySem L2

@[simp] theorem toD_int (S : Hs) (k : Nat) (i : Int) : toD S k (.int i) = some (.int i) := by cases k <;> rfl
@[simp] theorem toD_non (S : Hs) (k : Nat) : toD S k .non = some .none := by cases k <;> rfl
@[simp] theorem toD_bl (S : Hs) (k : Nat) (b : Bool) : toD S k (.bl b) = some (.bool b) := by cases k <;> rfl
@[simp] theorem toD_str (S : Hs) (k : Nat) (x : Str) : toD S k (.str x) = some (.str x) := by cases k <;> rfl
@[simp] theorem toD_tup (S : Hs) (k : Nat) (ws : List W) : toD S (k + 1) (.tup ws) = (toDs (toD S k) ws).map .tuple := Eq.trans rfl rfl
@[simp] theorem toD_fro (S : Hs) (k : Nat) (ws : List W) : toD S (k + 1) (.fro ws) = (toDs (toD S k) ws).map .list := Eq.trans rfl rfl
theorem toD_lst {S : Hs} {k n : Nat} {ws : List W} (h : S[n]? = some (.lst ws)) : toD S (k + 1) (.ref n) = (toDs (toD S k) ws).map .list := by
  show (match S[n]? with | some (.lst ws) => (toDs (toD S k) ws).map PyData.list | some (.dic []) => some (PyData.dict []) | _ => none) = _
  rw [h]
@[simp] theorem toDs_nil (f : W → Option PyData) : toDs f [] = some [] := Eq.trans rfl rfl
@[simp] theorem toDs_cons (f : W → Option PyData) (w : W) (ws : List W) : toDs f (w :: ws) = match f w, toDs f ws with
  | some d, some ds => some (d :: ds)
  | _, _ => none := Eq.trans rfl rfl
theorem toDs_all {α : Type} {f : W → Option PyData} {a : α → W} {d : α → PyData} : ∀ {l : List α}, (∀ x ∈ l, f (a x) = some (d x)) → toDs f (l.map a) = some (l.map d)
  | [], _ => rfl
  | x :: r, h => by
    rw [List.map_cons, toDs_cons, h x List.mem_cons_self, toDs_all fun y m => h y (List.mem_cons_of_mem _ m)]
    rfl
@[simp] theorem toDs_ints (S : Hs) (k : Nat) (l : List Int) : toDs (toD S k) (l.map W.int) = some (l.map PyData.int) := toDs_all fun x _ => toD_int S k x
theorem eqD_of {x y : W} {S : Hs} {d e : PyData} (h1 : toD S dataDepth x = some d) (h2 : toD S dataDepth y = some e) (h3 : d.canLay0 = true) (h4 : e.canLay0 = true) : eqD x y S = some (PyData.eqv d e) := by
  have q : ∀ {z : W} {c : PyData}, toD S dataDepth z = some c → c.canLay0 = true → SeqAt.shaped c = true := fun {z c} h k => by
    have := toD_depth S _ z c h
    have e : dataDepth = 40 := rfl
    unfold SeqAt.shaped
    rw [k, Bool.true_and]
    exact decide_eq_true (by omega)
  unfold eqD
  rw [h1, h2]
  simp only
  rw [if_pos ⟨q h1 h3, q h2 h4⟩]
theorem canLay_ints : ∀ l : List Int, PyData.canLayAll0 (l.map PyData.int) = true
  | [] => by simp [PyData.canLayAll0]
  | x :: r => by rw [List.map_cons, PyData.canLayAll0, canLay_ints r]; simp [PyData.canLay0]
@[simp] theorem eqD_int (i j : Int) (S : Hs) : eqD (.int i) (.int j) S = some (i == j) := by
  rw [eqD_of (toD_int ..) (toD_int ..) (by simp [PyData.canLay0]) (by simp [PyData.canLay0]), PyData.eqv]
theorem eqD_str {x y : Str} {S : Hs} (h1 : PyData.strOk x = true) (h2 : PyData.strOk y = true) : eqD (.str x) (.str y) S = some (x == y) := by
  rw [eqD_of (toD_str ..) (toD_str ..) (by simpa [PyData.canLay0] using h1) (by simpa [PyData.canLay0] using h2), PyData.eqv]
@[simp] theorem eqD_non_int (i : Int) (S : Hs) : eqD (.int i) .non S = some false := by
  rw [eqD_of (toD_int ..) (toD_non ..) (by simp [PyData.canLay0]) (by simp [PyData.canLay0]), PyData.eqv]
theorem eqD_tupnil {l : List Int} (h : l ≠ []) (S : Hs) : eqD (.tup (l.map W.int)) (.tup []) S = some false := by
  have e : dataDepth = 39 + 1 := rfl
  have h1 : toD S dataDepth (.tup (l.map W.int)) = some (.tuple (l.map .int)) := by rw [e, toD_tup, toDs_ints]; rfl
  have h2 : toD S dataDepth (.tup []) = some (.tuple []) := by rw [e, toD_tup, toDs_nil]; rfl
  rw [eqD_of h1 h2 (by simp [PyData.canLay0, canLay_ints]) (by simp [PyData.canLay0, PyData.canLayAll0])]
  cases l with
  | nil => exact absurd rfl h
  | cons x r => rw [List.map_cons, PyData.eqv, PyData.eqvAll]
/-! ### items -/
theorem atI_nat_ {α : Type} (ws : List α) (k : Nat) : L2.atI ws (k : Int) = ws[k]? := by
  unfold L2.atI L2.ixN
  rw [if_pos (by omega)]
  by_cases h : k < ws.length
  · rw [if_pos (by omega)]; rfl
  · rw [if_neg (by omega), List.getElem?_eq_none (by omega)]; rfl
theorem getW_tup {ws : List W} {k : Nat} {w : W} {S : Hs} (h : ws[k]? = some w) : getW (.tup ws) (.int k) S = .ok w S := by
  show (match L2.atI ws (k : Int) with | some w => R.ok w S | none => R.bad) = _
  rw [atI_nat_, h]
theorem getW_fro {ws : List W} {k : Nat} {w : W} {S : Hs} (h : ws[k]? = some w) : getW (.fro ws) (.int k) S = .ok w S := by
  show (match L2.atI ws (k : Int) with | some w => R.ok w S | none => R.bad) = _
  rw [atI_nat_, h]
theorem getW_lst {ws : List W} {n k : Nat} {w : W} {S : Hs} (h0 : S[n]? = some (.lst ws)) (h : ws[k]? = some w) : getW (.ref n) (.int k) S = .ok w S := by
  show (match S[n]? with | some (.lst ws) => itemL ws (.int k) S | some (.dic kvs) => itemK kvs (.int k) S | some (.loc kvs) => itemK kvs (.int k) S | _ => R.bad) = _
  rw [h0]
  show (match L2.atI ws (k : Int) with | some w => R.ok w S | none => R.bad) = _
  rw [atI_nat_, h]
theorem itRange_nat {n : Nat} (h : n ≤ 16777216) (S : Hs) : itRange1 [.int (n : Int)] S = .ok ⟨rgW 0 n, fun _ => true⟩ S := by
  have h1 : -4611686018427387904 ≤ (n : Int) ∧ (n : Int) < 4611686018427387904 := by omega
  unfold itRange1
  simp only [if_pos h1, Int.toNat_natCast]
end DL

set_option Elab.async false
set_option linter.all false
set_option maxRecDepth 100000
/-! DL34: in, results that stay on the heap. -/
namespace DL
open PySem L2

theorem depth_ints_ : ∀ l : List Int, PyData.depthAll (l.map PyData.int) = 0
  | [] => by simp [PyData.depthAll]
  | x :: r => by rw [List.map_cons, PyData.depthAll, depth_ints_ r]; simp [PyData.depth]
theorem shaped_ints (l : List Int) : SeqAt.shaped (.list (l.map .int)) = true := by
  unfold SeqAt.shaped
  rw [Bool.and_eq_true]
  refine ⟨by rw [PyData.canLay0]; exact canLay_ints l, decide_eq_true ?_⟩
  rw [PyData.depth, depth_ints_]; decide
theorem any_ints (v : Int) : ∀ l : List Int, ((l.map PyData.int).any fun z => PyData.eqv z (.int v)) = decide (v ∈ l)
  | [] => by simp
  | x :: r => by
    rw [List.map_cons, List.any_cons, any_ints v r, PyData.eqv]
    by_cases h : x = v
    · subst h; simp
    · have h2 : ¬ v = x := fun z => h z.symm
      simp [h, h2]
theorem inGo_ints (v : Int) (l : List Int) (S : Hs) : inD.go S (.int v) (l.map W.int) = some (decide (v ∈ l)) := by
  unfold inD.go
  rw [toD_int, toDs_ints]
  have h1 : SeqAt.shaped (.int v) = true := by unfold SeqAt.shaped; simp [PyData.canLay0, PyData.depth]
  simp only
  rw [if_pos ⟨h1, shaped_ints l⟩, any_ints]
theorem in_tupI (f : Bool → Bool) (v : Int) (l : List Int) (S : Hs) : inW f (.int v) (.tup (l.map W.int)) S = .ok (.bl (f (decide (v ∈ l)))) S := by
  have e : inD (.int v) (.tup (l.map W.int)) S = some (decide (v ∈ l)) := inGo_ints v l S
  unfold inW
  rw [e]
theorem in_lstI (f : Bool → Bool) (v : Int) {l : List Int} {n : Nat} {S : Hs} (h : S[n]? = some (.lst (l.map W.int))) : inW f (.int v) (.ref n) S = .ok (.bl (f (decide (v ∈ l)))) S := by
  have e : inD (.int v) (.ref n) S = some (decide (v ∈ l)) := by
    show (match S[n]? with
      | some (.dic kvs) => (match keyW (.int v) with
        | some k => some (atK kvs k).isSome
        | none => none)
      | some (.lst ws) => inD.go S (.int v) ws
      | _ => none) = _
    rw [h]
    exact inGo_ints v l S
  unfold inW
  rw [e]
theorem trim_ref {S S' : Hs} {n : Nat} (h : S.length ≤ n) : trimR S (.ok (.ref n) S') = .ok (.ref n) S' := by
  show (if refIn S.length (.ref n) = true ∧ okPre S S' = true then R.ok (W.ref n) (S'.take S.length) else R.ok (W.ref n) S') = _
  rw [if_neg]
  rintro ⟨z, _⟩
  rw [refIn] at z
  have := of_decide_eq_true z
  omega
theorem defD_rtR {n : Nat} {f : DS} {ws : List W} {S S' : Hs} {r : Nat} (h : f (ws.map some ++ List.replicate (n - ws.length) none) S = .rt (.ref r) S') (hr : S.length ≤ r) : defD n f ws S = .ok (.ref r) S' := by rw [defD_rt h, trim_ref hr]
/-- a store into a list at the end of the heap -/
theorem set_app (S T : Hs) (k : Nat) (o : WO) : (S ++ T).set (S.length + k) o = S ++ T.set k o := by
  rw [List.set_append_right _ _ (by omega)]; congr 2; omega
theorem setW_lst {S : Hs} {n k : Nat} {ws : List W} {v : W} (h : S[n]? = some (.lst ws)) (hk : k < ws.length) : setW (.ref n) (.int k) v S = some (S.set n (.lst (ws.set k v))) := by
  show (match S[n]? with
    | some (.lst ws) => (match L2.ixN ws.length (k : Int) with
      | some j => some (S.set n (.lst (ws.set j v)))
      | none => none)
    | some (.dic kvs) => (match keyW (.int (k : Int)) with
      | some k' => if kvs.length < sizeLine then some (S.set n (.dic (putW kvs k' v))) else none
      | none => none)
    | _ => none) = _
  rw [h]
  have : L2.ixN ws.length (k : Int) = some k := by
    unfold L2.ixN
    rw [if_pos (by omega), if_pos (by omega)]; simp
  simp only [this]
end DL

set_option Elab.async false
set_option linter.all false
set_option maxRecDepth 100000
/-! DL35: repr of data, evaluated. -/
namespace DL
open PySem L2

/-- is shown by a good text of at most n signs -/
structure Shows (d : PyData) (n : Nat) : Prop where
  sh : d.showable = true
  len : d.shown.length ≤ n
  ok : PyData.strOk d.shown = true
theorem strOk_app {x y : Str} (hx : PyData.strOk x = true) (hy : PyData.strOk y = true) : PyData.strOk (x ++ y) = true := by
  unfold PyData.strOk at *
  rw [PySem.Str.cps_append, Array.all_append, hx, hy]; rfl
theorem strOk_ofString (s : String) : PyData.strOk (Str.ofString s) = true := by
  unfold PyData.strOk Str.ofString
  rw [cpsOfBytes_string, List.all_toArray, List.all_eq_true]
  intro c hc
  obtain ⟨z, _, rfl⟩ := List.mem_map.mp hc
  have h := z.valid
  simp only [UInt32.isValidChar, Nat.isValidChar] at h
  refine decide_eq_true ?_
  show z.val.toNat < _
  omega
theorem len_ofString (s : String) : (Str.ofString s).length = s.toList.length := PyProof.Rows.ofString_length s
theorem nat_digits {n k : Nat} (hk : 0 < k) (h : n < 10 ^ k) : (toString n).toList.length ≤ k := by
  have h1 : (n : Int) < 10 ^ k := by
    have : ((n : Nat) : Int) < ((10 ^ k : Nat) : Int) := Int.ofNat_lt.mpr h
    simpa using this
  have := PyProof.Rows.toString_length_le (v := (n : Int)) (Int.natCast_nonneg n) hk h1
  rw [len_ofString] at this
  exact this
theorem log_lt {n : Nat} (h : n < 10 ^ 30) : n.log2 < 1920 := by
  by_cases e : n = 0
  · subst e; decide
  · exact Nat.lt_of_lt_of_le ((Nat.log2_lt (k := 100) e).mpr (Nat.lt_of_lt_of_le h (by decide))) (by decide)
theorem shows_intk {i : Int} {k : Nat} (hk : 0 < k) (hk2 : k ≤ 30) (h : i.natAbs < 10 ^ k) : Shows (.int i) (k + 1) := by
  refine ⟨by simp only [PyData.showable]; exact decide_eq_true (log_lt (Nat.lt_of_lt_of_le h (Nat.pow_le_pow_right (by decide) hk2))), ?_, ?_⟩
  · simp only [PyData.shown]
    show (Str.ofString (toString i)).length ≤ k + 1
    rw [len_ofString]
    cases i with
    | ofNat n =>
      have := nat_digits hk (show n < 10 ^ k from h)
      show (toString n).toList.length ≤ k + 1
      omega
    | negSucc n =>
      have := nat_digits (n := n + 1) hk h
      show ("-" ++ toString (n + 1)).toList.length ≤ k + 1
      rw [String.toList_append, List.length_append]
      have : "-".toList.length = 1 := rfl
      omega
  · simp only [PyData.shown]
    exact strOk_ofString _
theorem shows_int {i : Int} (h : i.natAbs < 10 ^ 30) : Shows (.int i) 40 := by
  have := shows_intk (by decide) (Nat.le_refl 30) h
  exact ⟨this.sh, Nat.le_trans this.len (by decide), this.ok⟩
theorem shows_none : Shows .none 40 := ⟨by simp only [PyData.showable], by decide, strOk_ofString "None"⟩
theorem shows_bool (b : Bool) : Shows (.bool b) 40 := by
  cases b
  · exact ⟨by simp only [PyData.showable], by decide, strOk_ofString "False"⟩
  · exact ⟨by simp only [PyData.showable], by decide, strOk_ofString "True"⟩
theorem Shows.mono {d : PyData} {n m : Nat} (h : Shows d n) (q : n ≤ m) : Shows d m := ⟨h.sh, Nat.le_trans h.len q, h.ok⟩
theorem showable_all : ∀ {xs : List PyData} {n : Nat}, (∀ x ∈ xs, Shows x n) → PyData.showableAll xs = true
  | [], _, _ => by simp only [PyData.showableAll]
  | x :: xs, n, h => by simp only [PyData.showableAll, (h x List.mem_cons_self).sh, showable_all fun y m => h y (List.mem_cons_of_mem _ m), Bool.and_self]
theorem shownAll_map : ∀ xs : List PyData, PyData.shownAll xs = xs.map PyData.shown
  | [] => by simp only [PyData.shownAll]; rfl
  | x :: xs => by simp only [PyData.shownAll, shownAll_map xs]; rfl
theorem join_fit {sep : Str} {n : Nat} (hs : sep.length ≤ 2) (hk : PyData.strOk sep = true) : ∀ ts : List Str, (∀ t ∈ ts, t.length ≤ n ∧ PyData.strOk t = true) → (Str.join sep ts).length ≤ (n + 2) * ts.length ∧ PyData.strOk (Str.join sep ts) = true
  | [], _ => ⟨Nat.zero_le _, (by show PyData.strOk Str.empty = true; simp [PyData.strOk, Str.empty])⟩
  | [x], h => by
    obtain ⟨a, b⟩ := h x List.mem_cons_self
    exact ⟨by show x.length ≤ (n + 2) * 1; omega, b⟩
  | x :: y :: r, h => by
    obtain ⟨a, b⟩ := h x List.mem_cons_self
    obtain ⟨c, d⟩ := join_fit hs hk (y :: r) fun t m => h t (List.mem_cons_of_mem _ m)
    refine ⟨?_, strOk_app (strOk_app b hk) d⟩
    show (x ++ sep ++ Str.join sep (y :: r)).length ≤ _
    rw [PySem.Str.length_append, PySem.Str.length_append, List.length_cons, Nat.mul_add]
    omega
theorem from_fit {n : Nat} : ∀ (ts : List Str) (k : Nat) (acc : Str), PyData.strOk acc = true → (∀ t ∈ ts, t.length ≤ n ∧ PyData.strOk t = true) → (textFrom k acc ts).length ≤ acc.length + (n + 2) * ts.length ∧ PyData.strOk (textFrom k acc ts) = true
  | [], k, acc, ha, _ => ⟨Nat.le_add_right _ _, ha⟩
  | t :: r, k, acc, ha, h => by
    obtain ⟨a, b⟩ := h t List.mem_cons_self
    have hs : PyData.strOk ((if k > 0 then ", " else "" : String) : Str) = true := strOk_ofString _
    have hl : ((if k > 0 then ", " else "" : String) : Str).length ≤ 2 := by split <;> decide
    obtain ⟨c, d⟩ := from_fit r (k + 1) (acc ++ ((if k > 0 then ", " else "" : String) : Str) ++ t) (strOk_app (strOk_app ha hs) b) fun u m => h u (List.mem_cons_of_mem _ m)
    refine ⟨?_, d⟩
    show (textFrom (k + 1) _ r).length ≤ _
    rw [PySem.Str.length_append, PySem.Str.length_append] at c
    rw [List.length_cons, Nat.mul_add]
    omega
theorem shows_tuple {xs : List PyData} {n : Nat} (h : ∀ x ∈ xs, Shows x n) : Shows (.tuple xs) ((n + 2) * xs.length + 3) := by
  have hx : ∀ t ∈ PyData.shownAll xs, t.length ≤ n ∧ PyData.strOk t = true := fun t m => by
    rw [shownAll_map] at m
    obtain ⟨x, hx, rfl⟩ := List.mem_map.mp m
    exact ⟨(h x hx).len, (h x hx).ok⟩
  obtain ⟨a, b⟩ := join_fit (sep := ", ") (by decide) (strOk_ofString _) _ hx
  have e : (PyData.shownAll xs).length = xs.length := by rw [shownAll_map, List.length_map]
  rw [e] at a
  have hl : ((if (PyData.shownAll xs).length == 1 then ",)" else ")" : String) : Str).length ≤ 2 := by split <;> decide
  have ho : PyData.strOk ((if (PyData.shownAll xs).length == 1 then ",)" else ")" : String) : Str) = true := strOk_ofString _
  refine ⟨by simp only [PyData.showable]; exact showable_all h, ?_, ?_⟩
  · simp only [PyData.shown]
    show (("(" : Str) ++ Str.join ", " (PyData.shownAll xs) ++ _).length ≤ _
    rw [PySem.Str.length_append, PySem.Str.length_append]
    have : ("(" : Str).length = 1 := rfl
    omega
  · simp only [PyData.shown]
    exact strOk_app (strOk_app (strOk_ofString _) b) ho
theorem shows_list {xs : List PyData} {n : Nat} (h : ∀ x ∈ xs, Shows x n) : Shows (.list xs) ((n + 2) * xs.length + 2) := by
  have hx : ∀ t ∈ PyData.shownAll xs, t.length ≤ n ∧ PyData.strOk t = true := fun t m => by
    rw [shownAll_map] at m
    obtain ⟨x, hx, rfl⟩ := List.mem_map.mp m
    exact ⟨(h x hx).len, (h x hx).ok⟩
  obtain ⟨a, b⟩ := from_fit (PyData.shownAll xs) 0 "[" (strOk_ofString _) hx
  have e : (PyData.shownAll xs).length = xs.length := by rw [shownAll_map, List.length_map]
  rw [e] at a
  refine ⟨by simp only [PyData.showable]; exact showable_all h, ?_, ?_⟩
  · simp only [PyData.shown]
    show (textFrom 0 "[" (PyData.shownAll xs) ++ ("]" : Str)).length ≤ _
    rw [PySem.Str.length_append]
    have : ("[" : Str).length = 1 := rfl
    have : ("]" : Str).length = 1 := rfl
    omega
  · simp only [PyData.shown]
    exact strOk_app b (strOk_ofString _)
theorem shows_dict0 : Shows (.dict []) 40 := by
  have e : (PyData.dict []).shown = dictText [] := by simp only [PyData.shown, PyData.shownKv]
  refine ⟨by simp [PyData.showable, PyData.showableKv], ?_, ?_⟩
  · rw [e]
    show (("{" : Str) ++ Str.join ", " [] ++ ("}" : Str)).length ≤ 40
    rw [PySem.Str.length_append, PySem.Str.length_append]
    decide
  · rw [e]
    show PyData.strOk (("{" : Str) ++ Str.join ", " [] ++ ("}" : Str)) = true
    exact strOk_app (strOk_app (strOk_ofString _) (by show PyData.strOk Str.empty = true; simp [PyData.strOk, Str.empty])) (strOk_ofString _)
theorem repr_ok {w : W} {S : Hs} {d : PyData} {n : Nat} (e : toD S dataDepth w = some d) (h : Shows d n) (hn : n ≤ 16777216) : reprW [w] S = .ok (.str d.shown) S := by
  unfold reprW showD
  simp only [e]
  rw [if_pos ⟨h.sh, by rw [sizeLine_eq]; exact Nat.le_trans h.len hn⟩]
theorem ne_str {x y : Str} {S : Hs} (h1 : PyData.strOk x = true) (h2 : PyData.strOk y = true) : neW (.str x) (.str y) S = .ok (.bl (!(x == y))) S := by
  unfold neW; rw [eqD_str h1 h2]
theorem eq_str {x y : Str} {S : Hs} (h1 : PyData.strOk x = true) (h2 : PyData.strOk y = true) : eqW (.str x) (.str y) S = .ok (.bl (x == y)) S := by
  unfold eqW; rw [eqD_str h1 h2]
/-- two things whose texts are compared -/
theorem ne_reprs {ex ey : DE} {sw : SW} {S S1 S2 : Hs} {x y : W} {d : PyData} {n : Nat} (h1 : ex sw S = .ok x S1) (h2 : toD S1 dataDepth x = some d) (h3 : ey sw S1 = .ok y S2) (h4 : toD S2 dataDepth y = some d) (hs : Shows d n) (hn : n ≤ 16777216) :
    dbin neW (dcB reprW (dcons ex dnil)) (dcB reprW (dcons ey dnil)) sw S = .ok (.bl false) S2 := by
  simp only [dbin_ap, dcB_ap, dcons_ap, h1, R.bind_ok, dnil_ap, repr_ok h2 hs hn, h3, repr_ok h4 hs hn, ne_str hs.ok hs.ok, beq_self_eq_true, Bool.not_true]
theorem eq_reprs {ex ey : DE} {sw : SW} {S S1 S2 : Hs} {x y : W} {d : PyData} {n : Nat} (h1 : ex sw S = .ok x S1) (h2 : toD S1 dataDepth x = some d) (h3 : ey sw S1 = .ok y S2) (h4 : toD S2 dataDepth y = some d) (hs : Shows d n) (hn : n ≤ 16777216) :
    dbin eqW (dcB reprW (dcons ex dnil)) (dcB reprW (dcons ey dnil)) sw S = .ok (.bl true) S2 := by
  simp only [dbin_ap, dcB_ap, dcons_ap, h1, R.bind_ok, dnil_ap, repr_ok h2 hs hn, h3, repr_ok h4 hs hn, eq_str hs.ok hs.ok, beq_self_eq_true]
theorem depth_S : dataDepth = 39 + 1 := rfl
theorem depth_S2 : dataDepth = 38 + 1 + 1 := rfl
theorem depth_S3 : dataDepth = 37 + 1 + 1 + 1 := rfl
end DL

set_option Elab.async false
set_option linter.all false
set_option maxRecDepth 100000
/-! DL36: own exceptions in the defs: their __init__, raise, try: .. except C: return w. -/
namespace DL
open PySem PySem.Spec PyProof.Rows L2

/-- the promise of an own exception's __init__ -/
theorem exc_init {P : Program} {w : World} {K : PySem.W.Frag} {mg : Str → Option Value} {base : Heap} {q f x : Str} {st : Stmt} {fI : Addr} {fd : FuncData} (F : FunD K "__init__" q (defArgs st) (defBody st) (defScope st) [] [] fI fd) (S : FnScope ["self", f] ["self", f] (defScope st))
    (hb : ∀ (cdv : Value) (A : Around) (outer : List Env) (s : Shared) (H : Hp) (E : XK), PSs (cxOf C8.CX0 P w K mg base ["self", f] q (defScope st) fI cdv A outer s H E) (defBody st) (tSeq (tDrop (tVeI K (tCons (tVar 0) (tCons (tC (.str x)) tNil)))) (tOst K f (tVar 0) (tVar 1)))) :
    FnOk P w K mg base C8.CX0 1 fI fd ["self", f] (spI K f) :=
  F.ok S (fun vs H Q E h => by obtain ⟨a, C, y, rfl, _⟩ := h; rfl) fun cdv A outer s H vs Q E hr hsp => ⟨_, hb cdv A outer s H E, ini_run hsp⟩
/-- what a context may use of an own exception class -/
structure ExcU (P : Program) (w : World) (K : PySem.W.Frag) (mg : Str → Option Value) (base : Heap) (Cn f : Str) (C : Addr) : Prop where
  cls : mg Cn = some (.ref C)
  oex : OexC K C
  nof : PySem.W.findIn K (.ref C) f = some none
  ini : ∃ (fI : Addr) (fd : FuncData), PySem.W.findIn K (.ref C) "__init__" = some (some (.ref fI)) ∧ PySem.W.typeIn K (.ref fI) = some (.type "function") ∧ FnOk P w K mg base C8.CX0 1 fI fd ["self", f] (spI K f) ∧ Binds K fd ["self", f] []
section
variable {X : Cx} {cl : Cla} {Wx : L2.WX} {Cn f : Str} {e : Expr} {fe : DE} {p pos pos' : Pos} {C : Addr}
theorem z_raiseU {k : Nat} (U : ExcU X.prog X.w X.K X.mg X.base Cn f C) (hc : X.calm = true) (tk : Takes X Wx) (hcl : cl Cn = C) (hr : RoomG k X.A) (hk : 2 ≤ k) (he : PE X e (tE X.K cl Wx fe)) (hg : Gl X Cn) (hdb : (Cn == ("__debug__" : Str)) = false := by decide)
    (hs : starEach (e :: []) X.env = (false, eval e X.env) :: starEach [] X.env := by rfl) (hpl : (backTo pos (starEach [] X.env)).any (·.1) = false := by rfl) :
    PS X (.Raise (some (.Call (.Name Cn p) [e] [] pos)) none pos') (tS X.K cl Wx (sraise Cn f fe)) := by
  obtain ⟨fI, fd, h1, h2, F1, hb⟩ := U.ini
  exact z_raise hc tk U.oex U.nof hcl U.cls h1 h2 F1 hb (hr.room.mono hk) he hg hdb hs hpl
end
/-! ### try: .. except C: return w -/
def stryR (sub : Str → Option Bool) (w : W) (f : DS) : DS := fun sw S => match f sw S with
  | .exc C fs sw1 S1 => match sub C with
    | some true => .rt w S1
    | some false => .exc C fs sw1 S1
    | none => .bad
  | r => r
section
variable {X : Cx} {cl : Cla} {Wx : L2.WX} {x : Str} {c : Value} {body : List Stmt} {np pos pos' rp : Pos} {f : DS} {e : Expr} {v : V} {w : W}
theorem t_tryR {K : PySem.W.Frag} {sub : Str → Option Bool} (hsub : ∀ C b, sub C = some b → PySem.W.exmOne K (.ref (cl C)) c = some b) (hw : ∀ ι n H, Rep K ι n H w v) {D : Ends} {σ : L2.St} {H : Hp} (h : tS K cl Wx (stryR sub w f) D σ H) :
    tS K cl (wOnly K c (fun _ _ _ => tRet (tC v)) Wx D) f D σ H := by
  obtain ⟨ι, S, sw, A, h⟩ := h
  refine ⟨ι, S, sw, A, ?_⟩
  unfold stryR at h
  cases q : f sw S with
  | exc C fs sw1 S1 =>
    rw [q] at h
    intro ι1 σ1 d gs H1 g1 s1 ed kr ne
    simp only at h
    cases e : sub C with
    | none => rw [e] at h; exact h.elim
    | some b =>
      refine ⟨b, hsub C b e, fun eb => ?_, fun eb => ?_⟩
      · subst eb
        rw [e] at h
        exact fun a ha => h ι1 v H1 g1 (hw _ _ _)
      · subst eb
        rw [e] at h
        exact h ι1 σ1 d gs H1 g1 s1 ed kr ne
  | nx a b => rw [q] at h; exact h
  | rt a b => rw [q] at h; exact h
  | bk a b => rw [q] at h; exact h
  | ct a b => rw [q] at h; exact h
  | bad => rw [q] at h; exact h
theorem z_tryR {sub : Str → Option Bool} (hsub : ∀ C b, sub C = some b → PySem.W.exmOne X.K (.ref (cl C)) c = some b) (hw : ∀ ι n H, Rep X.K ι n H w v) (hs : X.stack = X.env :: X.outer) (hf : X.env.frame = some X.env.locals) (tk : Takes X Wx) (hc : Names X x c)
    (hb : ∀ (W : L2.WX) (pn : List (Addr × Obj)) (xe : Value → Shared → Prop), Takes (X.tr pn xe) W → PassesOwn (model X.prog X.w) X.A X.env xe → PSs (X.tr pn xe) body (tS X.K cl W f))
    (he : ∀ (a : Addr) (oe : Obj) (pn : List (Addr × Obj)), PE (X.suite a ((a, oe) :: pn)) e (tC v)) :
    PS X (.Try body [.ExceptHandler (some (.Name x np)) none [.Return (some e) rp] pos'] [] [] pos) (tS X.K cl Wx (stryR sub w f)) :=
  (ps_try_only hs hf hc tk (tb := fun W => tS X.K cl W f) hb fun a oe cls d pn _ _ => pss_one (ps_ret (he a oe pn))).dimp fun D σ H h => t_tryR hsub hw h
end
/-! ### loops, a turn at a time -/
theorem forD_one {gd : Hs → Bool} {g : DG} {body : DS} {w : W} {ws : List W} {sw sw1 sw2 : SW} {S S1 S2 : Hs} (h : gd S = true) (h1 : g w sw S = .ok sw1 S1) (h2 : body sw1 S1 = .nx sw2 S2) : forD gd g body (w :: ws) sw S = forD gd g body ws sw2 S2 := by
  simp only [forD, if_pos h, h1, h2]
theorem forD_rt {gd : Hs → Bool} {g : DG} {body : DS} {w u : W} {ws : List W} {sw sw1 : SW} {S S1 S2 : Hs} (h : gd S = true) (h1 : g w sw S = .ok sw1 S1) (h2 : body sw1 S1 = .rt u S2) : forD gd g body (w :: ws) sw S = .rt u S2 := by
  simp only [forD, if_pos h, h1, h2]
theorem forD_exc {gd : Hs → Bool} {g : DG} {body : DS} {w : W} {ws : List W} {sw sw1 sw2 : SW} {S S1 S2 : Hs} {C : Str} {fs : List (Str × W)} (h : gd S = true) (h1 : g w sw S = .ok sw1 S1) (h2 : body sw1 S1 = .exc C fs sw2 S2) : forD gd g body (w :: ws) sw S = .exc C fs sw2 S2 := by
  simp only [forD, if_pos h, h1, h2]
theorem forD_nil {gd : Hs → Bool} {g : DG} {body : DS} {sw : SW} {S : Hs} (h : gd S = true) : forD gd g body [] sw S = .nx sw S := by
  simp only [forD, if_pos h]
end DL

set_option Elab.async false
set_option linter.all false
set_option maxRecDepth 100000
/-! DL37: what the head finds of own exception classes. -/
namespace DL
open PySem PySem.Spec PyProof.Rows L2

def excFB (K : PySem.W.Frag) (C B : Addr) (f : Str) : Bool := oexB K C && (baseB K B && (decide (PySem.W.findIn K (.ref C) f = some none) && (xfB K C && (decide (PySem.W.findIn K (.ref C) "__init__" = some (some (.ref (He.ma K C "__init__")))) && decide (PySem.W.typeIn K (.ref (He.ma K C "__init__")) = some (.type "function"))))))
theorem excFB_ok {K : PySem.W.Frag} {mg : Str → Option Value} {Cn Bn f q : Str} {st : Stmt} {C B : Addr} {fd : FuncData} (c : excFB K C B f = true) (hC : mg Cn = some (.ref C)) (hB : mg Bn = some (.ref B))
    (F : FunD K "__init__" q (defArgs st) (defBody st) (defScope st) [] [] (He.ma K C "__init__") fd) : ExcF K mg Cn Bn f q st C B := by
  obtain ⟨c1, c⟩ := He.ba c
  obtain ⟨c2, c⟩ := He.ba c
  obtain ⟨c3, c⟩ := He.ba c
  obtain ⟨c4, c⟩ := He.ba c
  obtain ⟨c5, c6⟩ := He.ba c
  exact ⟨hC, hB, oexB_ok c1, baseB_ok c2, of_decide_eq_true c3, xfB_ok c4, _, fd, of_decide_eq_true c5, of_decide_eq_true c6, F⟩
end DL

set_option Elab.async false
set_option linter.all false
set_option maxRecDepth 100000
set_option maxHeartbeats 2000000
/-! DL38: a lambda without parameters, handed to a def that calls it in a try. -/
namespace DL
open PySem PySem.Spec PyProof.Rows L2 LamX

/-! ### is, is not of truth values -/
def isBW (f : Bool → Bool) (x y : W) (S : Hs) : R W := match x, y with
  | .bl a, .bl b => .ok (.bl (f (decide (a = b)))) S
  | _, _ => .bad
theorem p_isB {X : Cx} : DOp X (compareOp .Is) (isBW id) := .of op_isBl fun cl ι S H x y v u Q E r rx ry h => by
  unfold isBW at h
  split at h
  · cases rx; cases ry
    exact ⟨_, _, rfl, rfl, Res.ok h r (.bl _)⟩
  · exact h.elim
theorem p_isnB {X : Cx} : DOp X (compareOp .IsNot) (isBW not) := .of op_notBl fun cl ι S H x y v u Q E r rx ry h => by
  unfold isBW at h
  split at h
  · cases rx; cases ry
    exact ⟨_, _, rfl, rfl, Res.ok h r (.bl _)⟩
  · exact h.elim
/-! ### tables -/
theorem xo_code {a C d : Addr} {q : Str} : XO a C d ≠ CodeO a q := fun z => by
  have e := HO.ext.inj z
  let o : Obj := { cls := .ref C, dict := some d, data := .fields #[] }
  let h : Heap := ⟨(List.replicate a (default : Obj) ++ [o]).toArray, {}⟩
  have hg : h.get? a = some o := by
    have e2 : (List.replicate a (default : Obj) ++ [o]).toArray[a]? = some o := by simp
    show (match (List.replicate a (default : Obj) ++ [o]).toArray[a]? with
      | some ⟨_, _, .freed, _⟩ => none
      | o => o) = some o
    rw [e2]
  have p1 : (fun h : Heap => ∃ (oe : Obj) (vs : Array Value), h.get? a = some oe ∧ oe.cls = .ref C ∧ oe.dict = some d ∧ oe.data = .fields vs) h := ⟨o, #[], hg, rfl, rfl, rfl⟩
  rw [e] at p1
  obtain ⟨oc, vs, t, e1, e2, e3⟩ := p1
  rw [hg] at e1
  cases e1
  cases e2
  simp at e3
/-- the table of one def, as the making of a lambda asks it -/
def TabAt (H : Hp) (P : Addr) (q : Str) : Prop := ∃ ps : Array Value, H P = some (.tbl ps) ∧ TriplesOk ps.toList ∧ ∀ (pos : Pos) (cv : Value), codeAmong pos ps.toList = some cv → ∃ c, cv = .ref c ∧ H c = some (CodeO c q)
/-- what becomes of the heap when a lambda is made -/
def LamH (P : Addr) (q : Str) (H H1 : Hp) : Prop := H1 = H ∨ ∃ (ps more : Array Value) (c : Addr), H P = some (.tbl ps) ∧ H c = none ∧ TriplesOk (ps ++ more).toList ∧ H1 = upd (upd H P (.tbl (ps ++ more))) c (CodeO c q) ∧
  ∀ (pos : Pos) (cv : Value), codeAmong pos (ps ++ more).toList = some cv → codeAmong pos ps.toList = some cv ∨ cv = .ref c
section
variable {K : PySem.W.Frag} {cl : Cla} {ι : Nat → Addr} {S : Hs} {H H1 : Hp} {P : Addr} {q : Str}
theorem TabR.at_ {n : Nat} (h : TabR cl ι n H) (hm : (P, q) ∈ cl.tabs) : TabAt H P q := by
  obtain ⟨ps, h1, h2, h3, h4⟩ := h _ hm
  refine ⟨ps, h1, h2, fun pos cv e => ?_⟩
  obtain ⟨c, e1, e2, _⟩ := h4 pos cv e
  exact ⟨c, e1, e2⟩
theorem Rel.lam (r : Rel K cl ι S H) (hm : (P, q) ∈ cl.tabs) (hu : ∀ p ∈ cl.tabs, p.1 = P → p.2 = q) (h : LamH P q H H1) : Go K cl ι S H ι S H1 := by
  rcases h with rfl | ⟨ps, more, c, hP, hc, ht, rfl, ha⟩
  · exact Go.refl r
  have nPc : P ≠ c := ne_of_none hP hc
  have kp : ∀ a u, H a = some u → (∀ ps, u ≠ .tbl ps) → upd (upd H P (.tbl (ps ++ more))) c (CodeO c q) a = some u := fun a u e n => by
    rw [upd_ne (ne_of_none e hc), upd_ne (fun z => n ps (by rw [z, hP] at e; exact (Option.some.inj e).symm))]; exact e
  have kpt : Kpt H (upd (upd H P (.tbl (ps ++ more))) c (CodeO c q)) := fun a u k e => kp a u e (fun ps z => by subst z; rcases k with ⟨_, z⟩ | ⟨_, _, z | z⟩ <;> cases z)
  refine ⟨Nat.le_refl _, fun _ _ => rfl, fun i a b => absurd b (Nat.not_lt.mpr a), fun a o e n _ => kp a o e n, fun a qs e => ?_, ⟨fun i o e => ?_, r.inj, fun p hp => ?_⟩⟩
  · by_cases ha : a = P
    · subst ha; exact ⟨_, by rw [upd_ne nPc, upd_same]⟩
    · exact ⟨qs, by rw [upd_ne (ne_of_none e hc), upd_ne ha]; exact e⟩
  · exact (r.obj i o e).mono (Nat.le_refl _) (fun _ _ => rfl) (fun i a b => absurd b (Nat.not_lt.mpr a)) kpt (fun u hu => kp _ _ hu (fun ps z => by subst z; exact (r.obj i o e).ntb ps hu)) (fun d gs h _ => kp _ _ h (fun ps z => by cases z))
  · obtain ⟨ps0, g1, g2, g3, g4⟩ := r.tab p hp
    have old : ∀ (pos : Pos) (cv : Value), codeAmong pos ps0.toList = some cv → ∃ c', cv = .ref c' ∧ upd (upd H P (.tbl (ps ++ more))) c (CodeO c q) c' = some (CodeO c' p.2) ∧ ∀ i, i < S.length → c' ≠ ι i := fun pos cv e => by
      obtain ⟨c', e1, e2, e3⟩ := g4 pos cv e
      exact ⟨c', e1, kp _ _ e2 (fun ps z => by have z' : HO.ext _ = HO.tbl ps := z; cases z'), e3⟩
    by_cases hb : p.1 = P
    · have hq := hu p hp hb
      rw [hb, hP] at g1
      cases g1
      refine ⟨ps ++ more, by rw [hb, upd_ne nPc, upd_same], ht, g3, fun pos cv e => ?_⟩
      rcases ha pos cv e with e | e
      · exact old pos cv e
      · refine ⟨c, e, by rw [upd_same, hq], fun i hi z => ?_⟩
        obtain ⟨u, hu', _⟩ := r.at_ hi
        rw [← z, hc] at hu'
        cases hu'
    · exact ⟨ps0, by rw [upd_ne (ne_of_none g1 hc), upd_ne hb]; exact g1, g2, g3, old⟩
end
/-! ### the making -/
section
variable {X : Cx} {pins : List (Addr × Obj)} {σ : L2.St} {H : Hp} {s : Shared}
theorem lam_made {c P : Addr} {params : Arguments} {body : Expr} {scope : Scope} {pos : Pos} {E Q : Value → Shared → Prop} (I : Inv X pins σ H s) (TB : TabB X.base X.mg c P) (hcode : X.env.code = .ref c) (hT : TabAt H P (X.env.qual ++ "<lambda>"))
    (hdef : defaultsOf params X.env = ([], [])) (hfree : ∀ y ∈ scope.names, y.2 = .free → ∃ c, X.env.cells.lookup y.1 = some c)
    (h : ∀ (f c' : Addr) (pm ctv : Value) (H1 : Hp) (s' : Shared), Inv X pins σ H1 s' → LamH P (X.env.qual ++ "<lambda>") H H1 → s'.heap.get? f = some (PySem.W.kla_obj "<lambda>" (X.env.qual ++ "<lambda>") params body scope (cloFrom X.env.cells scope.names []) pm c' ctv) →
      H1 f = none → f ∉ frs X.stack → H1 c' = some (CodeO c' (X.env.qual ++ "<lambda>")) → Q (.ref f) s') :
    wpAny (model X.prog X.w) X.A (eval (.Lambda params body scope pos) X.env) Q E s := by
  obtain ⟨ps, hP, ht, ha⟩ := hT
  have off : ∀ f, s.heap.objs.size ≤ f → f ∉ frs X.stack := fun f hf z => by
    rcases List.mem_cons.mp (I.stkSub _ z) with e | e
    · have h1 := I.lt
      rw [← e] at h1
      exact absurd (Nat.lt_of_lt_of_le h1 hf) (Nat.lt_irrefl _)
    · exact I.nofs hf e
  have hP2 := I.hok P _ hP
  have bP : s.heap.BuiltinsAt X.mg P := TB.bm.keeps I.bk
  refine PySem.W.kla_eval hdef ?_
  cases hit : codeAmong pos ps.toList with
  | some cv =>
    obtain ⟨c', rfl, hco⟩ := ha pos cv hit
    refine PySem.W.kla_makeFunctionHit (mg := X.mg) (c := c) (P := P) (ps := ps) (closure_ok hfree) I.ok.glob (I.mod.glob.keeps I.bk) hcode (TB.code.keeps I.bk) hP2 ht hit bP fun ctv h' tk hx hsz => ?_
    refine h h'.objs.size c' ((X.mg "__name__").getD .none) ctv H _ (I.kept (t' := tk) fun b o e => Heap.get?_push_of_some _ (hx b o e)) (.inl rfl) (Heap.get?_push_size _ rfl) (I.hok.fresh hsz) (off _ hsz) hco
  | none =>
    refine PySem.W.kla_makeFunction (mg := X.mg) (c := c) (P := P) (ps := ps) (closure_ok hfree) I.ok.glob (I.mod.glob.keeps I.bk) hcode (TB.code.keeps I.bk) hP2 ht hit TB.gP bP fun c' ctv h' tk hx hge hlt hrec htb => ?_
    obtain ⟨c2, oc, vs, t, e2, hoc, hd, hv⟩ := hrec
    cases e2
    have nC : H c' = none := I.hok.fresh hge
    have hsz : s.heap.objs.size ≤ h'.objs.size := Nat.le_trans hge (Nat.le_of_lt hlt)
    have el : (ps ++ #[rawInt pos.line, rawInt pos.col, .ref c']).toList = ps.toList ++ [rawInt pos.line, rawInt pos.col, .ref c'] := by simp
    have J := inv_table (t' := tk) (more := #[rawInt pos.line, rawInt pos.col, .ref c']) (h' := h'.push (PySem.W.kla_obj "<lambda>" (X.env.qual ++ "<lambda>") params body scope (cloFrom X.env.cells scope.names []) ((X.mg "__name__").getD .none) c' ctv)) (q := X.env.qual ++ "<lambda>") I hP
      (fun b o hb e => Heap.get?_push_of_some _ (hx b o hb e)) (Heap.get?_push_of_some _ htb) hge ⟨oc, vs, t, Heap.get?_push_of_some _ hoc, hd, hv⟩
    refine h h'.objs.size c' ((X.mg "__name__").getD .none) ctv _ _ J (.inr ⟨ps, _, c', hP, nC, by rw [el]; exact PySem.TriplesOk_snoc _ _ _ _ ht, rfl, fun p' cv e => ?_⟩) (Heap.get?_push_size _ rfl) ?_ (off _ hsz) upd_same
    · rw [el] at e
      exact among_app _ ht e
    · rw [upd_ne (Nat.ne_of_gt hlt), upd_ne (Nat.ne_of_gt (Nat.lt_of_lt_of_le (Heap.lt_size hP2) hsz))]
      exact I.hok.fresh hsz
end
/-! ### the call of what was handed over -/
section
variable {X : Cx} {pins : List (Addr × Obj)} {σ : L2.St} {H : Hp} {s : Shared}
/-- the context of the def that got it -/
abbrev gCx (X : Cx) (Ng : List Str) (x : Str) (sg : Scope) (g : Addr) (cdg : Value) (s : Shared) (H : Hp) : Cx := cxOf C8.CX0 X.prog X.w X.K X.mg X.base Ng x sg g cdg X.A X.stack s H C8.E0
theorem act_run {Ng : List Str} {x : Str} {sg : Scope} {g f c' : Addr} {cdg pm ctv : Value} {params : Arguments} {body : Expr} {scope : Scope} {k : Nat} {a : Str} {pn : List (Addr × Obj)} {xe : Value → Shared → Prop} {Wz : L2.WX} {tb : XK → TE} {p1 p2 : Pos}
    (I : Inv X pins σ H s) (L : LamS X.env.scope scope) (hf : s.heap.get? f = some (PySem.W.kla_obj "<lambda>" (X.env.qual ++ "<lambda>") params body scope (cloFrom X.env.cells scope.names []) pm c' ctv)) (hfn : H f = none) (hfr : f ∉ frs X.stack)
    (hbind : bindArgs (PySem.W.kla_fn "<lambda>" (X.env.qual ++ "<lambda>") params body scope (cloFrom X.env.cells scope.names []) pm (.ref c') ctv) ⟨[], []⟩ = pure [])
    (tk : Takes ((gCx X Ng x sg g cdg s H).tr pn xe) Wz) (hr : RoomG (k + 1) (X.A.deeper (envOfC x sg s.heap.objs.size g cdg)))
    (hbody : ∀ (A : Around) (outer : List Env) (s : Shared) (H : Hp) (E : XK), RoomG k (A.deeper (lamEnv X scope s.heap.objs.size f c')) → PE (lamCx X A outer s H E scope f c') body (tb E))
    (hN : Ng[0]? = some a) (hv : Vis sg a) (hd : (a == ("__debug__" : Str)) = false) (hcd : (a == ("__classdict__" : Str)) = false) :
    PE ((gCx X Ng x sg g cdg s H).tr pn xe) (.Call (.Name a p1) [] [] p2)
      (fun σZ HZ Q => σZ[0]? = some (some (.ref f)) ∧ HZ c' = some (CodeO c' (X.env.qual ++ "<lambda>")) ∧ tb (fun cls d H' => Wz cls d σZ H') σ HZ Q) := by
  refine ⟨fun pinsZ sZ σZ HZ Q IZ ⟨hs, hc, ht⟩ => ?_⟩
  refine wpAny_Call_Name_kw (thn ((pe_var (pos := p1) (i := 0) hN hv hd hcd).run pinsZ sZ σZ HZ (fun v H1 => v = .ref f ∧ H1 = HZ) IZ ⟨.ref f, hs, rfl, rfl⟩) fun u s1 ⟨v, H1, J, r1, q1⟩ => ?_)
  obtain ⟨ev, eH⟩ := q1
  subst ev
  rw [eH] at J
  obtain rfl : u = Value.ref f := r1
  have of1 := J.base.keep f _ hf hfn hfr (fun z => nomatch (show f ∈ ([] : List Addr) from z))
  refine PySem.W.callWith_F0 ⟨_, _, _, _, of1⟩ ?_
  have un : Un (frs X.stack) [] H HZ s.heap s1.heap := J.base
  obtain ⟨⟨oc, vs, t, hoc, hdc, hvc⟩, _, _⟩ := J.hok c' _ hc
  refine wpAny_call (codeAny_mono (show codeAny (model X.prog X.w) (X.A.deeper (envOfC x sg s.heap.objs.size g cdg)) (.call (.ref f) ⟨[], []⟩) (CR (L2.CX X.prog X.w) (envOfC x sg s.heap.objs.size g cdg :: X.stack) X.prog X.w HZ s1 Q (fun cls d H' => Wz cls d σZ H')) s1 from ?_) fun r s' hq => ?_)
  · refine PySem.W.kla_callFunE hr.room.depth of1 rfl L.co L.gen rfl ⟨c', oc, vs, t, rfl, hoc, hdc, hvc⟩ ?_
    rw [hbind]
    refine wpAny_pure (wpAny_newFunctionEnv (fun y hy => (L.own y hy).2) (fun y hy => absurd hy (by simp)) (fun h₁ hns hsb => ⟨J.nolimit.fresh _ hsb, ?_⟩) L.kind)
    show codeAny _ _ (.expr body (lamEnv X scope s1.heap.objs.size f c')) _ _
    have JL := lam_start2 (A := X.A.deeper (envOfC x sg s.heap.objs.size g cdg)) (outer := envOfC x sg s.heap.objs.size g cdg :: X.stack) (E := fun cls d H' => Wz cls d σZ H') (f := f) (c' := c') (tk := s1.toks + ([] : List (Str × Value)).length) I L J.env0 hr.room.hd un hns
      fun b o e => hsb.extBut b o (Nat.ne_of_lt (Heap.lt_size e)) (Heap.get?_push_of_some _ e)
    refine PySem.W.kla_codeExpr (wpAny_mono ((hbody _ _ s1 HZ _ (hr.deeper _)).run [] _ _ HZ Q JL ht) (fun v s' hq => ?_) fun e s' hq => hq)
    obtain ⟨w', H', J', rv, q⟩ := hq
    exact ⟨w', H', J'.os, J'.bare, J'.base, J'.hok, rv, q⟩
  · cases r with
    | error e => exact passAt tk σZ pinsZ HZ s1 e s' J hq
    | ok fl =>
      cases fl with
      | ret u => exact J.after hq
      | next => exact False.elim hq
      | brk => exact False.elim hq
      | cont => exact False.elim hq
end
/-! ### the def that gets it -/
/-- all that stands stays -/
def ExtA (H H' : Hp) : Prop := ∀ b o, H b = some o → H' b = some o
/-- its first statement: the slots vs become None -/
def tIni (vs : List Nat) : TS := fun D σ H => ∀ H', ExtA H H' → (∀ a ps, H' a = some (.tbl ps) → H a = some (.tbl ps)) → D.nx (vs.foldl (fun σ i => σ.set i (some .non)) σ) H'
section
variable {Z : Cx} {i j : Nat} {n m : Str} {p p2 p3 p4 pos pos' : Pos} {k k2 k3 k4 : Nat}
theorem ps_ini1 (hN : Z.N.Nodup) (hi : Z.N[i]? = some n) (hl : Z.env.scope.names.lookup n = some .local) : PS Z (.Assign [.Name n p] (.Constant .none k p2) pos) (tIni [i]) :=
  (ps_set hN hi (.inl hl) pe_non rfl (.inr hl)).dimp fun D σ H h => h H (fun _ _ e => e) fun _ _ e => e
theorem ps_ini2 (hc : Z.calm = true) (hN : Z.N.Nodup) (hi : Z.N[i]? = some n) (hj : Z.N[j]? = some m) (hln : Z.env.scope.names.lookup n = some .local) (hlm : Z.env.scope.names.lookup m = some .local)
    (hsw : swapsWithSole [.Tuple [.Name n p, .Name m p2] k pos'] (.Tuple [.Constant .none k2 p3, .Constant .none k3 p4] k4 p3) pos.line Z.env = pure false := by rfl) (hsw2 : swappedStores [.Tuple [.Name n p, .Name m p2] k pos'] (.Tuple [.Constant .none k2 p3, .Constant .none k3 p4] k4 p3) Z.env = pure none := by rfl) :
    PS Z (.Assign [.Tuple [.Name n p, .Name m p2] k pos'] (.Tuple [.Constant .none k2 p3, .Constant .none k3 p4] k4 p3) pos) (tIni [i, j]) :=
  (ps_asg (pe_tup (pa_cons pe_non (pa_cons pe_non pa_nil))) (pg_tup hc (pgs_cons (pg_name hN hi (.inl hln) (.inr hln)) (pgs_cons (pg_name hN hj (.inl hlm) (.inr hlm)) pgs_nil))) hsw hsw2 (by rfl)).dimp fun D σ H h =>
    ⟨Nat.le_of_ble_eq_true rfl, fun a ha => ⟨a, [.non, .non], rfl, .inl (.inl upd_same), rfl, .non, [.non], rfl, .non, [], rfl, rfl, h _ (fun b o e => by rw [upd_ne (ne_of_none e ha)]; exact e) fun b ps e => by
      by_cases hb : b = a
      · subst hb; rw [upd_same] at e; cases e
      · rw [upd_ne hb] at e; exact e⟩⟩
end
end DL

set_option Elab.async false
set_option linter.all false
set_option maxRecDepth 100000
set_option maxHeartbeats 2000000
/-! DL39: except (A, B, ..) as n: m = n. -/
namespace DL
open PySem PySem.Spec PyProof.Rows L2 LamX

theorem flying_ext {B h h' : Heap} {l : List Env} {a : Addr} {Z : Obj → Prop} (x : HandSPX.FlyingZ B l a Z h) (k : ∀ b o, h.get? b = some o → h'.get? b = some o) : HandSPX.FlyingZ B l a Z h' := by
  obtain ⟨x1, x2, x3, oe, vs, T, oT, ts, y1, y2, y3, y4, y5, y6, y7, y8, y9⟩ := x
  exact ⟨fun b o e => k b o (x1 b o e), x2, Heap.FunFrames.of_keeps (fun b o e _ => ⟨o, k b o e, rfl⟩) x3, oe, vs, T, oT, ts, k _ _ y1, y2, y3, y4, y5, y6, k _ _ y7, y8, y9⟩
/-- what the clause's expression answers: mt -/
def TestX (X : Cx) (ty : Expr) (mt : Value → Option Bool) : Prop := ∀ (a : Addr) (oe : Obj) (pn : List (Addr × Obj)) (σ : L2.St) (H : Hp) (s : Shared) (cls : Value) (b : Bool) (Q E : Value → Shared → Prop), Inv (X.suite a ((a, oe) :: pn)) [] σ H s →
  PySem.W.Looks (model X.prog X.w) s.heap (typeOf (.ref a)) cls → mt cls = some b →
  (∀ (cv : Value) (h' : Heap), (∀ b o, s.heap.get? b = some o → h'.get? b = some o) → PySem.W.Looks (model X.prog X.w) h' (excMatches (.ref a) cv) b → Q cv { s with heap := h' }) → wpAny (model X.prog X.w) (X.A.mark (some (.ref a))) (eval ty X.env) Q E s
section
variable {X : Cx}
theorem name_at {x : Str} {c : Value} {np : Pos} (hc : Names X x c) {a : Addr} {oe : Obj} {pn : List (Addr × Obj)} {σ : L2.St} {H : Hp} {s : Shared} {Q E : Value → Shared → Prop} (I : Inv (X.suite a ((a, oe) :: pn)) [] σ H s) (q : Q c s) :
    wpAny (model X.prog X.w) (X.A.mark (some (.ref a))) (eval (.Name x np) X.env) Q E s := by
  obtain ⟨hg, hdbg, hm | ⟨hm, hv, hnn⟩⟩ := hc
  · exact ld_glob (X := X.suite a ((a, oe) :: pn)) I hg hm q hdbg
  · exact ld_blt (X := X.suite a ((a, oe) :: pn)) I hg hm hv q hnn hdbg
theorem testx_1 {x : Str} {c : Value} {np : Pos} (hc : Names X x c) : TestX X (.Name x np) (fun cls => PySem.W.exmOne X.K cls c) := fun a oe pn σ H s cls b Q E I LT e q =>
  name_at hc I (q c s.heap (fun _ _ e => e) (PySem.W.exm_one I.kIn LT e))
theorem testx_2 {x1 x2 : Str} {c1 c2 : Value} {p1 p2 tp : Pos} {kk : Nat} (n1 : Names X x1 c1) (n2 : Names X x2 c2) : TestX X (.Tuple [.Name x1 p1, .Name x2 p2] kk tp) (fun cls => PySem.W.exmAny X.K cls [c1, c2]) := fun a oe pn σ H s cls b Q E I LT e q => by
  refine wpAny_Tuple (wpAny_items_cons (name_at n1 I (wpAny_items_cons (name_at n2 I (wpAny_items_nil ⟨by size_fits, ?_⟩)))))
  have kp : ∀ q o, s.heap.get? q = some o → (s.heap.push { cls := .type "tuple", data := .seq [c1, c2].toArray }).get? q = some o := fun _ _ z => Heap.get?_push_of_some _ z
  exact q _ _ kp (PySem.W.exm_tup2 (I.kIn.keeps kp) (LT.keeps kp) (Heap.get?_push_size s.heap rfl) e)
theorem testx_3 {x1 x2 x3 : Str} {c1 c2 c3 : Value} {p1 p2 p3 tp : Pos} {kk : Nat} (n1 : Names X x1 c1) (n2 : Names X x2 c2) (n3 : Names X x3 c3) : TestX X (.Tuple [.Name x1 p1, .Name x2 p2, .Name x3 p3] kk tp) (fun cls => PySem.W.exmAny X.K cls [c1, c2, c3]) := fun a oe pn σ H s cls b Q E I LT e q => by
  refine wpAny_Tuple (wpAny_items_cons (name_at n1 I (wpAny_items_cons (name_at n2 I (wpAny_items_cons (name_at n3 I (wpAny_items_nil ⟨by size_fits, ?_⟩)))))))
  have kp : ∀ q o, s.heap.get? q = some o → (s.heap.push { cls := .type "tuple", data := .seq [c1, c2, c3].toArray }).get? q = some o := fun _ _ z => Heap.get?_push_of_some _ z
  exact q _ _ kp (PySem.W.exm_tup3 (I.kIn.keeps kp) (LT.keeps kp) (Heap.get?_push_size s.heap rfl) e)
theorem testx_4 {x1 x2 x3 x4 : Str} {c1 c2 c3 c4 : Value} {p1 p2 p3 p4 tp : Pos} {kk : Nat} (n1 : Names X x1 c1) (n2 : Names X x2 c2) (n3 : Names X x3 c3) (n4 : Names X x4 c4) : TestX X (.Tuple [.Name x1 p1, .Name x2 p2, .Name x3 p3, .Name x4 p4] kk tp) (fun cls => PySem.W.exmAny X.K cls [c1, c2, c3, c4]) := fun a oe pn σ H s cls b Q E I LT e q => by
  refine wpAny_Tuple (wpAny_items_cons (name_at n1 I (wpAny_items_cons (name_at n2 I (wpAny_items_cons (name_at n3 I (wpAny_items_cons (name_at n4 I (wpAny_items_nil ⟨by size_fits, ?_⟩)))))))))
  have kp : ∀ q o, s.heap.get? q = some o → (s.heap.push { cls := .type "tuple", data := .seq [c1, c2, c3, c4].toArray }).get? q = some o := fun _ _ z => Heap.get?_push_of_some _ z
  exact q _ _ kp (PySem.W.exm_tup4 (I.kIn.keeps kp) (LT.keeps kp) (Heap.get?_push_size s.heap rfl) e)
end
/-- what the clause wishes of an exception of the body -/
def wKeepM (mt : Value → Option Bool) (i j : Nat) (Wout : L2.WX) (D : Ends) : L2.WX := fun cls d σ H =>
  ∃ b, mt cls = some b ∧ (b = true → ∃ C dd, cls = .ref C ∧ d = some dd ∧ ∀ a, H a = none → D.nx (((σ.set i (some (.ref a))).set j (some (.ref a))).set i none) (upd H a (XO a C dd))) ∧ (b = false → Wout cls d σ H)
section
variable {X : Cx} {n m : Str} {ty : Expr} {mt : Value → Option Bool} {i j : Nat} {body : List Stmt} {np2 mp pos pos' pos2 : Pos} {tb : L2.WX → TS} {Wout : L2.WX}
theorem ps_try_keepM (ht : TestX X ty mt) (hs : X.stack = X.env :: X.outer) (hf : X.env.frame = some X.env.locals) (hx : X.ex = []) (hN : X.N.Nodup) (hi : X.N[i]? = some n) (hj : X.N[j]? = some m) (hln : X.env.kindOf n = some .local) (hlm : X.env.scope.names.lookup m = some .local) (tk : Takes X Wout)
    (hb : ∀ (W : WX) (pn : List (Addr × Obj)) (xe : Value → Shared → Prop), Takes (X.tr pn xe) W → PassesOwn (model X.prog X.w) X.A X.env xe → PSs (X.tr pn xe) body (tb W)) (hdn : (n == ("__debug__" : Str)) = false := by decide) (hcd : (n == ("__classdict__" : Str)) = false := by decide)
    (hsw : swapsWithSole [.Name m mp] (.Name n np2) pos2.line X.env = pure false := by rfl) (hsw2 : swappedStores [.Name m mp] (.Name n np2) X.env = pure none := by rfl) :
    PS X (.Try body [.ExceptHandler (some ty) (some n) [.Assign [.Name m mp] (.Name n np2) pos2] pos'] [] [] pos) (fun D σ H => tb (wKeepM mt i j Wout D) D σ H) := by
  refine ⟨fun pins s σ H D I h => ?_⟩
  have ok := I.ok
  have hfr : X.A.frames = some (X.env :: X.outer) := by rw [ok.frames, hs]
  have hloc : Loc X.env.scope n := .inl hln
  refine wpAny_Try_except ?_
  refine wpAny_mono ((hb (wKeepM mt i j Wout D) (X.pn ++ pins) (fun e s₁ => wpAny (model X.prog X.w) X.A (noteFrame e X.env) (fun _ s₂ => wpAny (model X.prog X.w) X.A (setFlight e none) (fun _ s₃ =>
    wpAny (model X.prog X.w) X.A (handleBy e X.env [.ExceptHandler (some ty) (some n) [.Assign [.Name m mp] (.Name n np2) pos2] pos']) (SP X pins D) X.xe s₃) X.xe s₂) X.xe s₁) (fun u s' xx => ?_) PassesOwn.looking).run [] s σ H D (I.toTry _) h) (fun f s1 hsp => ?_) (fun e s1 he => he)
  · -- the catch
    obtain ⟨a, B, sI, pins', σ', H', cls, d, rfl, J', nb, up, sky, na, os, ag, b, hb1, hyes, hno⟩ := xx
    have J : Inv X pins σ' H' sI := J'.ofTry ok
    have sky' : Sky B (X.env :: X.outer) a (Zc cls d) X.env.locals s'.heap := by rw [← hs]; exact sky
    show wpAny (model X.prog X.w) X.A (noteFrame (.ref a) X.env) _ _ _
    refine Sky.land Zc.steady hfr hf sky' fun h3 fl3 up3 => ?_
    have J3 : Inv X pins σ' H' { s' with heap := h3 } := J.landed nb fl3.1 (up.trans up3) os ag
    obtain ⟨oe3, vs3, he3, hz3, hd3⟩ := fl3.there
    have notFr : ∀ {h : Heap} {o : Obj} {vs : Array Value}, h.FunFrames B (X.env :: X.outer) → h.get? a = some o → o.data = .fields vs → a ∉ frs (X.env :: X.outer) := fun {h o vs} ff e dd hm => by
      obtain ⟨_, o', e', hnf⟩ := ff.mem hm
      rw [e] at e'; cases e'
      exact hnf _ dd
    have nfr := notFr fl3.2.2.1 he3 hd3
    have nL : a ≠ X.env.locals := fun z => nfr (List.mem_filterMap.mpr ⟨X.env, List.mem_cons_self, by rw [hf, z]⟩)
    have nF : a ∉ X.fs := fun hm => by
      obtain ⟨e, he, q⟩ := List.mem_filterMap.mp hm
      exact nfr (List.mem_filterMap.mpr ⟨e, List.mem_cons_of_mem _ he, q⟩)
    have nB : B.get? a = none := fl3.2.1
    have nS : sI.heap.get? a = none := by
      cases q : sI.heap.get? a with
      | none => rfl
      | some o =>
        have := nb a o q (by rw [hs]; exact nfr)
        rw [nB] at this; cases this
    have n0 : X.s_0.heap.get? a = none := by
      cases q : X.s_0.heap.get? a with
      | none => rfl
      | some o =>
        obtain ⟨o', q'⟩ := J.base.there a o q (by rw [hx]; exact List.not_mem_nil)
        rw [nS] at q'; cases q'
    have nP : ∀ p ∈ X.pn ++ pins, p.1 ≠ a := fun p hp z => by
      have := (J.pin p hp).1
      rw [z, nS] at this; cases this
    have S3 := J3.suite he3 hd3 na nL nF
    refine wpAny_handleBy_cons (codeAny_handlers_test ?_) (by intro q; cases q)
    have LT : PySem.W.Looks (model X.prog X.w) h3 (typeOf (.ref a)) cls := fun A Q E s k q => wpAny_typeOf_ref (k _ _ he3) (by rw [hz3.1]; exact q)
    refine ht a oe3 _ σ' H' _ cls b _ _ S3 LT hb1 fun cv h5 k5 LM => LM.here ?_
    have up5 : s'.heap.UpToSlots h5 := up3.trans (Heap.UpToSlots.of_keeps k5)
    have fl5 : HandSPX.FlyingZ B (X.env :: X.outer) a (Zc cls d) h5 := flying_ext fl3 k5
    cases b with
    | true =>
      refine codeAny_handlers_suite_as ?_
      refine HandSPX.lands_againZ fl5 fun h4 fl4 up4 => ?_
      have J4 : Inv X pins σ' H' { s' with heap := h4 } := J.landed nb fl4.1 ((up.trans up5).trans up4) os ag
      obtain ⟨oe4, vs4, he4, hz4, hd4⟩ := fl4.there
      have S4 := J4.suite he4 hd4 na nL nF
      refine store_ok (X := X.suite a ((a, oe4) :: (X.pn ++ pins))) (v := .ref a) S4 hN hi hloc rfl (fun s5 S5 => ?_) (.inr hln)
      obtain ⟨C, dd, ec, ed, hq⟩ := hyes rfl
      subst ec ed
      have hv : Vis X.env.scope n := .inl hln
      have hsu : PSs (X.suite a ((a, oe4) :: (X.pn ++ pins))) [.Assign [.Name m mp] (.Name n np2) pos2] _ := pss_one (ps_asg (pos := pos2) (pe_var (pos := np2) hi hv hdn hcd) (pg_name (pos := mp) hN hj (.inl hlm) (.inr hlm)) hsw hsw2 (by rfl))
      have hlt : i < σ'.length := by
        rw [J.len]
        exact (List.getElem?_eq_some_iff.mp hi).1
      refine wpAny_mono (hsu.run [] s5 (σ'.set i (some (.ref a))) H' { nx := fun σ6 H6 => σ6 = (σ'.set i (some (.ref a))).set j (some (.ref a)) ∧ H6 = H', rt := fun _ _ => False } S5 ?_) (fun f s6 hsp => ?_) (fun _ _ z => False.elim z)
      · exact ⟨.ref a, List.getElem?_set_self hlt, rfl, rfl⟩
      cases f with
      | next =>
        obtain ⟨σ6, H6, S6, rfl, rfl⟩ := hsp
        obtain ⟨he6, _⟩ := S6.pin (a, oe4) (List.mem_append_left _ List.mem_cons_self)
        refine gone_ok2 (S6.unsuite ok) hN hi hln fun s7 J7 k7 => ?_
        have he7 : s7.heap.get? a = some oe4 := k7 a oe4 nL he6
        refine ⟨_, _, J7.track (o := XO a C dd) he7 na n0 hx nL (fun y c' e z => ?_) nP ?_, hq a na⟩
        · subst z
          obtain ⟨v, o', e1, e2⟩ := J7.cell y _ e
          rw [he7] at e1; cases e1
          rw [hd4] at e2; cases e2
        · exact ⟨⟨oe4, vs4, he7, hz4.1, hz4.2, hd4⟩, ⟨oe4, he7⟩, fun h1 h2 ⟨oe, vs, q1, q2, q3, q4⟩ k => ⟨oe, vs, k _ q1, q2, q3, q4⟩⟩
      | brk =>
        obtain ⟨_, _, _, q6⟩ := hsp
        exact q6.elim
      | cont =>
        obtain ⟨_, _, _, q6⟩ := hsp
        exact q6.elim
      | ret u =>
        obtain ⟨_, _, _, _, _, q6⟩ := hsp
        exact q6.elim
    | false =>
      show wpAny _ X.A (handleBy (.ref a) X.env []) _ _ _
      refine wpAny_handleBy_nil ?_
      obtain ⟨k1, k2, k3, oe, vs, T, oT, ts', he, hz, hd, h1, hr⟩ := id fl5
      unfold PySem.passOn
      refine wpAny_bind (wpAny_field he hd h1 ?_)
      rw [if_neg (show ¬ ((Value.ref T == Value.none) = true) from by simp)]
      have fin : wpAny (model X.prog X.w) X.A (setFlight (.ref a) X.env.frame) (fun _ s4 => wpAny (model X.prog X.w) X.A (throw (.ref a) : Sem Flow) (SP X pins D) X.xe s4) X.xe { s' with heap := h5 } := by
        rw [hf]
        refine HandSPX.setFlight_upZ fl5 fun h4 hh4 up4 => wpAny_throw (tk _ _ ?_)
        exact ⟨a, B, sI, pins, σ', H', cls, d, rfl, J, nb, (up.trans up5).trans up4, .inr (.inr (by rw [hs]; exact hh4)), na, os, ag, hno rfl⟩
      first
        | exact wpAny_bind (wpAny_pure (wpAny_bind fin))
        | exact wpAny_bind fin
  · cases f with
    | next =>
      obtain ⟨σ', H', J', q⟩ := hsp
      exact wpAny_execs_nil ⟨σ', H', J'.ofTry ok, q⟩
    | brk =>
      obtain ⟨σ', H', J', q⟩ := hsp
      exact ⟨σ', H', J'.ofTry ok, q⟩
    | cont =>
      obtain ⟨σ', H', J', q⟩ := hsp
      exact ⟨σ', H', J'.ofTry ok, q⟩
    | ret u =>
      obtain ⟨v, σ', H', J', r, q⟩ := hsp
      exact ⟨v, σ', H', J'.ofTry ok, r, q⟩
end
end DL

set_option Elab.async false
set_option linter.all false
set_option maxRecDepth 100000
set_option maxHeartbeats 2000000
/-! DL40: a def that is handed a lambda, by denotation. -/
namespace DL
open PySem PySem.Spec PyProof.Rows L2 LamX

def nones (n : Nat) (vs : List Nat) : SW := vs.foldl (fun sw i => sw.set i (some .non)) (List.replicate n none)
def putK (k : Option Nat) (w : W) (sw : SW) : SW := match k with
  | some i => sw.set i (some w)
  | none => sw
def finR : RS → R W
  | .nx _ S => .ok .non S
  | .rt w S => .ok w S
  | _ => .bad
/-- vs become None; [k =] act(); except sub as i: j = i; rest -/
def told (n : Nat) (vs : List Nat) (sub : Str → Option Bool) (i j : Nat) (k : Option Nat) (rest : DS) (act : Hs → R W) (S : Hs) : R W := trimR S (match act S with
  | .ok w S1 => finR (rest (putK k w (nones n vs)) S1)
  | .exc C fs S1 => match sub C with
    | some true => finR (rest ((((nones n vs).set i (some (.ref S1.length))).set j (some (.ref S1.length))).set i none) (S1 ++ [.exc C fs]))
    | _ => .bad
  | .bad => .bad)
theorem trim_noexc {S : Hs} {r : R W} (h : ∀ C fs S1, r ≠ .exc C fs S1) : ∀ C fs S1, trimR S r ≠ .exc C fs S1 := fun C fs S1 => by
  cases r with
  | ok w S2 =>
    intro z
    have z' : (if refIn S.length w = true ∧ okPre S S2 = true then R.ok w (S2.take S.length) else R.ok w S2) = .exc C fs S1 := z
    split at z' <;> cases z'
  | exc C2 fs2 S2 => exact absurd rfl (h C2 fs2 S2)
  | bad => intro z; cases z
theorem fin_noexc (r : RS) : ∀ C fs S1, finR r ≠ .exc C fs S1 := fun C fs S1 => by
  cases r <;> intro z <;> cases z
theorem told_noexc {n : Nat} {vs : List Nat} {sub : Str → Option Bool} {i j : Nat} {k : Option Nat} {rest : DS} : ∀ act S C fs S1, told n vs sub i j k rest act S ≠ .exc C fs S1 := fun act S => by
  unfold told
  refine trim_noexc ?_
  intro C fs S1
  split
  · exact fin_noexc _ _ _ _
  · split
    · exact fin_noexc _ _ _ _
    · intro z; cases z
  · intro z; cases z
/-- f(lambda: body) -/
def dlam (g : (Hs → R W) → Hs → R W) (fb : DE) : DE := fun sw S => g (fun S' => fb sw S') S
section
variable {K : PySem.W.Frag} {cl : Cla} {ι : Nat → Addr} {S : Hs} {H : Hp}
theorem slots_none (n : Nat) (σ : L2.St) (h : σ.length = n) (m : Nat) : Slots K ι m H (List.replicate n none) σ := ⟨by rw [List.length_replicate, h], fun i w e => by
  rw [List.getElem?_replicate] at e
  split at e <;> cases e⟩
theorem slots_nones : ∀ (vs : List Nat) (sw : SW) (σ : L2.St) (m : Nat), Slots K ι m H sw σ → Slots K ι m H (vs.foldl (fun sw i => sw.set i (some .non)) sw) (vs.foldl (fun σ i => σ.set i (some .non)) σ)
  | [], _, _, _, h => h
  | v :: vs, _, _, m, h => slots_nones vs _ _ m (h.set v .non)
theorem fold_len {α : Type} (x : α) : ∀ (vs : List Nat) (σ : List α), (vs.foldl (fun σ i => σ.set i x) σ).length = σ.length
  | [], _ => rfl
  | v :: vs, σ => by rw [List.foldl_cons, fold_len x vs, List.length_set]
theorem fold_zero {α : Type} (x : α) : ∀ (vs : List Nat) (σ : List α), (∀ v ∈ vs, v ≠ 0) → (vs.foldl (fun σ i => σ.set i x) σ)[0]? = σ[0]?
  | [], _, _ => rfl
  | v :: vs, σ, h => by rw [List.foldl_cons, fold_zero x vs _ fun u m => h u (List.mem_cons_of_mem _ m), List.getElem?_set_ne (h v List.mem_cons_self)]
theorem Res.from {α β : Type} {RA : (Nat → Addr) → Nat → Hp → α → β → Prop} {ι' : Nat → Addr} {S' : Hs} {H' : Hp} {r : R α} {Q : β → Hp → Prop} {E : XK} (g : Go K cl ι S H ι' S' H') (h : Res K cl RA ι S H r Q E) : Res K cl RA ι' S' H' r Q E := by
  cases r with
  | ok a S1 => exact fun ι2 b H2 g2 => h ι2 b H2 (g.trans g2)
  | exc C fs S1 => exact fun ι2 d gs H2 g2 => h ι2 d gs H2 (g.trans g2)
  | bad => exact h
theorem rel_ext {H' : Hp} (r : Rel K cl ι S H) (k : ExtA H H') : Go K cl ι S H ι S H' := r.grown k
/-- what is left behind -/
theorem fin_at {r : RS} {Q : VK} (h : Res K cl (RV K) ι S H (finR r) Q fun _ _ _ => False) : ResS K cl (fun _ _ _ _ => False) ι S H r { nx := fun _ H' => Q .non H', rt := Q } := by
  cases r with
  | nx sw S1 => exact fun ι' σ' H' g _ => h ι' .non H' g .non
  | rt w S1 => exact h
  | bk sw S1 => exact h.elim
  | ct sw S1 => exact h.elim
  | exc C fs sw S1 => exact h.elim
  | bad => exact h.elim
end
/-- what the call of such a def asks of the state -/
def TTd (K : PySem.W.Frag) (cl : Cla) (g : (Hs → R W) → Hs → R W) (tl : XK → Hp → VK → Prop) : Hp → VK → Prop := fun H Q => ∃ (ι : Nat → Addr) (S : Hs) (act : Hs → R W), Rel K cl ι S H ∧
  (∀ (E : XK) (ι' : Nat → Addr) (S' : Hs) (H' : Hp) (Q' : VK), Go K cl ι S H ι' S' H' → Res K cl (RV K) ι' S' H' (act S') Q' E → tl E H' Q') ∧ Res K cl (RV K) ι S H (g act S) Q fun _ _ _ => False
/-- the promise of such a def -/
def Gives (X : Cx) (cl : Cla) (Ng : List Str) (x : Str) (sg : Scope) (g : Addr) (cdg : Value) (bg : List Stmt) (a : Str) (q : Str) (gd : (Hs → R W) → Hs → R W) : Prop :=
  ∀ (f c' : Addr) (s : Shared) (H : Hp) (Q : VK) (tl : XK → Hp → VK → Prop),
    (∀ (Wz : L2.WX) (pn : List (Addr × Obj)) (xe : Value → Shared → Prop) (p1 p2 : Pos), Takes ((gCx X Ng x sg g cdg s H).tr pn xe) Wz →
      PE ((gCx X Ng x sg g cdg s H).tr pn xe) (.Call (.Name a p1) [] [] p2) (fun σZ HZ Q => σZ[0]? = some (some (.ref f)) ∧ HZ c' = some (CodeO c' q) ∧ tl (fun cls d H' => Wz cls d σZ H') HZ Q)) →
    H c' = some (CodeO c' q) → TTd X.K cl gd tl H Q → ∃ t, PSs (gCx X Ng x sg g cdg s H).nox bg t ∧ t { nx := fun _ H' => Q .non H', rt := Q } (L2.start Ng [.ref f]) H
/-- the statement of the try: what becomes of the result -/
inductive ActS (Ng : List Str) (sg : Scope) (a : Str) : Option Nat → Stmt → Prop
  | drop {p1 p2 pos : Pos} : ActS Ng sg a none (.Expr (.Call (.Name a p1) [] [] p2) pos)
  | put {p1 p2 p3 pos : Pos} {k : Nat} {y : Str} : Ng[k]? = some y → k ≠ 0 → sg.names.lookup y = some .local → ActS Ng sg a (some k) (.Assign [.Name y p3] (.Call (.Name a p1) [] [] p2) pos)
section
variable {X : Cx} {cl : Cla} {Ng : List Str} {x a nm m : Str} {sg : Scope} {g : Addr} {cdg : Value} {st1 ast : Stmt} {rest : List Stmt} {ty : Expr} {q : Str} {vs : List Nat} {sub : Str → Option Bool} {mt : Value → Option Bool} {i j : Nat} {k : Option Nat} {frest : DS} {np2 mp pos pos' pos2 : Pos}
theorem gives_told (hvs : ∀ v ∈ vs, v ≠ 0) (hi0 : i ≠ 0) (hj0 : j ≠ 0) (hN : Ng.Nodup) (hi : Ng[i]? = some nm) (hj : Ng[j]? = some m) (hln : sg.names.lookup nm = some .local) (hlm : sg.names.lookup m = some .local) (hNg : Ng[0]? = some a) (hsub : ∀ C b, sub C = some b → mt (.ref (cl C)) = some b)
    (hdn : (nm == ("__debug__" : Str)) = false) (hcd : (nm == ("__classdict__" : Str)) = false)
    (hini : ∀ (s : Shared) (H : Hp), PS (gCx X Ng x sg g cdg s H).nox st1 (tIni vs)) (hty : ∀ (s : Shared) (H : Hp), TestX (gCx X Ng x sg g cdg s H).nox ty mt) (hast : ActS Ng sg a k ast)
    (hsa : ∀ (s : Shared) (H : Hp), (∀ e pos, ast = .Expr e pos → swapsWith e none pos.line (gCx X Ng x sg g cdg s H).env = pure false) ∧ (∀ y p3 e pos, ast = .Assign [.Name y p3] e pos → swapsWith e (some (.Name y p3)) pos.line (gCx X Ng x sg g cdg s H).env = pure false))
    (hsw : ∀ (s : Shared) (H : Hp), swapsWithSole [.Name m mp] (.Name nm np2) pos2.line (gCx X Ng x sg g cdg s H).env = pure false ∧ swappedStores [.Name m mp] (.Name nm np2) (gCx X Ng x sg g cdg s H).env = pure none)
    (hrest : ∀ (s : Shared) (H : Hp), PSs (gCx X Ng x sg g cdg s H).nox rest (tS X.K cl (fun _ _ _ _ => False) frest)) :
    Gives X cl Ng x sg g cdg (st1 :: .Try [ast] [.ExceptHandler (some ty) (some nm) [.Assign [.Name m mp] (.Name nm np2) pos2] pos'] [] [] pos :: rest) a q (told Ng.length vs sub i j k frest) := by
  intro f c' s H Q tl act hco ⟨ι, S, actD, rel, hact, hres⟩
  have hlen : 0 < Ng.length := by
    cases Ng with
    | nil => cases hNg
    | cons _ _ => exact Nat.succ_pos _
  have ps : PSs (gCx X Ng x sg g cdg s H).nox (st1 :: .Try [ast] [.ExceptHandler (some ty) (some nm) [.Assign [.Name m mp] (.Name nm np2) pos2] pos'] [] [] pos :: rest) _ :=
    pss_cons (hini s H) (pss_cons (ps_try_keepM (X := (gCx X Ng x sg g cdg s H).nox) (i := i) (j := j) (mt := mt) (Wout := fun _ _ _ _ => False)
      (tb := fun Wz D σ H' => σ[0]? = some (some (.ref f)) ∧ H' c' = some (CodeO c' q) ∧ tl (fun cls d H2 => Wz cls d σ H2) H' (fun v H2 => D.nx (match k with | some kk => σ.set kk (some v) | none => σ) H2))
      (hty s H) rfl rfl rfl hN hi hj hln hlm LamX.takes0 (fun Wz pn xe tk _ => ?_) hdn hcd (hsw s H).1 (hsw s H).2) (hrest s H))
  · refine ⟨_, ps, ?_⟩
    -- from the start
    intro H1 hext htb
    have gI := rel_ext rel hext
    have hl0 : (L2.start Ng [V.ref f]).length = Ng.length := by
      unfold L2.start
      simp
      omega
    have s0 : (L2.start Ng [V.ref f])[0]? = some (some (.ref f)) := rfl
    have e0 : (vs.foldl (fun σ i => σ.set i (some V.non)) (L2.start Ng [V.ref f]))[0]? = some (some (V.ref f)) := (fold_zero (some V.non) vs _ hvs).trans s0
    have sl : ∀ {ι' : Nat → Addr} {n : Nat} {H' : Hp}, Slots X.K ι' n H' (nones Ng.length vs) (vs.foldl (fun σ i => σ.set i (some V.non)) (L2.start Ng [V.ref f])) := fun {ι' n H'} => slots_nones vs _ _ n (slots_none _ _ hl0 n)
    generalize vs.foldl (fun σ i => σ.set i (some V.non)) (L2.start Ng [V.ref f]) = σ1 at *
    refine ⟨e0, hext _ _ hco, hact _ ι S H1 _ gI ?_⟩
    have h2 := Res.trim rel hres
    cases qa : actD S with
    | ok w S1 =>
      rw [qa] at h2
      intro ι2 v H2 g2 rv
      have g := gI.trans g2
      have h3 : Res X.K cl (RV X.K) ι2 S1 H2 (finR (frest (putK k w (nones Ng.length vs)) S1)) Q fun _ _ _ => False := Res.from g h2
      refine ⟨ι2, S1, putK k w (nones Ng.length vs), ⟨g2.rel, ?_⟩, fin_at h3⟩
      cases k with
      | none => exact sl
      | some kk => exact sl.set kk rv
    | exc C fs S1 =>
      rw [qa] at h2
      intro ι2 d gs H2 g2 ed kr ne
      simp only at h2
      cases qs : sub C with
      | none => rw [qs] at h2; exact h2.elim
      | some b =>
        cases b with
        | false => rw [qs] at h2; exact h2.elim
        | true =>
          rw [qs] at h2
          refine ⟨true, hsub C true qs, fun _ => ⟨cl C, d, rfl, rfl, fun a' ha => ?_⟩, fun z => by cases z⟩
          have hda : d ≠ a' := ne_of_none ed ha
          have g3 := g2.rel.alloc ha (u := XO a' (cl C) d) (o := .exc C fs) ⟨d, gs, upd_same, by rw [upd_ne hda]; exact ed, kr.mono (Nat.le_succ _) (fun k hk => ins_lt hk) fun a u _ e => upd_keep ha a u e, fun k hk => by
            by_cases hk2 : k < S1.length
            · rw [ins_lt hk2]; exact ne k hk2
            · have : k = S1.length := by omega
              subst this
              rw [ins_same]; exact hda⟩
          have rr : Rep X.K (ins_ ι2 S1.length a') (S1 ++ [WO.exc C fs]).length (upd H2 a' (XO a' (cl C) d)) (.ref S1.length) (.ref (ins_ ι2 S1.length a' S1.length)) := .ref (by simp)
          rw [ins_same] at rr
          have h3 := Res.from (gI.trans (g2.trans g3)) h2
          exact ⟨_, _, _, ⟨g3.rel, ((sl.set i rr).set j rr).unset i⟩, fin_at h3⟩
    | bad => rw [qa] at h2; exact h2.elim
  · -- the try's own statement
    have hp := fun p1 p2 => act Wz pn xe p1 p2 tk
    have sw1 := hsa s H
    cases hast with
    | drop => exact (pss_one (ps_expr (hp _ _) (sw1.1 _ _ rfl))).dimp fun D σ H' h => h
    | put hk hk0 hkl => exact (pss_one (ps_set (X := (gCx X Ng x sg g cdg s H).nox.tr pn xe) hN hk (.inl hkl) (hp _ _) (sw1.2 _ _ _ _ rfl) (.inr hkl))).dimp fun D σ H' h => h
end
/-! ### f(lambda: body) -/
section
variable {X : Cx} {cl : Cla} {Wx : L2.WX}
theorem d_lam {x a : Str} {g : Addr} {k : Nat} {pg : Arguments} {bg : List Stmt} {sg : Scope} {dV kV doc pm cdv ct oc : Value} {an od : Option Addr} {osl : Array (Option Value)} {Ng : List Str} {params : Arguments} {body : Expr} {scope : Scope} {gd : (Hs → R W) → Hs → R W} {fb : DE} {p lpos pos : Pos}
    (hg : Gl X x) (hm : X.mg x = some (.ref g)) (hk : PySem.W.keepIn X.K (.ref g) = true) (lk : X.K.lookup g = some ⟨oc, od, .func (PySem.W.fnOf x x pg bg sg dV kV doc pm an cdv ct), osl⟩) (hcg : PySem.W.codeIn X.K cdv x = true)
    (hb : L2.Binds X.K (PySem.W.fnOf x x pg bg sg dV kV doc pm an cdv ct) [a] []) (Sg : FnScope Ng [a] sg) (hNg : Ng[0]? = some a) (hva : Vis sg a) (hd : (a == ("__debug__" : Str)) = false) (hcd : (a == ("__classdict__" : Str)) = false)
    (hG : Gives X cl Ng x sg g cdv bg a (X.env.qual ++ "<lambda>") gd) (hne : ∀ act S C fs S1, gd act S ≠ .exc C fs S1)
    (hT : ∃ c P, X.env.code = .ref c ∧ TabB X.base X.mg c P ∧ (P, X.env.qual ++ "<lambda>") ∈ cl.tabs ∧ ∀ p ∈ cl.tabs, p.1 = P → p.2 = X.env.qual ++ "<lambda>") (hr : RoomG (k + 2) X.A) (L : LamS X.env.scope scope) (hdef : defaultsOf params X.env = ([], []))
    (hbind : ∀ (q : Str) (c : List (Str × Addr)) (pm cv ctv : Value), bindArgs (PySem.W.kla_fn "<lambda>" q params body scope c pm cv ctv) ⟨[], []⟩ = pure [])
    (hbody : ∀ (A : Around) (outer : List Env) (s : Shared) (H : Hp) (E : XK) (f c' : Addr), RoomG k (A.deeper (lamEnv X scope s.heap.objs.size f c')) → PE (lamCx X A outer s H E scope f c') body (tE X.K cl (WxE E) fb))
    (hdb : (x == ("__debug__" : Str)) = false := by decide) :
    PE X (.Call (.Name x p) [.Lambda params body scope lpos] [] pos) (tE X.K cl Wx (dlam gd fb)) := by
  refine ⟨fun pins s σ H Q I ⟨ι, S, sw, A, h⟩ => ?_⟩
  obtain ⟨c, P, hcode, TB, hmT, hu⟩ := hT
  refine wpAny_Call_Name_kw (ld_glob I hg hm ?_ hdb)
  refine PySem.W.callWith_K (h₀ := X.base) I.ok.mod.kin hk ?_ (by rfl) (by rfl)
  show wpAny _ _ (spliced ((false, eval (.Lambda params body scope lpos) X.env) :: backTo pos (starEach [] X.env))) _ _ s
  refine Calls.spliced_cons (lam_made I TB hcode (A.rel.tab.at_ hmT) hdef (L.has I.ok) fun f c' pm' ctv H1 s' I1 hH hf hfn hfr hco => ?_)
  have gL := A.rel.lam hmT hu hH
  refine Calls.spliced_nil ⟨I1.kIn, ?_⟩
  have tt : TTd X.K cl gd (fun E H' Q' => tE X.K cl (WxE E) fb σ H' Q') H1 Q := by
    refine ⟨ι, S, fun S' => fb sw S', gL.rel, fun E ι' S' H' Q' g hq => ⟨ι', S', sw, A.go (gL.trans g), hq⟩, ?_⟩
    have h2 := Res.from gL h
    unfold dlam at h2
    cases q : gd (fun S' => fb sw S') S with
    | ok w S1 => rw [q] at h2; exact h2
    | exc C fs S1 => exact absurd q (hne _ _ _ _ _)
    | bad => rw [q] at h2; exact h2
  refine wpAny_call (codeAny_mono (show codeAny (model X.prog X.w) X.A (.call (.ref g) ⟨[.ref f], []⟩) (CR C8.CX0 X.stack X.prog X.w H1 s' Q C8.E0) s' from ?_) fun r s2 hq => ?_)
  · refine run_ofS (N := Ng) (ps := [a]) (us := [.ref f]) (vs := [.ref f]) lk hcg Sg hr.room I1.env0 (hb s' [.ref f] I1.kIn rfl) (.cons rfl .nil) rfl fun _ => ?_
    obtain ⟨t', ht', hq'⟩ := hG f c' s' H1 Q _ (fun Wz pn xe p1 p2 tk => act_run I1 L hf hfn hfr (hbind _ _ _ _ _) tk (hr.deeper _) (fun A outer s H E hr2 => hbody A outer s H E f c' hr2) hNg hva hd hcd) hco tt
    exact ⟨t', ht'.nox, hq'⟩
  · cases r with
    | error e => exact (show False from hq).elim
    | ok fl =>
      cases fl with
      | ret u => exact I1.after hq
      | next => exact False.elim hq
      | brk => exact False.elim hq
      | cont => exact False.elim hq
end
end DL

set_option Elab.async false
set_option linter.all false
set_option maxRecDepth 100000
set_option maxHeartbeats 2000000
/-! DL41: the law's end with tables of code objects. -/
namespace DL
open PySem PySem.Spec PyProof.Rows L2

theorem walk_DT {l : PySem.W.OpenLaw} {n k : Nat} {q : Program} {loose : List Str} {XP : (Str → Option Value) → Heap → Prop} {YP : World → Heap → Prop} {d : DefRec} {x : Str} {cl : PySem.W.Frag → Cla}
    (hn : l.most = some n) (hn2 : n ≤ sizeLine) (hdf : d.params.defaults = []) (hr : RoomG k callerA)
    (F : ∀ (w : World) (mg : Str → Option Value) (fa : Addr) (h : Heap), YP w h → h.Ns mainGlobals mg → mg d.name = some (.ref fa) →
      ∃ (K : PySem.W.Frag) (fd : FuncData) (g : DF) (cs : List (Addr × Addr)), K.In h ∧ (∀ p ∈ cs, h.get? p.2 = some { cls := .none, data := .fields #[] }) ∧ (∀ p ∈ cs, K.lookup p.2 = none) ∧ (∀ p ∈ cs, PySem.W.CodeHd h p.1 p.2) ∧ (∀ p ∈ (cl K).tabs, p.1 ∈ cs.map (·.2)) ∧ (∀ (s : Shared) (u : Value), BindsTo s fd ⟨[u], []⟩ [(x, u)]) ∧
        (∀ ns : List Int, ns.length ≤ n → ∃ S, g [.fro (ns.map .int)] [] = .ok (.bl true) S) ∧
        ∀ base : Heap, K.In base → base.Ns mainGlobals mg → (∀ p ∈ cs, LamX.TabB base mg p.1 p.2) → FnD l.prog w K mg base (cl K) k fa fd [x] g) :
    PySem.W.WalkO q loose XP YP l.row.toRowW d [] (fun f vs => PySem.call f vs) := by
  refine Att.attach_callB hn hdf fun w s₀ s₁ mg mb fa o pm cd doc a vs ns G Y ho hd hcd hmg hobj hints hlen hbits hg => ?_
  obtain ⟨K, fd, g, cs, KX, hT, nT, hC, hTab, hb, hsp, hF⟩ := F w mg fa _ Y G.T.g hmg
  have isT : ∀ b : Addr, b ∈ cs.map (·.2) → s₁.heap.get? b = some { cls := .none, data := .fields #[] } := fun b hb => by
    obtain ⟨p, hp, e⟩ := List.mem_map.mp hb
    rw [← e]
    exact hT p hp
  have memT : ∀ p ∈ cs, p.2 ∈ cs.map (·.2) := fun p hp => List.mem_map.mpr ⟨p, hp, rfl⟩
  have hl : ns.length ≤ sizeLine := Nat.le_trans hlen hn2
  have lenV := hints.length
  have rv := vals_ints hints
  obtain ⟨S', hok0⟩ := hsp ns hlen
  have hns := G.T.g
  have hbn := G.T.b
  have hbb := G.T.builtins
  have hlim := G.T.nolimit
  have ha := hobj
  have aT : a ∉ cs.map (·.2) := fun z => by
    have q := isT a z
    rw [ha] at q
    have z' : Data.seq vs.toArray _ = Data.fields #[] := congrArg Obj.data (Option.some.inj q)
    cases z'
  -- from an abstract heap in which nothing but the script may be tracked
  have core : ∀ H : Hp, (∀ p ∈ cs, H p.2 = some (.tbl #[])) → (∀ b, H b = none ∨ b ∈ cs.map (·.2) ∨ ∃ o xs, H b = some (.frz o (.lst xs))) → FroAt K H a (ns.map V.int) → HOk l.prog w H s₁.heap → (∀ b, H b ≠ none → b = a ∨ b ∈ cs.map (·.2)) → (H a ≠ none → K.lookup a = none) →
      codeAny (model l.prog w) callerA (.call (.ref fa) ⟨[.ref a], []⟩) (fun r s' => r = .ok (.ret (.bool true)) ∧ OldK s₁.heap s'.heap ∧ s'.os = s₁.os ∧ AllBare s'.gens) s₁ := by
    intro H hH hO hS hok hA hK
    have base_of : ∀ {b : Addr} {o : Obj}, s₁.heap.get? b = some o → H b = none → (hidT s₁.heap H).get? b = some o := fun e n => hidT_get e n
    have noD : ∀ {b : Addr} {o : Obj}, s₁.heap.get? b = some o → (∀ vs n, o.data ≠ .seq vs n) → o.data ≠ .fields #[] → H b = none := fun {b o} e h1 h2 => by
      cases q : H b with
      | none => rfl
      | some u =>
        rcases hA b (by rw [q]; simp) with e' | e'
        · rw [e', ha] at e
          cases e
          exact (h1 _ _ rfl).elim
        · rw [isT b e'] at e
          cases e
          exact (h2 rfl).elim
    have noA : ∀ {b : Addr} {o : Obj} {es : Array DictEntry} {ep : Nat}, s₁.heap.get? b = some o → o.data = .dict es ep → H b = none := fun {b o es ep} e d => noD e (fun vs n z => by rw [d] at z; cases z) fun z => by rw [d] at z; cases z
    have nsK : ∀ {b : Addr} {m : Str → Option Value}, s₁.heap.Ns b m → (hidT s₁.heap H).Ns b m := fun {b m} ⟨o, es, ep, e, d, r⟩ => ⟨o, es, ep, base_of e (noA e d), d, r⟩
    have hKb : K.In (hidT s₁.heap H) := fun b o e => base_of (KX b o e) (by
      cases q : H b with
      | none => rfl
      | some u =>
        rcases hA b (by rw [q]; simp) with e' | e'
        · rw [e'] at e q
          rw [hK (by rw [q]; simp)] at e; cases e
        · obtain ⟨p, hp, ep⟩ := List.mem_map.mp e'
          rw [← ep, nT p hp] at e; cases e)
    have hM : Mod K mg (hidT s₁.heap H) := ⟨hKb, nsK G.T.g, ⟨mb, nsK hbn, hbb⟩, let ⟨mc, h1, h2⟩ := hlim; ⟨mc, nsK h1, h2⟩⟩
    have TB : ∀ p ∈ cs, LamX.TabB (hidT s₁.heap H) mg p.1 p.2 := fun p hp => by
      have hTp := hT p hp
      refine ⟨?_, ?_, fun z => ?_⟩
      · obtain ⟨o, us, file, tf, flags, tg, inF, text, tt, e1, r1, r2, r3, r4, r5, r6, r7, r8, hne⟩ := hC p hp
        exact ⟨o, us, file, tf, flags, tg, inF, text, tt, base_of e1 (noD e1 (fun vs n z => by rw [r2] at z; cases z) fun z => by rw [r2] at z; cases z; simp at r3), r1, r2, r3, r4, r5, r6, r7, r8, hne⟩
      · obtain ⟨bm, ob, b1, b2, b3, b4, b5, b6⟩ := G.T.bmain
        have nG : bm ≠ mainGlobals := fun q => by
          obtain ⟨o, es, ep, e, hd, _⟩ := hns
          rw [q, e] at b3; cases b3
          rw [hd] at b6; cases b6
        have nP : bm ≠ p.2 := fun q => by
          rw [q, hTp] at b3; cases b3; cases b6
        exact ⟨bm, ob, b1, b2, nG, nP, base_of b3 (noD b3 (fun vs n z => by rw [b6] at z; cases z) fun z => by rw [b6] at z; cases z), b4, b5, b6⟩
      · obtain ⟨o, es, ep, e, hd, _⟩ := hns
        rw [z, hTp] at e; cases e
        cases hd
    have e0 : Env0 l.prog w K mg (hidT s₁.heap H) callerA [] s₁ H := ⟨rfl, hM, fun b o e => of_hidT e, Nat.le_of_eq (hidT_size _ _), trivial, fun b hb => absurd (show b ∈ ([] : List Addr) from hb) (by simp), hok, .of_eq hg⟩
    refine codeAny_mono ((hF _ hKb (nsK G.T.g) TB).run callerA [] s₁ H ⟨[.ref a], []⟩ [.ref a] [.ref a] (fun v _ => v = .bl true) (fun _ _ _ => False) hr e0 (hb s₁ (.ref a)) (.cons rfl .nil) ⟨rfl, fun _ => 0, [], [.fro (ns.map .int)], ⟨fun i o e => (by cases e), fun i j hi => absurd hi (Nat.not_lt_zero _), fun p hp => by
      obtain ⟨q, hq, eq⟩ := List.mem_map.mp (hTab p hp)
      refine ⟨#[], by rw [← eq]; exact hH q hq, trivial, fun i hi => absurd hi (Nat.not_lt_zero _), fun pos cv z => ?_⟩
      have z' : codeAmong pos [] = some cv := z
      simp [codeAmong] at z'⟩, .cons (.fro hS (reps_ints ns)) .nil, by rw [hok0]; exact fun ι' b H' _ h => by cases h; rfl⟩) fun r s' h => ?_
    cases r with
    | error e => exact (by obtain ⟨_, _, _, _, _, _, _, _, _, _, _, _, z⟩ := h; exact z : False).elim
    | ok fl =>
      cases fl with
      | next => exact False.elim h
      | brk => exact False.elim h
      | cont => exact False.elim h
      | ret u =>
        obtain ⟨v, H', os, bare, un, hok', r', q⟩ := h
        have q' : v = .bl true := q
        subst q'
        obtain rfl : u = Value.bool true := r'
        have key : ∀ b o, b ∉ cs.map (·.2) → s₁.heap.get? b = some o → s'.heap.get? b = some o := fun b o nb e => by
          cases q : H b with
          | none => exact un.keep b o e q (by intro z; exact absurd (show b ∈ ([] : List Addr) from z) (by simp)) (by simp)
          | some u =>
            rcases hO b with z | z | ⟨ob, xs, z⟩
            · rw [q] at z; cases z
            · exact absurd z nb
            · have z2 := un.frzs b ob _ z
              obtain ⟨e1, _⟩ := hok b _ z
              obtain ⟨e2, _⟩ := hok' b _ z2
              rw [e] at e1; cases e1
              exact e2
        have grown : ∀ p ∈ cs, ∃ more : Array Value, s'.heap.get? p.2 = some { cls := .none, data := .fields more } := fun p hp => by
          obtain ⟨more, z⟩ := un.tbls p.2 #[] (hH p hp)
          exact ⟨_, hok' p.2 _ z⟩
        refine ⟨rfl, ⟨fun b o e => ?_, fun b o e => ?_⟩, os, bare⟩
        · by_cases hb : b ∈ cs.map (·.2)
          · obtain ⟨p, hp, ep⟩ := List.mem_map.mp hb
            obtain ⟨more, hm⟩ := grown p hp
            rw [← ep] at e ⊢
            rw [hT p hp] at e
            cases e
            exact .inr (.inl ⟨((hC p hp).tab (hT p hp)).isCodeTable, rfl, #[], more, rfl, by rw [Array.empty_append]; exact hm⟩)
          · exact .inl (key b o hb e)
        · by_cases hb : b ∈ cs.map (·.2)
          · obtain ⟨p, hp, ep⟩ := List.mem_map.mp hb
            obtain ⟨more, hm⟩ := grown p hp
            rw [← ep]
            exact ⟨_, hm⟩
          · exact ⟨o, key b o hb e⟩
  cases hk : K.lookup a with
  | some o =>
    -- the script is one of the module's own objects
    have e := KX a o hk
    rw [ha] at e
    cases e
    refine core (fun b => if b ∈ cs.map (·.2) then some (.tbl #[]) else none) (fun p hp => if_pos (memT p hp)) (fun b => ?_) (.inr ⟨vs, _, hk, by rw [lenV]; exact hl, rv⟩) (fun b u z => ?_) (fun b z => ?_) fun z => absurd (show (if a ∈ cs.map (·.2) then some (HO.tbl #[]) else none) = none from if_neg aT) z
    · by_cases hb : b ∈ cs.map (·.2)
      · exact .inr (.inl hb)
      · exact .inl (if_neg hb)
    · by_cases hb : b ∈ cs.map (·.2)
      · have z' := (if_pos hb).symm.trans z
        cases z'
        exact isT b hb
      · have z' := (if_neg hb).symm.trans z
        cases z'
    · by_cases hb : b ∈ cs.map (·.2)
      · exact .inr hb
      · exact absurd (if_neg hb) z
  | none =>
    refine core (fun b => if b = a then some (.frz { cls := .type "list", data := .seq vs.toArray } (.lst (ns.map V.int))) else if b ∈ cs.map (·.2) then some (.tbl #[]) else none) (fun p hp => (if_neg (show ¬ p.2 = a from fun z => aT (by rw [← z]; exact memT p hp))).trans (if_pos (memT p hp))) (fun b => ?_)
      (.inl ⟨{ cls := .type "list", data := .seq vs.toArray }, if_pos rfl⟩) (fun b u z => ?_) (fun b z => ?_) fun _ => hk
    · by_cases hb : b = a
      · exact .inr (.inr ⟨_, _, if_pos hb⟩)
      · by_cases hb2 : b ∈ cs.map (·.2)
        · exact .inr (.inl hb2)
        · exact .inl ((if_neg hb).trans (if_neg hb2))
    · by_cases hb : b = a
      · have z' := (if_pos hb).symm.trans z
        cases z'
        subst hb
        exact ⟨ha, by rw [List.length_map]; exact hl, vs, _, rv, ha⟩
      · have z1 := (if_neg hb).symm.trans z
        by_cases hb2 : b ∈ cs.map (·.2)
        · have z' := (if_pos hb2).symm.trans z1
          cases z'
          exact isT b hb2
        · have z' := (if_neg hb2).symm.trans z1
          cases z'
    · by_cases hb : b = a
      · exact .inl hb
      · by_cases hb2 : b ∈ cs.map (·.2)
        · exact .inr hb2
        · exact absurd ((if_neg hb).trans (if_neg hb2)) z
end DL

set_option Elab.async false
set_option linter.all false
set_option maxRecDepth 100000
set_option maxHeartbeats 2000000
/-! DL42: isinstance(e, (A, B, ..)); the head's hook with tables; what a def that makes lambdas is told. -/
namespace DL
open PySem PySem.Spec PyProof.Rows L2

/-! ### isinstance(e, (A, B, ..)) of a kept exception -/
def rIsXT (K : PySem.W.Frag) : List V → Hp → VK → Prop := fun xs H Q => ∃ (a C d tp : Addr) (gs : List (Str × V)) (Cs : List Addr) (b : Bool), xs = [.ref a, .ref tp] ∧ H a = some (XO a C d) ∧ H d = some (.xd gs) ∧ ExcC K C ∧ H tp = some (.tup (Cs.map V.ref)) ∧ PySem.W.kitAny K (.ref C) (Cs.map Value.ref) = some b ∧ Q (.bl b) H
theorem vals_refs : ∀ {Cs : List Addr} {us : List Value}, Vals (Cs.map V.ref) us → us = Cs.map Value.ref
  | [], _, h => by cases h; rfl
  | c :: r, _, h => by
    cases h with
    | cons h1 h2 =>
      have h1' := h1
      cases h1'
      rw [vals_refs h2]; rfl
section
variable {X : Cx}
theorem call_isXT : CallR X (.builtin "isinstance") (rIsXT X.K) := by
  intro pins s σ H xs us Q I r h
  obtain ⟨a, C, d, tp, gs, Cs, b, rfl, ha, hd, EC, ht, e, q⟩ := h
  obtain ⟨u1, u2, rfl, rx, rt⟩ := vals2 r
  cases rx
  cases rt
  obtain ⟨oe, od, mA, J, _⟩ := exc_inst I ha hd
  obtain ⟨its, rv, ⟨o, ho, hc, n, hdt⟩, _⟩ := I.tuple (.inl (.inl ht))
  have ei := vals_refs rv
  subst ei
  obtain ⟨oc, od2, dt, osl⟩ := o
  cases hc
  cases hdt
  exact PySem.W.kia_tup (PySem.W.handS_kitx_excD EC.hg EC.hk EC.hs EC.hd EC.ha EC.hn EC.ht EC.hm) I.kIn J ho e (fun z => nomatch z) fun tk => ⟨.bl b, H, I.kept (t' := tk) fun _ _ z => z, rfl, q⟩
def tRefs (Cs : List Addr) : TA := fun _ H Q => Q (Cs.map V.ref) H
variable {x : Str} {D : Addr} {Cs : List Addr} {es : List Expr} {p p2 p3 pos : Pos} {kk : Nat} {a : Expr} {fa : DE} {cl : Cla} {Wx : L2.WX}
theorem pa_refs0 : PA X [] (tRefs []) := pa_nil.dimp fun σ H Q h => h
theorem pa_refs (hg : Gl X x) (hm : X.mg x = some (.ref D)) (ha : PA X es (tRefs Cs)) (hd : (x == ("__debug__" : Str)) = false := by decide) (he : starEach (.Name x p :: es) X.env = (false, eval (.Name x p) X.env) :: starEach es X.env := by rfl) : PA X (.Name x p :: es) (tRefs (D :: Cs)) :=
  (pa_cons (pe_glob (v := .ref D) (pos := p) hg hm rfl hd) ha he).dimp fun σ H Q h => h
theorem d_isET {isa : Str → Option Bool} (hisa : ∀ C b, isa C = some b → ExcC X.K (cl C) ∧ PySem.W.kitAny X.K (.ref (cl C)) (Cs.map Value.ref) = some b) (hz : Cs.length ≤ 1000) (ha : PE X a (tE X.K cl Wx fa)) (hg : Gl X "isinstance") (hm : X.mg "isinstance" = none) (ht : PA X es (tRefs Cs))
    (he : starEach (a :: [.Tuple es kk p2]) X.env = (false, eval a X.env) :: starEach [.Tuple es kk p2] X.env := by rfl) (hs : starEach (.Tuple es kk p2 :: []) X.env = (false, eval (.Tuple es kk p2) X.env) :: starEach [] X.env := by rfl) (hpl : (backTo pos (starEach [.Tuple es kk p2] X.env)).any (·.1) = false := by rfl) :
    PE X (.Call (.Name "isinstance" p) [a, .Tuple es kk p2] [] pos) (tE X.K cl Wx (dun (isiE isa) fa)) :=
  (pe_callB (id := "isinstance") call_isXT hg hm rfl (pa_cons ha (pa_cons (pe_tup (pos := p2) ht) pa_nil hs) he) (by decide) (by decide) he hpl).dimp fun σ H Q h => by
    obtain ⟨ι, S, sw, A, h⟩ := h
    refine ⟨ι, S, sw, A, Res.imp (Res.split (RA := RV X.K) h) fun v H1 ⟨ι1, S1, w1, g1, r1, _, h1⟩ => ?_⟩
    refine ⟨by rw [List.length_map, sizeLine_eq]; omega, fun tp hp => ?_⟩
    have g2 : Go X.K cl ι1 S1 H1 ι1 S1 (upd H1 tp (.tup (Cs.map V.ref))) := g1.rel.tuple hp
    unfold isiE at h1
    split at h1
    · split at h1
      · rename_i n C fs q1
        split at h1
        · rename_i b e
          obtain ⟨rfl, hn⟩ := r1.ref_inv
          obtain ⟨d, gs, k1, k2, k3, k4⟩ := g1.rel.obj _ _ q1
          obtain ⟨h5, h6⟩ := hisa _ _ e
          exact ⟨_, _, d, tp, gs, Cs, b, rfl, upd_keep hp _ _ k1, upd_keep hp _ _ k2, h5, upd_same, h6, h1 ι1 (.bl b) _ g2 (.bl b)⟩
        · exact h1.elim
      · exact h1.elim
    · exact h1.elim
end
/-! ### the hook -/
abbrev FrZ (g : Addr → Option Obj) (n : Nat) : PySem.W.Frag := He.frT g (sysModules :: cStatics :: He.asD g n)
/-- what is told: chk, the defs, the tables of the defs tf -/
structure SaysZ (chk : PySem.W.Frag → Bool) (fn : List He.DefD) (tf : List He.Defn) (h : Heap) (K : PySem.W.Frag) : Prop where
  m : SaysM chk fn K
  hd : ∀ p ∈ tf, PySem.W.codeHdIn K (He.cT K p).1 (He.cT K p).2 = true
  out : ∀ p ∈ tf, K.lookup (He.cT K p).2 = none
  empty : ∀ p ∈ tf, h.get? (He.cT K p).2 = some { cls := .none, data := .fields #[] }
def obsZ (n : Nat) (chk : PySem.W.Frag → Bool) (fn : List He.DefD) (tf : List He.Defn) (g : Addr → Option Obj) : He.AlD × Bool := (obsM chk fn (FrZ g n), He.tabsB g tf (FrZ g n))
theorem saysZ_of {n : Nat} {chk : PySem.W.Frag → Bool} {fn : List He.DefD} {tf : List He.Defn} {h : Heap} (e : obsZ n chk fn tf h.get? = (He.valD fn, true)) : SaysZ chk fn tf h (FrZ h.get? n) := by
  have e1 := congrArg (fun z : He.AlD × Bool => z.1) e
  have e2 := congrArg (fun z : He.AlD × Bool => z.2) e
  have key : ∀ p ∈ tf, PySem.W.codeHdIn (FrZ h.get? n) (He.cT (FrZ h.get? n) p).1 (He.cT (FrZ h.get? n) p).2 = true ∧ ∃ o, h.get? (He.cT (FrZ h.get? n) p).2 = some o ∧ He.emptyTab o = true := fun p hp => by
    obtain ⟨h3, h4⟩ := He.ba (List.all_eq_true.mp (show He.tabsB h.get? tf (FrZ h.get? n) = true from e2) p hp)
    refine ⟨h3, ?_⟩
    cases q : h.get? (He.cT (FrZ h.get? n) p).2 with
    | none => rw [q] at h4; cases h4
    | some o => rw [q] at h4; exact ⟨o, rfl, h4⟩
  exact ⟨e1, fun p hp => (key p hp).1, fun p hp => by
    obtain ⟨_, o, q, z⟩ := key p hp
    exact He.frT_none q z, fun p hp => by
    obtain ⟨_, o, q, z⟩ := key p hp
    rw [q, He.emptyTab_eq z]⟩
def hookZ (n : Nat) (chk : PySem.W.Frag → Bool) (fn : List He.DefD) (tf : List He.Defn) : PySem.W.Hook where
  α := He.AlD × Bool
  obs := fun s => obsZ n chk fn tf s.heap.get?
  val := fun _ => (He.valD fn, true)
  says := fun _ h => ∃ K : PySem.W.Frag, K.In h ∧ SaysZ chk fn tf h K
  of := fun _ _ e => ⟨_, He.frT_in, saysZ_of e⟩
  keeps := fun _ _ _ ⟨K, hK, c⟩ k => ⟨K, PySem.W.Frag.In.keeps hK k, c.m, c.hd, c.out, fun p hp => k _ _ (c.empty p hp)⟩
theorem obsZ_eq {n : Nat} {chk : PySem.W.Frag → Bool} {fn : List He.DefD} {tf : List He.Defn} {g : Addr → Option Obj} {s : Shared} (h : ∀ a, g a = s.heap.get? a) : obsZ n chk fn tf g = (hookZ n chk fn tf).obs s := by
  have e : g = s.heap.get? := funext h
  rw [e] <;> rfl
/-- the tables by the names of the lambdas -/
def tabsOf (K : PySem.W.Frag) (tf : List (He.Defn × Str)) : List (Addr × Str) := tf.map fun p => ((He.cT K p.1).2, p.2)
def tabsU (K : PySem.W.Frag) (tf : List (He.Defn × Str)) : Bool := (tabsOf K tf).all fun p => (tabsOf K tf).all fun q => !decide (p.1 = q.1) || decide (p.2 = q.2)
/-- what a def that makes lambdas is told -/
def TbF (K : PySem.W.Frag) (mg : Str → Option Value) (base : Heap) (cl : Cla) (x q : Str) : Prop := ∀ (fa : Addr) (oc : Value) (od : Option Addr) (fd : FuncData) (osl : Array (Option Value)), mg x = some (.ref fa) → K.lookup fa = some ⟨oc, od, .func fd, osl⟩ →
  ∃ c P, fd.code = .ref c ∧ LamX.TabB base mg c P ∧ (P, q) ∈ cl.tabs ∧ ∀ p ∈ cl.tabs, p.1 = P → p.2 = q
theorem tbF_of {K : PySem.W.Frag} {mg : Str → Option Value} {base : Heap} {cl : Cla} {x q : Str} {tf : List (He.Defn × Str)} {fd0 : FuncData} {params : Arguments} {body : List Stmt} {scope : Scope} (hcl : cl.tabs = tabsOf K tf) (hm : ((x, none), q) ∈ tf) (hu : tabsU K tf = true)
    (hg : mg x = some (.ref (He.ga K x))) (FD : FunD K x x params body scope [] [] (He.ga K x) fd0) (TB : ∀ p ∈ tf.map fun p => He.cT K p.1, LamX.TabB base mg p.1 p.2) : TbF K mg base cl x q := fun fa oc od fd osl e1 e2 => by
  rw [hg] at e1
  cases e1
  obtain ⟨oc', od', dV, kV, doc, pm, an, cdv, ct, osl', rfl, lk, hcd, _, _⟩ := FD.ex
  rw [lk] at e2
  cases e2
  obtain ⟨c, ec⟩ := He.codeIn_ref hcd
  subst ec
  have eC : He.codeOf K (x, none) = c := He.codeOf_eq (p := (x, none)) lk rfl
  have eT : He.cT K (x, none) = (c, He.tabOf K c) := by unfold He.cT; rw [eC]
  have hmem : (He.tabOf K c, q) ∈ tabsOf K tf := List.mem_map.mpr ⟨_, hm, by rw [eT]⟩
  have tb := TB (He.cT K (x, none)) (List.mem_map.mpr ⟨_, hm, rfl⟩)
  rw [eT] at tb
  refine ⟨c, He.tabOf K c, rfl, tb, by rw [hcl]; exact hmem, fun p hp e => ?_⟩
  rw [hcl] at hp
  have h1 := List.all_eq_true.mp (List.all_eq_true.mp hu p hp) _ hmem
  rw [Bool.or_eq_true] at h1
  rcases h1 with h1 | h1
  · rw [decide_eq_true e] at h1; cases h1
  · exact of_decide_eq_true h1
/-- in the lambda's body -/
theorem lam_tk {X : Cx} {A : Around} {outer : List Env} {s : Shared} {H : Hp} {E : XK} {scope : Scope} {f c' : Addr} : Takes (LamX.lamCx X A outer s H E scope f c') (WxE E) := takes_of rfl rfl rfl rfl
end DL

set_option Elab.async false
set_option linter.all false
set_option maxRecDepth 100000
set_option maxHeartbeats 2000000
/-! DL43: try: .. except (A, B, ..) as n: m = n, by denotation. -/
namespace DL
open PySem PySem.Spec PyProof.Rows L2

section
variable {X : Cx} {cl : Cla} {Wx : L2.WX} {n m : Str} {ty : Expr} {mt : Value → Option Bool} {i j : Nat} {body : List Stmt} {np2 mp pos pos' pos2 : Pos} {f : DS}
theorem t_tryM {K : PySem.W.Frag} {sub : Str → Option Bool} (hsub : ∀ C b, sub C = some b → mt (.ref (cl C)) = some b) {D : Ends} {σ : L2.St} {H : Hp} (h : tS K cl Wx (stry sub i j f) D σ H) : tS K cl (wKeepM mt i j Wx D) f D σ H := by
  obtain ⟨ι, S, sw, A, h⟩ := h
  refine ⟨ι, S, sw, A, ?_⟩
  unfold stry at h
  cases q : f sw S with
  | exc C fs sw1 S1 =>
    rw [q] at h
    intro ι1 σ1 d gs H1 g1 s1 ed kr ne
    simp only at h
    cases e : sub C with
    | none => rw [e] at h; exact h.elim
    | some b =>
      refine ⟨b, hsub C b e, fun eb => ?_, fun eb => ?_⟩
      · subst eb
        rw [e] at h
        refine ⟨cl C, d, rfl, rfl, fun a ha => ?_⟩
        have hda : d ≠ a := ne_of_none ed ha
        have g := g1.rel.alloc ha (u := XO a (cl C) d) (o := .exc C fs) ⟨d, gs, upd_same, by rw [upd_ne hda]; exact ed, kr.mono (Nat.le_succ _) (fun k hk => ins_lt hk) fun a u _ e => upd_keep ha a u e, fun k hk => by
          by_cases hk2 : k < S1.length
          · rw [ins_lt hk2]; exact ne k hk2
          · have : k = S1.length := by omega
            subst this
            rw [ins_same]; exact hda⟩
        have rr : Rep K (ins_ ι1 S1.length a) (S1 ++ [WO.exc C fs]).length (upd H1 a (XO a (cl C) d)) (.ref S1.length) (.ref (ins_ ι1 S1.length a S1.length)) := .ref (by simp)
        rw [ins_same] at rr
        exact h _ _ _ (g1.trans g) ((((s1.go g1.rel g).set i rr).set j rr).unset i)
      · subst eb
        rw [e] at h
        exact h ι1 σ1 d gs H1 g1 s1 ed kr ne
  | nx a b => rw [q] at h; exact h
  | rt a b => rw [q] at h; exact h
  | bk a b => rw [q] at h; exact h
  | ct a b => rw [q] at h; exact h
  | bad => rw [q] at h; exact h
theorem z_tryM {sub : Str → Option Bool} (hsub : ∀ C b, sub C = some b → mt (.ref (cl C)) = some b) (hs : X.stack = X.env :: X.outer) (hf : X.env.frame = some X.env.locals) (hx : X.ex = []) (hN : X.N.Nodup) (tk : Takes X Wx) (hty : TestX X ty mt)
    (hb : ∀ (W : L2.WX) (pn : List (Addr × Obj)) (xe : Value → Shared → Prop), Takes (X.tr pn xe) W → PassesOwn (model X.prog X.w) X.A X.env xe → PSs (X.tr pn xe) body (tS X.K cl W f))
    (hi : X.N[i]? = some n := by rfl) (hj : X.N[j]? = some m := by rfl) (hln : X.env.kindOf n = some .local := by rfl) (hlm : X.env.scope.names.lookup m = some .local := by rfl) (hdn : (n == ("__debug__" : Str)) = false := by decide) (hcd : (n == ("__classdict__" : Str)) = false := by decide)
    (hsw : swapsWithSole [.Name m mp] (.Name n np2) pos2.line X.env = pure false := by rfl) (hsw2 : swappedStores [.Name m mp] (.Name n np2) X.env = pure none := by rfl) :
    PS X (.Try body [.ExceptHandler (some ty) (some n) [.Assign [.Name m mp] (.Name n np2) pos2] pos'] [] [] pos) (tS X.K cl Wx (stry sub i j f)) :=
  (ps_try_keepM hty hs hf hx hN hi hj hln hlm tk (tb := fun W => tS X.K cl W f) hb hdn hcd hsw hsw2).dimp fun D σ H h => t_tryM hsub h
end
end DL

set_option Elab.async false
set_option linter.all false
set_option maxRecDepth 100000
/-! DL44: list.count over data. -/
namespace DL
open PySem PySem.Spec PyProof.Rows L2

def countD (x : W) (ws : List W) (S : Hs) : R W := match ws with
  | [y] => match lstOf S x, toD S dataDepth y with
    | some xs, some d => match toDs (toD S dataDepth) xs with
      | some ds => if PyData.plainAll ds = true ∧ d.plain = true ∧ d.depth ≤ 40 then .ok (.int ((ds.countP fun z => PyData.eqv z d : Nat) : Int)) S else .bad
      | none => .bad
    | _, _ => .bad
  | _ => .bad
section
variable {X : Cx}
theorem m_countD (hu : X.A.units + 65 < cLine) : DMeth X "list.count" countD := by
  intro pins s σ cl ι S H x ws a vs v us Q E I R rx rw_ ra rv h
  unfold countD at h
  split at h
  · rename_i y
    split at h
    · rename_i xs d e1 e2
      split at h
      · rename_i ds e3
        split at h
        · rename_i hs
          obtain ⟨v1, rfl, r1⟩ := rw_.one
          obtain ⟨l, ys, rfl, h1, r2⟩ := lstOf_at R rx e1
          cases ra
          obtain ⟨u1, rfl, ru⟩ := vals1 rv
          obtain ⟨bs, q1⟩ := reads_of I R _ y v1 _ d r1 ru e2
          obtain ⟨its, n, rv2, ho, hz⟩ := lstRaw I h1
          obtain ⟨as, q2⟩ := reads_all (fun w v u d => reads_of I R _ w v u d) xs _ its ds r2 rv2 e3
          refine PySem.SeqAt.count_list_data (vs := its.toArray) (as := as) (bs := bs) (xs := ds) (d := d) ⟨_, ho, rfl, n, rfl⟩ q2 q1 hs.1 hs.2.1 (by
            have := Nat.min_le_right (PyData.depthAll ds) d.depth
            omega) ?_
          exact ⟨.int _, H, I.tok _, ⟨s.toks, rfl⟩, Res.ok h R (.int _)⟩
        · exact h.elim
      · exact h.elim
    · exact h.elim
  · exact h.elim
end
end DL

set_option Elab.async false
set_option linter.all false
set_option maxRecDepth 100000
/-! DL45: xs[::-1] of a list or of a tuple. -/
namespace HT
open PySem PySem.Spec PyProof.Rows L2
section
variable {prog : Program} {w : World} {A : Around} {E : Value → Shared → Prop} {s : Shared}
theorem places_rev (n : Nat) : Builtin.Slice.slicePlaces ((n : Int) - 1) (-1) (-1) = n := by
  unfold Builtin.Slice.slicePlaces
  have h1 : ¬ ((-1 : Int) > 0) := by decide
  by_cases h : (n : Int) - 1 > -1
  · simp only [h1, if_false, h, if_true]
    rw [show (- -1 : Int) = 1 by decide, Int.ediv_one]
    omega
  · have e : n = 0 := by omega
    subst e
    simp
theorem sliceApplied_rev {sl : Addr} {vk : Value} {n : Nat} {Q : Int × Int × Nat → Shared → Prop} (hs : s.heap.IsSliceOf sl .none .none vk) (pk : IsPart vk (some (-1)))
    (h : Q ((n : Int) - 1, -1, n) s) : wpAny (model prog w) A (Builtin.Slice.sliceApplied (.ref sl) (pure (n : Int))) Q E s := by
  obtain ⟨os, hos, hcs, hds⟩ := id hs
  unfold Builtin.Slice.sliceApplied Builtin.Slice.sliceFields
  refine wpAny_bind (wpAny_bind (wpAny_field hos hds (x := .none) rfl (wpAny_bind (wpAny_field hos hds (x := .none) rfl (wpAny_bind (wpAny_field hos hds (x := vk) rfl (wpAny_pure ?_)))))))
  refine wpAny_bind (slicePart_ pk ?_)
  show wpAny _ _ (if ((-1 : Int) == 0) = true then _ else _) _ _ s
  rw [if_neg (by decide)]
  refine wpAny_bind (slicePart_none (wpAny_bind (slicePart_none (wpAny_bind (wpAny_pure ?_)))))
  show wpAny _ _ (pure (((n : Int) - 1), (-1 : Int), Builtin.Slice.slicePlaces ((n : Int) - 1) (-1) (-1))) _ _ s
  rw [places_rev]
  exact wpAny_pure h
theorem fm_congr {α β : Type} {f g : α → Option β} : ∀ {l : List α}, (∀ x ∈ l, f x = g x) → l.filterMap f = l.filterMap g
  | [], _ => rfl
  | x :: r, h => by rw [List.filterMap_cons, List.filterMap_cons, h x List.mem_cons_self, fm_congr fun y m => h y (List.mem_cons_of_mem _ m)]
theorem rev_pick (xs : Array Value) : ((List.range xs.size).filterMap fun (m : Nat) => xs[((xs.size : Int) - 1 + (m : Int) * -1).toNat]?).toArray = xs.toList.reverse.toArray := by
  congr 1
  have e : (List.range xs.size).filterMap (fun (m : Nat) => xs[((xs.size : Int) - 1 + (m : Int) * -1).toNat]?) = (List.range xs.toList.reverse.toArray.size).filterMap (xs.toList.reverse.toArray[·]?) := by
    have hs : xs.toList.reverse.toArray.size = xs.size := by simp
    rw [hs]
    apply fm_congr
    intro m hm
    have hm := List.mem_range.mp hm
    have : ((xs.size : Int) - 1 + (m : Int) * -1).toNat = xs.size - 1 - m := by omega
    rw [this]
    simp [hm, List.getElem?_reverse]
  rw [e, PySem.W.krv_all]
theorem getItem_tuple_rev {t sl : Addr} {items : Array Value} {vk : Value} {Q : Value → Shared → Prop} (ht : IsTup s.heap t items) (hs : s.heap.IsSliceOf sl .none .none vk) (pk : IsPart vk (some (-1)))
    (h : Q (.ref s.heap.objs.size) { s with heap := s.heap.push { cls := .type "tuple", data := .seq items.toList.reverse.toArray } })
    (hsz : items.size ≤ sizeLine) : wpAny (model prog w) A (getItem (.ref t) (.ref sl)) Q E s := by
  have htake : sizeOk (.seq items.toList.reverse.toArray) := by
    show items.toList.reverse.toArray.size ≤ sizeLine
    rw [List.size_toArray, List.length_reverse, Array.length_toList]
    exact hsz
  obtain ⟨os, hos, hcs, hds⟩ := id hs
  have hTs : s.TypeIs (.ref sl) "slice" := ⟨os, hos, hcs⟩
  unfold getItem
  try with_reducible refine wpAny_holding ?_
  first | refine wpAny_bind (wpAny_pure ?_) | skip
  refine wpAny_bind (wpAny_sequenceKey ht.typeIs (by decide) ?_)
  refine wpAny_bind (wpAny_callSpecial?_slot (name := Str.ofString "__getitem__") ht.typeIs PyProof.Rows.slot_tuple_getitem
    (wpAny_call_entry PyProof.Rows.slot_tuple_getitem ht.typeIs entry_tuple_getitem ?_ (args_tuple_getitem _ _)))
  show wpAny _ _ (Builtin.Tuple.tupleItemsOf (.ref t) >>= _) _ _ s
  refine wpAny_bind (tupleItemsOf_ ht ?_)
  refine wpAny_bind (wpAny_typeOf hTs ?_)
  rw [if_pos (by decide)]
  refine wpAny_bind (sliceApplied_rev hs pk ?_)
  have hno : ¬ ((((items.size : Int) - 1) == 0 && (-1 : Int) == 1 && items.size == items.size) = true) := by
    intro q
    rw [Bool.and_eq_true, Bool.and_eq_true] at q
    exact absurd (eq_of_beq q.1.2) (by decide)
  show wpAny _ _ (if (((items.size : Int) - 1) == 0 && (-1 : Int) == 1 && items.size == items.size) = true then _ else _) _ _ s
  rw [if_neg hno, rev_pick]
  first
    | exact wpAny_bind (m := Builtin.Tuple.tupleExact _) (wpAny_newObj_type (wpAny_pure ⟨_, rfl, wpAny_pure h⟩) htake)
    | exact wpAny_bind (m := Builtin.Tuple.tupleExact _) (wpAny_newObj_type (wpAny_bind (wpAny_pure (wpAny_pure ⟨_, rfl, wpAny_pure h⟩))) htake)
    | exact wpAny_bind (wpAny_bind (m := Builtin.Tuple.tupleExact _) (wpAny_newObj_type (wpAny_pure (wpAny_pure ⟨_, rfl, wpAny_pure h⟩)) htake))
    | exact wpAny_bind (wpAny_bind (m := Builtin.Tuple.tupleExact _) (wpAny_newObj_type (wpAny_pure ⟨_, rfl, wpAny_pure h⟩) htake))
end
end HT
namespace DL
open PySem PySem.Spec PyProof.Rows L2
section
variable {X : Cx} {cl : Cla} {Wx : L2.WX}
def tRevX (K : PySem.W.Frag) (te : TE) : TE := fun σ H Q => te σ H fun x H1 => (∃ a xs, x = .ref a ∧ SqL K H1 a xs ∧ ∀ p, H1 p = none → Q (.ref p) (upd H1 p (.lst xs.reverse))) ∨ ∃ a xs, x = .ref a ∧ SqT K H1 a xs ∧ ∀ p, H1 p = none → Q (.ref p) (upd H1 p (.tup xs.reverse))
theorem pe_revX {e : Expr} {te : TE} {k : Nat} {p1 p2 p3 pos : Pos} (he : PE X e te) : PE X (.Subscript e (.Slice none none (some (.UnaryOp .USub (.Constant (.int 1) k p1) p2)) p3) pos) (tRevX X.K te) := by
  refine ⟨fun pins s σ H Q I h => ?_⟩
  refine Subscript_ (thn (he.run pins s σ H _ I h) fun v s1 ⟨x, H1, I1, r1, q1⟩ => ?_)
  have hst : PO X (some (.UnaryOp .USub (.Constant (.int 1) k p1) p2)) (tPart (tUn (rU fun i => .int (-i)) (tC (.int 1)))) := po_some (pe_un un_neg pe_int)
  refine wpAny_Slice (thn (po_none.run pins s1 σ H1 (fun o H2 => o = none ∧ H2 = H1) I1 ⟨rfl, rfl⟩) fun vl s2 ⟨l, H2, I2, pl, el, e2⟩ => ?_)
  subst el e2
  refine thn (po_none.run pins s2 σ H2 (fun o H3 => o = none ∧ H3 = H2) I2 ⟨rfl, rfl⟩) fun vu s3 ⟨u, H3, I3, pu, eu, e3⟩ => ?_
  subst eu e3
  refine thn (hst.run pins s3 σ H3 (fun o H4 => o = some (-1) ∧ H4 = H3) I3 ⟨1, rfl, -1, rfl, rfl, rfl⟩) fun vs s4 ⟨o, H4, I4, ps, eo, e4⟩ => ?_
  subst eo e4
  have I5 : Inv X pins σ H4 { s4 with heap := s4.heap.push { cls := .type "slice", data := .fields #[vl, vu, vs] } } := I4.kept (t' := s4.toks) fun b ob q => Heap.get?_push_of_some _ q
  rcases q1 with ⟨a, xs, ex, hx, q⟩ | ⟨a, xs, ex, hx, q⟩
  · subst ex
    cases r1
    obtain ⟨its, r, ht, hz⟩ := I5.list hx
    have hlen := r.length
    show wpAny (model X.prog X.w) X.A (subscriptTail e (.Slice none none (some (.UnaryOp .USub (.Constant (.int 1) k p1) p2)) p3) (.ref a) (.ref s4.heap.objs.size)) (EP X pins σ Q) X.xe { s4 with heap := s4.heap.push { cls := .type "slice", data := .fields #[vl, vu, vs] } }
    refine tail_any (ops := [.ref a, .ref s4.heap.objs.size]) ht.isList.typeIs (PySem.slot_list_getitem.lookup) ?_ (by with_unfolding_all rfl)
    refine wpAny_getItem_list_slice ht.isList (Heap.IsSliceOf.new _ vl vu vs) pl pu ps (by decide) ?_ (by rw [List.size_toArray]; omega)
    rw [PySem.W.krv_pick]
    refine ⟨.ref _, _, I5.laid (t' := s4.toks) (o := .lst xs.reverse) (fun b ob q => Heap.get?_push_of_some _ q) (Nat.le_refl _) ?_, rfl, q _ (I5.hok.fresh (Nat.le_refl _))⟩
    exact ⟨by rw [List.length_reverse]; exact hz, _, 0, r.reverse, Heap.get?_push_size _ rfl⟩
  · subst ex
    cases r1
    cases pl
    cases pu
    obtain ⟨its, r, ht, hz⟩ := I5.tuple hx
    have hlen : its.toArray.size = xs.length := by rw [List.size_toArray]; exact r.length.symm
    show wpAny (model X.prog X.w) X.A (subscriptTail e (.Slice none none (some (.UnaryOp .USub (.Constant (.int 1) k p1) p2)) p3) (.ref a) (.ref s4.heap.objs.size)) (EP X pins σ Q) X.xe { s4 with heap := s4.heap.push { cls := .type "slice", data := .fields #[.none, .none, vs] } }
    refine tail_any (ops := [.ref a, .ref s4.heap.objs.size]) ht.typeIs (PyProof.Rows.slot_tuple_getitem.lookup) ?_ (by with_unfolding_all rfl)
    refine HT.getItem_tuple_rev ht (Heap.IsSliceOf.new _ .none .none vs) ps ?_ (by rw [hlen]; exact hz)
    refine ⟨.ref _, _, I5.laid (t' := s4.toks) (o := .tup xs.reverse) (fun b ob q => Heap.get?_push_of_some _ q) (Nat.le_refl _) ?_, rfl, q _ (I5.hok.fresh (Nat.le_refl _))⟩
    exact ⟨by rw [List.length_reverse]; exact hz, _, r.reverse, IsTup.new _ _⟩
def drevX (e : DE) : DE := fun sw S => (e sw S).bind fun w S1 => match w with
  | .tup ws => .ok (.tup ws.reverse) S1
  | w => match lstOf S1 w with
    | some ws => .ok (.ref S1.length) (S1 ++ [.lst ws.reverse])
    | none => .bad
@[simp] theorem drevX_ap (e : DE) (sw : SW) (S : Hs) : drevX e sw S = (e sw S).bind fun w S1 => match w with
  | .tup ws => .ok (.tup ws.reverse) S1
  | w => match lstOf S1 w with
    | some ws => .ok (.ref S1.length) (S1 ++ [.lst ws.reverse])
    | none => .bad := Eq.trans rfl rfl
theorem d_revX {e : Expr} {fe : DE} {pos : Pos} {k : Nat} {p1 p2 p3 : Pos} (he : PE X e (tE X.K cl Wx fe)) : PE X (.Subscript e (.Slice none none (some (.UnaryOp .USub (.Constant (.int 1) k p1) p2)) p3) pos) (tE X.K cl Wx (drevX fe)) := (pe_revX he).dimp fun σ H Q h => by
  obtain ⟨ι, S, sw, A, h⟩ := h
  refine ⟨ι, S, sw, A, Res.imp (Res.split (RA := RV X.K) h) fun x H1 ⟨ι1, S1, w1, g1, r1, _, h1⟩ => ?_⟩
  split at h1
  · obtain ⟨a, vs, rfl, t1, t2⟩ := r1.tup_inv
    refine .inr ⟨a, vs, rfl, t1.sq, fun p hp => ?_⟩
    obtain ⟨g, rp⟩ := g1.rel.newT hp t2.reverse
    exact h1 _ _ _ g rp
  · split at h1
    · rename_i e1
      obtain ⟨a, vs, rfl, t1, t2⟩ := lstOf_at g1.rel r1 e1
      refine .inl ⟨a, vs, rfl, t1.sq, fun p hp => ?_⟩
      obtain ⟨g, rp⟩ := g1.rel.newL hp t2.reverse
      exact h1 _ _ _ g rp
    · exact h1.elim
end
end DL

set_option Elab.async false
set_option linter.all false
set_option maxRecDepth 100000
set_option maxHeartbeats 4000000
/-! DL46: () * k. -/
namespace L2
open PySem PySem.Spec PyProof.Rows
theorem tuple_mulE (l : Addr) (items : Array Value) (n : Nat) (dd : Option Addr) (sl : Array (Option Value)) (x : Int) (u : Tok) (c0 : (decide (x < -(2 ^ 63)) || decide (x ≥ 2 ^ 63)) = false) (c1 : (items.isEmpty || x == 1) = true) :
    Meets (Builtin.«tuple.__mul__» ⟨[.ref l, .int x u], []⟩) (fun _ R s => s.heap.get? l = some { cls := .type "tuple", dict := dd, data := .seq items n, slots := sl } ∧
      R (.ok (.ret (Value.ref l))) s) :=
  .of_wp fun prog w A R s h => by
    obtain ⟨hp, g, d, tk, os⟩ := s
    obtain ⟨hl, h⟩ := h
    have f1 := AutoSeq1.idx_int
    wp_walk using wpAny_loadPart' hl
    repeat (first
      | (refine wpAny_ite_false (decide_eq_false (by rw [c0]; exact Bool.false_ne_true)) ?_; wp_walk using wpAny_loadPart' hl)
      | (refine wpAny_ite_true (decide_eq_true c1) ?_; wp_walk using wpAny_loadPart' hl))
    exact ⟨_, rfl, h⟩
def rRepE (K : PySem.W.Frag) : R2 := fun x y H Q => ∃ l k, x = .ref l ∧ y = .int k ∧ SqT K H l [] ∧ 2 ≤ k ∧ k ≤ 1000 ∧ Q (.ref l) H
theorem op_repE {X : Cx} : OpR X (binaryOp .Mult) (rRepE X.K) := by
  intro pins s σ H x y v u Q I rx ry h
  obtain ⟨l, k, rfl, rfl, hT, h1, h2, q⟩ := h
  cases rx
  obtain ⟨t, rfl⟩ := ry
  obtain ⟨its, r, ⟨⟨cls, dd, data, sl⟩, ho, hc, n, hd⟩, hs⟩ := I.tuple hT
  simp only at hc hd
  subst hc hd
  cases r
  have c0 : (decide (k < -(2 ^ 63)) || decide (k ≥ 2 ^ 63)) = false := by
    rw [decide_eq_false (by omega), decide_eq_false (by omega)] <;> rfl
  refine wpAny_binaryOp_repeat_ref (T := "tuple") (U := "int") (by decide) ⟨_, ho, rfl⟩ (fun s' => typeIs_int s' k t) noFill_tuple_mul F.fills_int_mul F.slot_int_rmul repeat_tuple F.slot_int_index.lookup
    (call_meets F.slot_int_rmul (typeIs_int s k t) F.entry_int_rmul (F.args_int_rmul_2 _ _) (int_rmul_tuple k t l _ n dd sl)
      ⟨ho, rfl, ⟨_, ho, rfl⟩, call_meets F.slot_tuple_mul ⟨_, ho, rfl⟩ F.entry_tuple_mul (F.args_tuple_mul_2 _ _) (tuple_mulE l _ n dd sl k t c0 rfl) ⟨ho, ?_⟩⟩)
  exact ⟨.ref l, H, I, rfl, q⟩
end L2
namespace DL
open PySem PySem.Spec PyProof.Rows L2
def mulX (x y : W) (S : Hs) : R W := match x, y with
  | .tup [], .int k => if 2 ≤ k ∧ k ≤ 1000 then .ok (.tup []) S else .bad
  | x, y => mulW x y S
section
variable {X : Cx}
theorem p_mulX : DOp X (binaryOp .Mult) mulX := by
  intro pins s σ cl ι S H x y a b v u Q E I R rx ry ra rb h
  unfold mulX at h
  split at h
  · split at h
    · rename_i k hk
      obtain ⟨l, vs, rfl, t1, t2⟩ := rx.tup_inv
      have t2' := t2
      cases t2
      cases ry
      exact op_repE pins s σ H _ _ v u _ I ra rb ⟨l, k, rfl, rfl, t1.sq, hk.1, hk.2, Res.ok h R (.tup t1 t2')⟩
    · exact h.elim
  · exact p_mul pins s σ cl ι S H x y a b v u Q E I R rx ry ra rb h
theorem mulX_eq {x y : W} {S : Hs} (h : x ≠ .tup []) : mulX x y S = mulW x y S := by
  unfold mulX
  split
  · exact absurd rfl h
  · rfl
end
section
variable {Z : Cx} {i j : Nat} {n m : Str} {p p2 p3 p4 p5 pos pos' : Pos} {k k2 k3 k4 : Nat}
/-- ps_ini2 with the tuple's own place, and without parameters that tactics fill (they bar the expected type) -/
theorem ps_ini2e (hc : Z.calm = true) (hN : Z.N.Nodup) (hi : Z.N[i]? = some n) (hj : Z.N[j]? = some m) (hln : Z.env.scope.names.lookup n = some .local) (hlm : Z.env.scope.names.lookup m = some .local)
    (hsw : swapsWithSole [.Tuple [.Name n p, .Name m p2] k pos'] (.Tuple [.Constant .none k2 p3, .Constant .none k3 p4] k4 p5) pos.line Z.env = pure false) (hsw2 : swappedStores [.Tuple [.Name n p, .Name m p2] k pos'] (.Tuple [.Constant .none k2 p3, .Constant .none k3 p4] k4 p5) Z.env = pure none) :
    PS Z (.Assign [.Tuple [.Name n p, .Name m p2] k pos'] (.Tuple [.Constant .none k2 p3, .Constant .none k3 p4] k4 p5) pos) (tIni [i, j]) :=
  (ps_asg (pe_tup (pa_cons pe_non (pa_cons pe_non pa_nil))) (pg_tup hc (pgs_cons (pg_name hN hi (.inl hln) (.inr hln)) (pgs_cons (pg_name hN hj (.inl hlm) (.inr hlm)) pgs_nil))) hsw hsw2 (by rfl)).dimp fun D σ H h =>
    ⟨Nat.le_of_ble_eq_true rfl, fun a ha => ⟨a, [.non, .non], rfl, .inl (.inl upd_same), rfl, .non, [.non], rfl, .non, [], rfl, rfl, h _ (fun b o e => by rw [upd_ne (ne_of_none e ha)]; exact e) fun b ps e => by
      by_cases hb : b = a
      · subst hb; rw [upd_same] at e; cases e
      · rw [upd_ne hb] at e; exact e⟩⟩
end
end DL

set_option Elab.async false
set_option linter.all false
set_option maxRecDepth 100000
/-! DL47: sorted of tuples too. -/
namespace HT
open PySem PySem.Spec PySem.Calls PyProof.Rows PySem.W
section
variable {prog : Program} {w : World} {A : Around} {E : Value → Shared → Prop} {s : Shared}
theorem collect_tup {l : Addr} {vs : List Value} {Q : List Value → Shared → Prop} (hl : IsTup s.heap l vs.toArray)
    (h : Q vs { s with heap := (s.heap.push (seqObj "list" #[] 0)).update s.heap.objs.size (Obj.mapSeq (· ++ vs.toArray)) }) (hsz : vs.length ≤ sizeLine) :
    wpAny (model prog w) A (collect (.ref l)) Q E s := by
  obtain ⟨o, ho, hc, n, hd⟩ := id hl
  unfold collect
  refine wpAny_bind (wpAny_runValue (codeAny_builtin entry_proto_collect' ?_))
  show wpAny _ _ (do again (.builtin "list.__iadd__" ⟨[← newList [], .ref l], []⟩)) _ _ s
  refine wpAny_bind (wpAny_newList (wpAny_pure ⟨Code.quiet_builtin _ (by decide +kernel), codeAny_builtin entry_list_iadd' ?_⟩))
  show wpAny _ _ (Builtin.List.listExtendWith (.ref s.heap.objs.size) (.ref l) (.ref s.heap.objs.size)) _ _ { s with heap := s.heap.push (seqObj "list" #[] 0) }
  unfold Builtin.List.listExtendWith
  have ho' : (s.heap.push (seqObj "list" #[] 0)).get? l = some o := Heap.get?_push_of_some _ ho
  refine wpAny_bind (wpAny_typeOf (T := "tuple") ⟨o, ho', hc⟩ ?_)
  have ht : (Value.type "tuple" == Value.type "tuple") = true := by rfl
  rw [if_pos (by rw [ht]; simp)]
  refine wpAny_bind (listItems_at ho' hd ?_)
  refine wpAny_bind (listItems_at (xs := #[]) (n := 0) (Heap.get?_push_size _ rfl) rfl ?_)
  rw [if_neg (by simp)]
  refine wpAny_bind (listUpdate_at (xs := #[]) (n := 0) (Heap.get?_push_size _ rfl) rfl ?_ (Nat.zero_le _) (by show (#[] ++ vs.toArray).size ≤ sizeLine + 1; simp only [Array.size_append, List.size_toArray, List.length_nil]; omega))
  refine wpAny_pure ?_
  show wpAny (model prog w) A (do
      let o ← load s.heap.objs.size
      match o.data with
      | .seq xs _ => pure xs.toList
      | _ => unsupported "internal:collect") Q E { s with heap := (s.heap.push (seqObj "list" #[] 0)).update s.heap.objs.size (Obj.mapSeq (· ++ vs.toArray)) }
  refine wpAny_bind (wpAny_load (get?_update_seq (Heap.get?_push_size _ rfl) _) ?_)
  show wpAny _ _ (pure ((#[] : Array Value) ++ vs.toArray).toList) Q E _
  rw [show ((#[] : Array Value) ++ vs.toArray).toList = vs by simp]
  exact wpAny_pure h
theorem sorted_of_sortT {l : Addr} {vs : List Value} {kw : List (Str × Value)} {Q : Value → Shared → Prop} (hl : IsTup s.heap l vs.toArray) (hL : vs.length ≤ sizeLine) (ha1 : argsOk "sorted" ⟨[.ref l], kw⟩) (ha2 : ∀ x, argsOk "list.sort" ⟨[.ref x], kw⟩)
    (body : ∀ E' : Value → Shared → Prop, wpAny (model prog w) A.in1.in1 (Builtin.«list.sort» ⟨[.ref (s.heap.objs.size + 1)], kw⟩) (fun f s' => f = .done (.ret .none) ∧ Q (.ref (s.heap.objs.size + 1)) s') E' { s with heap := copyHeap s.heap vs }) :
    wpAny (model prog w) A (call (.builtin "sorted") [.ref l] kw) Q E s := by
  refine call_function_entry_kw kind_sorted plain_sorted entry_sorted ha1 ?_
  unfold Builtin.«sorted»
  refine wpAny_bind (m := checkCount "sorted" 1 1 _) (wpAny_pure ?_)
  refine wpAny_bind (collect_tup hl ?_ hL)
  refine wpAny_bind (wpAny_newList ?_ hL)
  have hsz : ((s.heap.push (seqObj "list" #[] 0)).update s.heap.objs.size (Obj.mapSeq (· ++ vs.toArray))).objs.size = s.heap.objs.size + 1 := by
    rw [Heap.size_update, size_push']
  show wpAny _ _ _ _ _ { s with heap := copyHeap s.heap vs }
  rw [hsz]
  refine wpAny_bind (wpAny_holding (wpAny_call_entry_kw slot_list_sort ⟨_, copyHeap_at s.heap vs, rfl⟩ entry_list_sort ?body (ha2 _)))
  case body =>
    show wpAny (model prog w) A.in1.in1 (Builtin.«list.sort» ⟨[.ref (s.heap.objs.size + 1)], kw⟩) _ _ _
    refine wpAny_mono (body _) (fun f s' hf => ?_) fun _ _ e => e
    obtain ⟨rfl, hq⟩ := hf
    exact ⟨_, rfl, wpAny_pure ⟨_, rfl, hq⟩⟩
theorem sorted_dataT {β : Type} {R : Value → β → Prop} {enc : β → PyData} {bs : List β} {vs : List Value} {l : Addr} {Q : Value → Shared → Prop} (hl : IsTup s.heap l vs.toArray) (e : PySem.W.EachIs R vs bs) (er : PySem.W.EachIs (fun v b => ∃ as, Reads s.heap v (enc b) as) vs bs) (hal : PySem.W.AllAlike (bs.map enc)) (hk : PySem.W.Sortable (bs.map enc)) (hL : bs.length ≤ sizeLine)
    (hu : ∀ b, b ∈ bs → A.units + 2 + (enc b).depth < cLine) (h : ∀ out, out.length = bs.length → PySem.W.EachIs R out (bs.mergeSort (PySem.W.dataLe false enc)) → Q (.ref (s.heap.objs.size + 1)) { s with heap := sortedAll s.heap vs (List.toArray out) }) :
    wpAny (model prog w) A (call (.builtin "sorted") [.ref l]) Q E s := by
  have er' : PySem.W.EachIs (fun v b => ∃ as, Reads (sortingHeap (copyHeap s.heap vs) (s.heap.objs.size + 1) vs) v (enc b) as) vs bs := er.mono fun _ _ ⟨as, r⟩ => ⟨as, PyProof.Rows.Reads.keeps (fun _ _ => sorting_copy_old) r⟩
  have S := PySem.W.SortsAt.data (prog := prog) (w := w) (A := A.in1.in1) (s := { s with heap := sortingHeap (copyHeap s.heap vs) (s.heap.objs.size + 1) vs }) (PySem.W.each_map (R := fun v d => ∃ as, Reads (sortingHeap (copyHeap s.heap vs) (s.heap.objs.size + 1) vs) v d as) enc er') hal hk (PySem.W.bound_map hu)
  have hL' : vs.length ≤ sizeLine := by rw [e.length]; exact hL
  exact sorted_of_sortT hl hL' (args_sorted1 _) (fun _ => args_list_sort _) fun _ => PySem.W.list_sort_vals (s := { s with heap := copyHeap s.heap vs }) (copyHeap_at s.heap vs) S hL' ⟨rfl, h _ (by rw [PySem.W.sortVals_length false rfl]; exact e.length) (PySem.W.sortVals_data false e er' hal)⟩
end
end HT
namespace DL
open PySem PySem.Spec PyProof.Rows L2
section
variable {X : Cx} {pins : List (Addr × Obj)} {σ : L2.St} {s : Shared} {cl : Cla} {ι : Nat → Addr} {S : Hs} {H : Hp}
theorem sorted_atT (hu : X.A.units + 64 < cLine) {Q : VK} {E : XK} {l : Addr} {xs : List W} {ds : List PyData} {ys : List V} (I : Inv X pins σ H s) (r : Rel X.K cl ι S H) (hs : SqT X.K H l ys) (r1 : Reps X.K ι S.length H xs ys) (e : toDs (toD S dataDepth) xs = some ds)
    (h1 : PySem.W.AllAlike ds) (h2 : PySem.W.Sortable ds)
    (h : Res X.K cl (RV X.K) ι S H (.ok (.ref S.length) (S ++ [.lst (xs.mergeSort (PySem.W.dataLe false fun w => (toD S dataDepth w).getD .none))])) Q E) :
    wpAny (model X.prog X.w) X.A (call (.builtin "sorted") [.ref l]) (EP X pins σ Q) X.xe s := by
  obtain ⟨its, rv, hl, hz⟩ := I.tuple hs
  have ed := toDs_map e
  subst ed
  have ee := each_of r1 rv
  refine HT.sorted_dataT (R := fun u w => ∃ v, Rep X.K ι S.length H w v ∧ RelV v u) (bs := xs) (enc := fun w => (toD S dataDepth w).getD .none) hl ee ?_ h1 h2 (by rw [r1.length]; exact hz) (fun b hb => ?_) fun out ho eo => ?_
  · refine each_imp (fun u w m ⟨v, a, c⟩ => ?_) ee
    obtain ⟨d, hd⟩ := toDs_mem e w m
    show ∃ as, Reads s.heap u ((toD S dataDepth w).getD .none) as
    rw [hd]
    exact reads_of I r _ w v u d a c hd
  · obtain ⟨d, hd⟩ := toDs_mem e b hb
    show X.A.units + 2 + ((toD S dataDepth b).getD .none).depth < cLine
    rw [hd]
    have q := toD_depth S _ b d hd
    have q2 : dataDepth = 40 := rfl
    show X.A.units + 2 + d.depth < cLine
    omega
  · obtain ⟨zs, k1, k2⟩ := of_each eo
    obtain ⟨n, hn⟩ := sortedAll_at s.heap its out.toArray
    have hf : H (s.heap.objs.size + 1) = none := I.hok.fresh (Nat.le_succ _)
    refine ⟨.ref _, upd H (s.heap.objs.size + 1) (.lst zs), I.laid (t' := s.toks) (fun b o e => sortedAll_old e) (Nat.le_succ _) ⟨?_, out, n, k2, hn⟩, rfl, ?_⟩
    · rw [k2.length, ho, r1.length]; exact hz
    · obtain ⟨g, rp⟩ := r.newL hf k1
      exact h _ _ _ g rp
end
/-- sorted of a list or a tuple -/
def sortedX : List W → Hs → R W := fun ws S => match ws with
  | [.tup xs] => match toDs (toD S dataDepth) xs with
      | some ds => if sortOk ds = true then
          .ok (.ref S.length) (S ++ [.lst (xs.mergeSort (PySem.W.dataLe false fun w => (toD S dataDepth w).getD .none))]) else .bad
      | none => .bad
  | ws => sortedW ws S
theorem c_sortedX {X : Cx} (hu : X.A.units + 64 < cLine) : DCall X (.builtin "sorted") sortedX := by
  intro pins s σ cl ι S H ws vs us Q E I r rw_ rv h
  unfold sortedX at h
  split at h
  · rename_i xs
    split at h
    · rename_i ds e2
      split at h
      · rename_i hb
        obtain ⟨v, rfl, a⟩ := rw_.one
        obtain ⟨l, ys, rfl, h1, r1⟩ := a.tup_inv
        obtain ⟨u, rfl, ru⟩ := vals1 rv
        obtain rfl : u = Value.ref l := ru
        rw [sortOk, Bool.and_eq_true, Bool.or_eq_true] at hb
        refine sorted_atT hu I r h1.sq r1 e2 (fun d hd d' hd' => ?_) ?_ h
        · exact List.all_eq_true.mp (List.all_eq_true.mp hb.1 d hd) d' hd'
        · refine hb.2.imp (fun q d hd => ?_) fun q d hd => ?_
          · have := List.all_eq_true.mp q d hd
            split at this
            · exact ⟨_, _, rfl⟩
            · cases this
          · have := List.all_eq_true.mp q d hd
            refine ⟨fun z => ?_, fun xs z => ?_⟩ <;> subst z <;> cases this
      · exact h.elim
    · exact h.elim
  · exact c_sorted hu pins s σ cl ι S H _ vs us Q E I r rw_ rv h
end DL

set_option Elab.async false
set_option linter.all false
set_option maxRecDepth 100000
/-! DL48: dict comprehensions. -/
namespace DL
open PySem PySem.Spec PyProof.Rows L2

def dcompD (guard : Hs → Bool) (g : DG) (tt : DT) (tk tv : DE) (sw : SW) : List W → List (Key × W) → Hs → R (List (Key × W))
  | [], acc => fun S => if guard S = true then .ok acc S else .bad
  | w :: ws, acc => fun S => if guard S = true then (match g w sw S with
    | .ok sw1 S1 => match tt sw1 S1 with
      | .ok true S2 => match tk sw1 S2 with
        | .ok y S3 => match tv sw1 S3 with
          | .ok z S4 => match keyW y with
            | some k => if acc.length < sizeLine then dcompD guard g tt tk tv sw ws (putW acc k z) S4 else .bad
            | none => .bad
          | _ => .bad
        | _ => .bad
      | .ok false S2 => dcompD guard g tt tk tv sw ws acc S2
      | _ => .bad
    | _ => .bad) else .bad
def ddc (vs : List Nat) (it : DI) (g : DG) (tt : DT) (tk tv : DE) : DE := fun sw S => (it sw S).bind fun i S1 => (dcompD i.guard g tt tk tv (wipeW sw vs) i.items [] S1).bind fun ys S2 => .ok (.ref S2.length) (S2 ++ [.dic ys])
theorem ddc_ap (vs : List Nat) (it : DI) (g : DG) (tt : DT) (tk tv : DE) (sw : SW) (S : Hs) : ddc vs it g tt tk tv sw S = (it sw S).bind fun i S1 => (dcompD i.guard g tt tk tv (wipeW sw vs) i.items [] S1).bind fun ys S2 => .ok (.ref S2.length) (S2 ++ [.dic ys]) := rfl
section
variable {K : PySem.W.Frag} {cl : Cla} {ι : Nat → Addr} {S : Hs} {H : Hp} {D : Addr} {xs ys : List (Key × V)}
theorem codeO_dk {c : Addr} {q : Str} {vs : List (Key × V)} : (LamX.CodeO c q : HO) ≠ .dK vs := fun z => by
  have z' : HO.ext _ = HO.dK vs := z
  cases z'
theorem kpt_besideD (hD : H D = some (.dK xs)) : Kpt H (upd H D (.dK ys)) := fun a u k e => by
  by_cases h : a = D
  · subst h
    rw [hD] at e; cases e
    rcases k with ⟨_, z⟩ | ⟨_, _, z | z⟩ <;> cases z
  · rw [upd_ne h]; exact e
theorem TabR.ofD {ι' : Nat → Addr} {n n' : Nat} {H' : Hp} (h : TabR cl ι n H) (off : ∀ a o, H a = some o → (∀ vs, o ≠ .dK vs) → (∀ i, i < n → a ≠ ι i) → (∀ i, i < n' → a ≠ ι' i) ∧ H' a = some o) : TabR cl ι' n' H' := fun p hp => by
  obtain ⟨ps, h1, h2, h3, h4⟩ := h p hp
  obtain ⟨a1, a2⟩ := off _ _ h1 (fun vs z => by cases z) h3
  refine ⟨ps, a2, h2, a1, fun pos cv e => ?_⟩
  obtain ⟨c, e1, e2, e3⟩ := h4 pos cv e
  obtain ⟨b1, b2⟩ := off _ _ e2 (fun vs z => codeO_dk z) e3
  exact ⟨c, e1, b2, b1⟩
theorem TabR.pushD {n : Nat} {D : Addr} {xs : List (Key × V)} (h : TabR cl ι n H) (hD : H D = some (.dK xs)) : TabR cl (ins_ ι n D) (n + 1) H := h.ofD fun a o e nl q => ⟨fun i hi => by
  by_cases hi2 : i < n
  · rw [ins_lt hi2]; exact q i hi2
  · have : i = n := by omega
    subst this
    rw [ins_same]
    intro z
    subst z
    rw [hD] at e; cases e
    exact nl _ rfl, e⟩
theorem Rel.besideD (r : Rel K cl ι S H) (hD : H D = some (.dK xs)) (ne : ∀ j, j < S.length → D ≠ ι j) : Rel K cl ι S (upd H D (.dK ys)) := by
  refine ⟨fun i o e => ?_, r.inj, r.tab.ofD fun a o e nl h => ⟨h, by rw [upd_ne (fun z => by subst z; rw [hD] at e; cases e; exact nl _ rfl)]; exact e⟩⟩
  have hi : i < S.length := (List.getElem?_eq_some_iff.mp e).1
  refine (r.obj i o e).mono (Nat.le_refl _) (fun _ _ => rfl) (fun i a b => absurd b (Nat.not_lt.mpr a)) (kpt_besideD hD) (fun u e => by rw [upd_ne (Ne.symm (ne i hi))]; exact e) fun d gs e _ => ?_
  by_cases h : d = D
  · subst h; rw [hD] at e; cases e
  · rw [upd_ne h]; exact e
end
section
variable {X : Cx} {cl : Cla} {Wx : L2.WX} {pos : Pos} {e c : Expr} {ft tt : DT} {it : DI} {g : DG} {tk tv : DE} {σ : L2.St} {H : Hp}
theorem wipe_twice (σ : L2.St) (vs : List Nat) : L2.wipe (L2.wipe σ vs) vs = L2.wipe σ vs := by
  have : ∀ (l : List Nat) (τ : L2.St), (∀ k ∈ l, k ∈ vs) → L2.wipe (L2.wipe τ l) vs = L2.wipe τ vs := by
    intro l
    induction l with
    | nil => intro τ _; rfl
    | cons k l ih => intro τ hk; show L2.wipe ((L2.wipe τ l).set k none) vs = _; rw [wipe_set (hk k (by simp)), ih τ fun k' h => hk k' (by simp [h])]
  exact this vs σ fun _ h => h
theorem t_dc {vs : List Nat} {Q : VK} (h : tE X.K cl Wx (ddc vs it g tt tk tv) σ H Q) : tDc (tI X.K cl Wx it) (tG X.K cl (ownS vs) g) (tT X.K cl W0 tt) (tE X.K cl W0 tk) (tE X.K cl W0 tv) vs σ H Q := by
  obtain ⟨ι, S, sw, A, h⟩ := h
  refine ⟨ι, S, sw, A, Res.imp (Res.split (RA := RIt X.K cl) h) fun J H1 ⟨ι1, S1, i1, g1, r1, _, h1⟩ => fun D hD => ?_⟩
  have At1 := A.go g1
  refine ⟨fun i m H' => m = i1.items.length - i ∧ i ≤ i1.items.length ∧ ∃ ι2 S2 acc accV, Go X.K cl ι1 S1 H1 ι2 S2 H' ∧ (∀ j, j < S2.length → D ≠ ι2 j) ∧ H' D = some (.dK accV) ∧ KReps X.K ι2 S2.length H' acc accV ∧
      (Res X.K cl (RV X.K) ι1 S1 H1 ((dcompD i1.guard g tt tk tv (wipeW sw vs) (i1.items.drop i) acc S2).bind fun ys S3 => .ok (.ref S3.length) (S3 ++ [.dic ys])) Q fun c d H' => Wx c d σ H'), ?_, ?_⟩
  · have gD : Go X.K cl ι1 S1 H1 ι1 S1 (upd H1 D (.dK [])) := g1.rel.tuple hD
    refine ⟨i1.items.length, by simp, Nat.zero_le _, ι1, S1, [], [], gD, fun j hj z => ?_, upd_same, .nil, ?_⟩
    · obtain ⟨u, hu, _⟩ := g1.rel.at_ hj
      rw [← z, hD] at hu; cases hu
    · rw [List.drop_zero]; exact h1
  rintro i m H' ⟨rfl, hle, ι2, S2, acc, accV, g2, hne, eD, rA, h2⟩
  have s2 : Slots X.K ι2 S2.length H' sw σ := At1.sl.go At1.rel g2
  cases q : i1.items[i]? with
  | none =>
    have hd : i1.items.drop i = [] := List.drop_eq_nil_of_le (List.getElem?_eq_none_iff.mp q)
    rw [hd] at h2
    by_cases hg' : i1.guard S2 = true
    · have e2 : dcompD i1.guard g tt tk tv (wipeW sw vs) [] acc S2 = .ok acc S2 := by unfold dcompD; rw [if_pos hg']
      rw [e2] at h2
      refine .inl ⟨(r1 S1 ι2 S2 H' i rfl hle g1.rel g2 hg').2 q, ?_⟩
      have new : RepO X.K cl (ins_ ι2 S2.length D) (S2.length + 1) H' D (.dic acc) := ⟨accV, eD, rA.mono (Nat.le_succ _) (fun j hj => ins_lt hj) (Kpt.refl _)⟩
      have rp := g2.rel.push hne (fun j C fs _ gs z => by rw [eD] at z; cases z) new (g2.rel.tab.pushD eD)
      refine h2 (ins_ ι2 S2.length D) (.ref D) H' ⟨?_, fun j hj => ?_, fun j h1 h2 => ?_, g2.fr, g2.tb, rp⟩ ?_
      · rw [List.length_append]; exact Nat.le_trans g2.le (Nat.le_add_right _ _)
      · rw [ins_lt (Nat.lt_of_lt_of_le hj g2.le)]; exact g2.ext j hj
      · rw [List.length_append, List.length_singleton] at h2
        by_cases hj : j < S2.length
        · rw [ins_lt hj]; exact g2.fresh j h1 hj
        · have : j = S2.length := by omega
          subst this
          rw [ins_same]; exact hD
      · have : Rep X.K (ins_ ι2 S2.length D) (S2 ++ [WO.dic acc]).length H' (.ref S2.length) (.ref (ins_ ι2 S2.length D S2.length)) := .ref (by simp)
        rwa [ins_same] at this
    · have e2 : dcompD i1.guard g tt tk tv (wipeW sw vs) [] acc S2 = .bad := by unfold dcompD; rw [if_neg hg']
      rw [e2] at h2; exact h2.elim
  | some w =>
    obtain ⟨hlt, hw⟩ := List.getElem?_eq_some_iff.mp q
    have hd : i1.items.drop i = w :: i1.items.drop (i + 1) := by rw [List.drop_eq_getElem_cons hlt, hw]
    rw [hd] at h2
    by_cases hg' : i1.guard S2 = true
    · obtain ⟨go, yl⟩ := (r1 S1 ι2 S2 H' i rfl hle g1.rel g2 hg').1 w q
      simp only [dcompD, if_pos hg'] at h2
      refine .inr ⟨go, fun H'' => i + 1 ≤ i1.items.length ∧ ∃ ι3 S3 acc accV, Go X.K cl ι1 S1 H1 ι3 S3 H'' ∧ (∀ j, j < S3.length → D ≠ ι3 j) ∧ H'' D = some (.dK accV) ∧ KReps X.K ι3 S3.length H'' acc accV ∧
        (Res X.K cl (RV X.K) ι1 S1 H1 ((dcompD i1.guard g tt tk tv (wipeW sw vs) (i1.items.drop (i + 1)) acc S3).bind fun ys S3 => .ok (.ref S3.length) (S3 ++ [.dic ys])) Q fun c d H' => Wx c d σ H'),
        fun H'' hN => ⟨_, by omega, rfl, hN⟩, fun x H3 hy => ?_⟩
      obtain ⟨g3, rx⟩ := yl x H3 hy
      -- D stays apart
      have apart : ∀ {ι4 : Nat → Addr} {S4 : Hs} {H4 : Hp}, Go X.K cl ι2 S2 H' ι4 S4 H4 → (∀ j, j < S4.length → D ≠ ι4 j) ∧ H4 D = some (.dK accV) := fun {ι4 S4 H4} g4 => by
        refine ⟨fun j hj z => ?_, g4.fr D _ eD (fun ps z => by cases z) hne⟩
        by_cases h5 : j < S2.length
        · exact hne j h5 (z.trans (g4.ext j h5))
        · have := g4.fresh j (Nat.le_of_not_lt h5) hj
          rw [← z, eD] at this; cases this
      refine ⟨ι2, S2, wipeW sw vs, w, ⟨g3.rel, (s2.go g2.rel g3).wipe vs⟩, rx, ?_⟩
      cases q3 : g w (wipeW sw vs) S2 with
      | ok sw4 S4 =>
        simp only [q3] at h2
        intro ι4 σ4 H4 g4 s4 p4
        have p4' : L2.wipe σ4 vs = L2.wipe σ vs := by
          have : L2.wipe σ4 vs = L2.wipe (L2.wipe σ vs) vs := p4
          rw [this, wipe_twice]
        refine ⟨p4', ?_⟩
        have g24 := g3.trans g4
        refine ⟨ι4, S4, sw4, ⟨g4.rel, s4⟩, ?_⟩
        cases q5 : tt sw4 S4 with
        | ok b S5 =>
          simp only [q5] at h2
          intro ι5 b' H5 g5 eb
          have eb' : b = b' := eb
          subst eb'
          have g25 := g24.trans g5
          cases b with
          | true =>
            rw [if_pos rfl]
            simp only at h2
            refine ⟨ι5, S5, sw4, ⟨g5.rel, s4.go g4.rel g5⟩, ?_⟩
            cases q6 : tk sw4 S5 with
            | ok y S6 =>
              simp only [q6] at h2
              intro ι6 v H6 g6 ry
              have g26 := g25.trans g6
              refine ⟨ι6, S6, sw4, ⟨g6.rel, (s4.go g4.rel g5).go g5.rel g6⟩, ?_⟩
              cases q7 : tv sw4 S6 with
              | ok z S7 =>
                simp only [q7] at h2
                intro ι7 vz H7 g7 rz
                have g27 := g26.trans g7
                obtain ⟨ne7, e7⟩ := apart g27
                cases qk : keyW y with
                | some k =>
                  simp only [qk] at h2
                  by_cases hz : acc.length < sizeLine
                  · rw [if_pos hz] at h2
                    have rA7 := rA.go g2.rel g27
                    refine ⟨accV, k, keyW_rep ry qk, e7, by rw [← rA.length]; exact hz, hlt, ι7, S7, putW acc k z, L2.putK accV k vz, ?_, ne7, upd_same, ?_, h2⟩
                    · have g17 := g2.trans g27
                      refine ⟨g17.le, g17.ext, g17.fresh, fun a o e hp h => ?_, fun a ps e => ?_, g7.rel.besideD e7 ne7⟩
                      · have hb : a ≠ D := ne_of_none e hD
                        rw [upd_ne hb]; exact g17.fr a o e hp h
                      · have hb : a ≠ D := ne_of_none e hD
                        rw [upd_ne hb]; exact g17.tb a ps e
                    · exact (rA7.put rz).mono (Nat.le_refl _) (fun _ _ => rfl) (kpt_besideD e7)
                  · rw [if_neg hz] at h2; exact h2.elim
                | none => simp only [qk] at h2; exact h2.elim
              | exc _ _ _ => simp only [q7] at h2; exact h2.elim
              | bad => simp only [q7] at h2; exact h2.elim
            | exc _ _ _ => simp only [q6] at h2; exact h2.elim
            | bad => simp only [q6] at h2; exact h2.elim
          | false =>
            rw [if_neg (by decide)]
            simp only at h2
            obtain ⟨ne5, e5⟩ := apart g25
            exact ⟨hlt, ι5, S5, acc, accV, g2.trans g25, ne5, e5, rA.go g2.rel g25, h2⟩
        | exc _ _ _ => simp only [q5] at h2; exact h2.elim
        | bad => simp only [q5] at h2; exact h2.elim
      | exc _ _ _ => simp only [q3] at h2; exact h2.elim
      | bad => simp only [q3] at h2; exact h2.elim
    · have e2 : dcompD i1.guard g tt tk tv (wipeW sw vs) (w :: i1.items.drop (i + 1)) acc S2 = .bad := by unfold dcompD; rw [if_neg hg']
      rw [e2] at h2; exact h2.elim
/-- {k: v for tg in iter if ..} -/
theorem d_dc {kx vx tg iter : Expr} {ifs : List Expr} {scope : Scope} {own : List (Str × Nat)} (hc : X.calm = true) (hN : X.N.Nodup) (hi : PI X tg iter (tI X.K cl Wx it)) (ok : BlkOk X.N X.env.scope scope own)
    (hg : ∀ (s : Shared) (H : Hp) (C : Addr) (cl' : List (Str × Addr)) (fp : List Addr), PG (X.blk s H scope (compEnvC scope cl' C X.env) fp) tg (tG X.K cl (ownS (own.map (·.2))) g))
    (ht : ∀ (s : Shared) (H : Hp) (C : Addr) (cl' : List (Str × Addr)) (fp : List Addr), PTs (X.blk s H scope (compEnvC scope cl' C X.env) fp) ifs (tT X.K cl W0 tt))
    (hk : ∀ (s : Shared) (H : Hp) (C : Addr) (cl' : List (Str × Addr)) (fp : List Addr), PE (X.blk s H scope (compEnvC scope cl' C X.env) fp) kx (tE X.K cl W0 tk))
    (he : ∀ (s : Shared) (H : Hp) (C : Addr) (cl' : List (Str × Addr)) (fp : List Addr), PE (X.blk s H scope (compEnvC scope cl' C X.env) fp) vx (tE X.K cl W0 tv)) (hs : ∀ x, foldedSetIterable iter X.env x = pure x := by intro _; rfl) :
    PE X (.DictComp kx vx [⟨tg, iter, ifs, 0⟩] scope pos) (tE X.K cl Wx (ddc (own.map (·.2)) it g tt tk tv)) := (pe_dc hc hN hi ok hg ht hk he hs).dimp fun _ _ _ => t_dc
theorem ps_setDc {i : Nat} {y : Str} {py : Pos} {kx vx tg iter : Expr} {ifs : List Expr} {scope : Scope} {own : List (Str × Nat)} {pos spos : Pos} {wi : TI} {g : TG} {tt : TT} {tk tv : TE} (hc : X.calm = true) (hN : X.N.Nodup) (hy : X.N[i]? = some y) (hyl : X.env.scope.names.lookup y = some .local)
    (hsw : swapsWith (.DictComp kx vx [⟨tg, iter, ifs, 0⟩] scope pos) (some (.Name y py)) spos.line X.env = pure true) (hi : PI X tg iter wi) (ok : BlkOk X.N X.env.scope scope own)
    (hg : ∀ (s : Shared) (H : Hp) (C : Addr) (cl : List (Str × Addr)) (fp : List Addr), PG (X.blk s H scope (compEnvC scope cl C X.env) fp) tg g) (ht : ∀ (s : Shared) (H : Hp) (C : Addr) (cl : List (Str × Addr)) (fp : List Addr), PTs (X.blk s H scope (compEnvC scope cl C X.env) fp) ifs tt)
    (hk : ∀ (s : Shared) (H : Hp) (C : Addr) (cl : List (Str × Addr)) (fp : List Addr), PE (X.blk s H scope (compEnvC scope cl C X.env) fp) kx tk)
    (he : ∀ (s : Shared) (H : Hp) (C : Addr) (cl : List (Str × Addr)) (fp : List Addr), PE (X.blk s H scope (compEnvC scope cl C X.env) fp) vx tv) (hs : ∀ x, foldedSetIterable iter X.env x = pure x := by intro _; rfl) :
    PS X (.Assign [.Name y py] (.DictComp kx vx [⟨tg, iter, ifs, 0⟩] scope pos) spos) (tAsg (tDc wi g tt tk tv (own.map (·.2))) (gName i)) := by
  refine ⟨fun pins s σ H D I h => ?_⟩
  rw [exec_Assign_Name_used _ _ _ _ hsw]
  refine wpAny_bind (wpAny_standAt (wpAny_bind ?_))
  show wpAny _ X.A (do let _ ← comprehension (.DictComp kx vx [⟨tg, iter, ifs, 0⟩] scope pos) scope X.env (firstIterPos [⟨tg, iter, ifs, 0⟩] pos) newDict false (eval iter X.env) (some (assign (.Name y py) X.env))) _ _ s
  have h : tDc wi g tt tk tv (own.map (·.2)) σ H (fun x H1 => gName i x σ H1 D.nx) := h
  refine wpAny_bind (thn (dc_core (Qf := fun _ s' => SP X pins D .next s') hc hN I hi ok hg ht hk he hs h fun L C s' m H' I' q hn f => ?_) fun _ s' hq => wpAny_pure (wpAny_pure hq))
  show wpAny _ _ (assign (.Name y py) X.env (.ref L)) _ _ _
  refine wpAny_assign_Name (store_ok2 (v := V.ref L) I' hN hy (.inl hyl) rfl (fun s2 I2 ⟨a, sb, ha⟩ => ?_) (.inr hyl))
  obtain ⟨f0, f1, f2, f3, f4, f5⟩ := f
  have haC : C ≠ a := by
    rcases ha with z | z
    · rw [z]; exact f1
    · exact fun e => f4 y a z e.symm
  refine ⟨m, hn.sameBut sb haC, fun h3 sb3 => ?_⟩
  exact ⟨_, H', I2.turned (t' := s2.toks) (fun b o hb e => (sb3.2 b hb).trans e) f0 f1 f3 f4 f5, q⟩
/-- y = {k: v for ..} -/
theorem z_setDc {i : Nat} {y : Str} {py spos : Pos} {kx vx tg iter : Expr} {ifs : List Expr} {scope : Scope} {own : List (Str × Nat)} (hc : X.calm = true) (hN : X.N.Nodup) (hy : X.N[i]? = some y) (hyl : X.env.scope.names.lookup y = some .local)
    (hsw : swapsWith (.DictComp kx vx [⟨tg, iter, ifs, 0⟩] scope pos) (some (.Name y py)) spos.line X.env = pure true) (hi : PI X tg iter (tI X.K cl Wx it)) (ok : BlkOk X.N X.env.scope scope own)
    (hg : ∀ (s : Shared) (H : Hp) (C : Addr) (cl' : List (Str × Addr)) (fp : List Addr), PG (X.blk s H scope (compEnvC scope cl' C X.env) fp) tg (tG X.K cl (ownS (own.map (·.2))) g))
    (ht : ∀ (s : Shared) (H : Hp) (C : Addr) (cl' : List (Str × Addr)) (fp : List Addr), PTs (X.blk s H scope (compEnvC scope cl' C X.env) fp) ifs (tT X.K cl W0 tt))
    (hk : ∀ (s : Shared) (H : Hp) (C : Addr) (cl' : List (Str × Addr)) (fp : List Addr), PE (X.blk s H scope (compEnvC scope cl' C X.env) fp) kx (tE X.K cl W0 tk))
    (he : ∀ (s : Shared) (H : Hp) (C : Addr) (cl' : List (Str × Addr)) (fp : List Addr), PE (X.blk s H scope (compEnvC scope cl' C X.env) fp) vx (tE X.K cl W0 tv)) (hs : ∀ x, foldedSetIterable iter X.env x = pure x := by intro _; rfl) :
    PS X (.Assign [.Name y py] (.DictComp kx vx [⟨tg, iter, ifs, 0⟩] scope pos) spos) (tS X.K cl Wx (sasg (ddc (own.map (·.2)) it g tt tk tv) (gname i))) := (ps_setDc hc hN hy hyl hsw hi ok hg ht hk he hs).dimp fun D σ H h => by
  obtain ⟨ι, S, sw, A, h⟩ := h
  refine t_dc (Q := fun x H1 => D.nx (σ.set i (some x)) H1) ⟨ι, S, sw, A, Res.imp (Res.to (RA := RV X.K) A h) fun x H1 ⟨ι1, S1, w1, g1, r1, _, h1⟩ => ?_⟩
  exact ResS.nx_at (sw := sw.set i (some w1)) h1 g1.rel ((A.sl.go A.rel g1).set i r1)
end
end DL

set_option Elab.async false
set_option linter.all false
set_option maxRecDepth 100000
/-! DL49: tuples made at run time whose methods are called: made frozen (`.ftp`), read as tuples (dcoe), t.index(x). -/
namespace DL
open PySem PySem.Spec PyProof.Rows L2

def coeW : W → W
  | .ftp ws => .tup ws
  | w => w
def dcoe (f : DE) : DE := fun sw S => (f sw S).bind fun w S1 => .ok (coeW w) S1
theorem Rep.coe {K : PySem.W.Frag} {ι : Nat → Addr} {n : Nat} {H : Hp} {w : W} {v : V} (h : Rep K ι n H w v) : Rep K ι n H (coeW w) v := by
  cases h with
  | ftp a b => exact .tup a.tup b
  | tup a b => exact .tup a b
  | fro a b => exact .fro a b
  | ref hi => exact .ref hi
  | non => exact .non
  | bl b => exact .bl b
  | int b => exact .int b
  | str b => exact .str b
def tupleF (ws : List W) (S : Hs) : R W := match ws with
  | [x] => match lstOf S x with
    | some xs => .ok (.ftp xs) S
    | none => .bad
  | _ => .bad
def tixR (t : DA) (sw : SW) (x : W) (S1 : Hs) : R W := match x with
  | .ftp xs => (t sw S1).bind fun ws S2 => indexW (.fro xs) ws S2
  | _ => .bad
def dtindex (o : DE) (t : DA) : DE := fun sw S => (o sw S).bind fun x S1 => tixR t sw x S1
section
variable {X : Cx} {cl : Cla} {Wx : L2.WX} {o e : Expr} {es : List Expr} {fo : DE} {t : DA} {apos cpos : Pos}
theorem d_coe (h : PE X o (tE X.K cl Wx fo)) : PE X o (tE X.K cl Wx (dcoe fo)) := h.dimp fun σ H Q q => by
  obtain ⟨ι, S, sw, A, q⟩ := q
  exact ⟨ι, S, sw, A, Res.imp (Res.split (RA := RV X.K) q) fun x H1 ⟨ι1, S1, w1, g1, r1, _, h1⟩ => Res.ok h1 g1.rel r1.coe⟩
theorem call_tuple_frz : CallR X (.type "tuple") (fun xs H Q => ∃ p ys, xs = [.ref p] ∧ SqL X.K H p ys ∧ ∀ l (o : Obj), H l = none → o.cls = .type "tuple" → o.dict = none → Q (.ref l) (upd H l (.frz o (.tup ys)))) := by
  intro pins s σ H xs us Q I r h
  obtain ⟨p, ys, rfl, hq, q⟩ := h
  obtain ⟨u, rfl, rx⟩ := vals1 r
  cases rx
  obtain ⟨its, r', pl, hz⟩ := I.list hq
  have hlen := r'.length
  refine call_tuple_list pl.isList (fun h' kp => ?_) (by simp only [List.size_toArray] <;> omega)
  have I1 : Inv X pins σ H { s with heap := h' } := I.kept (t' := s.toks) kp
  have I2 : Inv X pins σ (upd H h'.objs.size (.frz { cls := .type "tuple", data := .seq its.toArray } (.tup ys))) { s with heap := h'.push { cls := .type "tuple", data := .seq its.toArray } } :=
    I1.laid (t' := s.toks) (fun b o e => Heap.get?_push_of_some _ e) (Nat.le_refl _) (show ObjOk X.prog X.w _ _ _ (.frz _ (.tup ys)) from ⟨Heap.get?_push_size _ rfl, hz, its, r', IsTup.new _ _⟩)
  exact ⟨.ref h'.objs.size, _, I2, rfl, q _ _ (I1.hok.fresh (Nat.le_refl _)) rfl rfl⟩
theorem c_tupleF : DCall X (.type "tuple") tupleF := .of call_tuple_frz fun cl ι S H ws vs Q E r rw_ h => by
  unfold tupleF at h
  split at h
  · split at h
    · rename_i e
      obtain ⟨v, rfl, a⟩ := rw_.one
      obtain ⟨l, us, rfl, h1, r1⟩ := lstOf_at r a e
      refine ⟨_, us, rfl, h1.sq, fun p o hp hc hd => ?_⟩
      have g := r.tuple (o := .frz o (.tup us)) hp
      exact h _ _ _ g (.ftp ⟨o, upd_same, hc, hd⟩ (r1.go r g))
    · exact h.elim
  · exact h.elim
/-- t.index(y), run -/
theorem call_tindex (hu : X.A.units + 65 < cLine) {pins : List (Addr × Obj)} {s : Shared} {σ : L2.St} {cl : Cla} {ι : Nat → Addr} {S : Hs} {H : Hp} {xs ws : List W} {a : V} {vs : List V} {v : Value} {us : List Value} {Q : VK} {E : XK}
    (I : Inv X pins σ H s) (R : Rel X.K cl ι S H) (rx : Rep X.K ι S.length H (.ftp xs) a) (rw_ : Reps X.K ι S.length H ws vs) (ra : RelV a v) (rv : Vals vs us)
    (h : Res X.K cl (RV X.K) ι S H (indexW (.fro xs) ws S) Q E) : wpAny (model X.prog X.w) X.A (call (.builtin "tuple.index") (v :: us)) (EP X pins σ Q) X.xe s := by
  unfold indexW at h
  split at h
  · rename_i y
    split at h
    · rename_i xs' d e1 e2
      cases e1
      split at h
      · rename_i ds e3
        split at h
        · rename_i hs
          split at h
          · rename_i j e4
            obtain ⟨v1, rfl, r1⟩ := rw_.one
            cases rx with
            | ftp ft r2 =>
            rename_i l ys
            obtain ⟨o, eo, hoc, hod⟩ := ft
            cases ra
            obtain ⟨u1, rfl, ru⟩ := vals1 rv
            obtain ⟨bs, q1⟩ := reads_of I R _ y v1 _ d r1 ru e2
            obtain ⟨ho, hz, its, rv2, o', ho', hc', n, hdt⟩ := I.hok _ _ eo
            have eoo : o' = o := by rw [ho] at ho'; exact (Option.some.inj ho').symm
            subst eoo
            obtain ⟨cls, dd, dat, sl⟩ := o'
            simp only at hoc hod hdt
            subst hoc hod hdt
            obtain ⟨as, q2⟩ := reads_all (fun w v u d => reads_of I R _ w v u d) xs _ its ds r2 rv2 e3
            obtain ⟨m, z, ej, hz1, hz2, hno⟩ := firstW_some e4
            have hxs : PyData.canLayAll0 ds = true := SeqAt.canLay_of_shaped hs.2
            have hroom : X.A.units + 1 + min (PyData.depthAll ds) d.depth < cLine := room_in_shaped hs.1 hu
            have ejm : j = m := by omega
            subst ejm
            have hn : its.length = ds.length := SeqAt.ReadsAll.length ds its as q2
            have hmap : its.map (SeqAt.readOf s.heap) = ds := SeqAt.readsAll_map ds its as hxs q2
            have hvl := rv2.length
            have hsl := sizeLine_eq
            obtain ⟨hjd, _⟩ := List.getElem?_eq_some_iff.mp hz1
            have hjl : j < its.length := by omega
            have hj : j < its.toArray.size := by simpa using hjl
            have at_ : ∀ (m : Nat) (hm : m < its.toArray.size) (z' : PyData), ds[m]? = some z' → SeqAt.readOf s.heap its.toArray[m] = z' := by
              intro m hm z' hz'
              have hml : m < its.length := by simpa using hm
              rw [← hmap, List.getElem?_map, List.getElem?_eq_getElem hml] at hz'
              have e1 : SeqAt.readOf s.heap its[m] = z' := Option.some.inj (show some (SeqAt.readOf s.heap its[m]) = some z' from hz')
              simpa using e1
            refine call_meets PySem.F.slot_tuple_index ⟨_, ho, rfl⟩ PySem.F.entry_tuple_index (PySem.F.args_tuple_index_2 _ _)
              (TI.tuple_indexAt l its.toArray n none sl u1 (fun u => PyData.eqv (SeqAt.readOf s.heap u) d) j hj ?_ ?_) ⟨ho, SeqAt.items_eqAt (vs := its.toArray) (show ReadsAll s.heap its.toArray.toList ds as from q2) q1 hxs (SeqAt.canLay_of_shaped hs.1) hroom, ?_⟩
            · show PyData.eqv (SeqAt.readOf s.heap its.toArray[j]) d = true
              rw [at_ j hj z hz1]
              exact hz2
            · intro m hm hmj
              have hmd : m < ds.length := by omega
              have hz' : ds[m]? = some ds[m] := List.getElem?_eq_getElem hmd
              show PyData.eqv (SeqAt.readOf s.heap its.toArray[m]) d = false
              rw [at_ m hm _ hz']
              exact hno m _ hmj hz'
            · exact ⟨.int (j : Nat), H, I.tok _, ⟨_, rfl⟩, Res.ok h R (.int _)⟩
          · exact h.elim
        · exact h.elim
      · exact h.elim
    · exact h.elim
  · exact h.elim
theorem d_tindex (hu : X.A.units + 65 < cLine) (ho : PE X o (tE X.K cl Wx fo)) (ha : PA X (e :: es) (tA X.K cl Wx t))
    (hbase : attributeBase o "index" X.env (eval o X.env) = eval o X.env := by rfl)
    (hfew : ((backTo cpos (starEach (e :: es) X.env)).all (fun x => !x.1) && (backToKw cpos (keywordEach [] X.env)).all (fun x => x.1.isSome)
      && decide ((e :: es).length + ([] : List Keyword).length + (if ([] : List Keyword).isEmpty then 0 else 1) < 30)) = true := by rfl)
    (hline : (apos.endLine == cpos.line) = true := by rfl) (hs : starEach (e :: es) X.env = (false, eval e X.env) :: starEach es X.env := by rfl) (hplain : (backTo cpos (starEach es X.env)).any (·.1) = false := by rfl) :
    PE X (.Call (.Attribute o "index" apos) (e :: es) [] cpos) (tE X.K cl Wx (dtindex fo t)) := by
  refine ⟨fun pins s σ H Q I h => ?_⟩
  obtain ⟨ι, S, sw, A, h⟩ := h
  have h0 : tE X.K cl Wx fo σ H _ := ⟨ι, S, sw, A, Res.split (RA := RV X.K) h⟩
  refine wpAny_Call_method_late hbase hfew hline rfl (thn (ho.run pins s σ H _ I h0) fun v s1 ⟨x, H1, I1, r1, ι1, S1, w1, g1, rx, _, h1⟩ => ?_)
  unfold tixR at h1
  split at h1
  · rename_i xs
    have rx' := rx
    cases rx' with
    | ftp ft r2 =>
    rename_i l ys
    obtain ⟨o1, eo, hoc, hod⟩ := ft
    have ht : s1.heap.get? l = some o1 := (I1.hok _ _ eo).1
    obtain rfl : v = .ref l := r1
    refine ⟨"tuple", "tuple.index", PySem.F.plainAttrs_tuple, PySem.F.slot_tuple_index, PySem.F.type_tuple_index, ⟨o1, ht, hoc⟩, fun a e => ?_, ?_⟩
    · cases e
      exact ⟨o1, ht, hod⟩
    · have h2 : tA X.K cl Wx t σ H1 _ := ⟨ι1, S1, sw, A.go g1, Res.split (RA := RVs X.K) h1⟩
      have hA := ha.run cpos pins s1 σ H1 _ I1 h2
      rw [hs] at hA ⊢
      refine Calls.callWith_builtin (by show (false || (backTo cpos (starEach es X.env)).any (·.1)) = false; rw [hplain] <;> rfl) (Calls.evalArgs_plain ?_)
      exact thn hA fun us s2 ⟨vs, H2, I2, r2, ι2, S2, ws, g2, rws, _, h2⟩ => call_tindex hu I2 g2.rel (rx.go g1.rel g2) rws rfl r2 h2
  · exact h1.elim
end
@[simp] theorem dcoe_ap (f : DE) (sw : SW) (S : Hs) : dcoe f sw S = (f sw S).bind fun w S1 => .ok (coeW w) S1 := Eq.trans rfl rfl
@[simp] theorem coe_ftp (ws : List W) : coeW (.ftp ws) = .tup ws := Eq.trans rfl rfl
@[simp] theorem coe_tup (ws : List W) : coeW (.tup ws) = .tup ws := Eq.trans rfl rfl
@[simp] theorem dtindex_ap (o : DE) (t : DA) (sw : SW) (S : Hs) : dtindex o t sw S = (o sw S).bind fun x S1 => tixR t sw x S1 := Eq.trans rfl rfl
@[simp] theorem tix_ftp (t : DA) (xs : List W) (sw : SW) (S : Hs) : tixR t sw (.ftp xs) S = (t sw S).bind fun ws S2 => indexW (.fro xs) ws S2 := Eq.trans rfl rfl
end DL

set_option Elab.async false
set_option linter.all false
set_option maxRecDepth 100000
set_option maxHeartbeats 2000000
/-! DL50: own exception classes over RuntimeError and LookupError: made, raised. -/
namespace DL
open PySem PySem.Spec PyProof.Rows L2

/-- the built-in class below -/
inductive Bk where
  | re | le
def Bk.tl : Bk → List Value
  | .re => [.type "RuntimeError", .type "Exception", .type "BaseException", .type "object"]
  | .le => [.type "LookupError", .type "Exception", .type "BaseException", .type "object"]
def Bk.nm : Bk → String
  | .re => "RuntimeError"
  | .le => "LookupError"
def Bk.nw : Bk → String
  | .re => "RuntimeError.__new__"
  | .le => "LookupError.__new__"
def Bk.it : Bk → String
  | .re => "RuntimeError.__init__"
  | .le => "LookupError.__init__"
theorem Bk.base : ∀ b : Bk, ExcBaseFacts b.nm b.nw b.it b.tl
  | .re => PySem.F.excBase_RuntimeError
  | .le => PySem.F.excBase_LookupError
theorem Bk.st : ∀ b : Bk, StoreFacts b.nm b.tl "object.__setattr__" "object"
  | .re => PySem.F.store_RuntimeError
  | .le => PySem.F.store_LookupError
/-- what the written part says of such a class -/
structure OexT (b : Bk) (K : PySem.W.Frag) (C : Addr) : Prop where
  cls : ∃ nm q N bs bm sn sub ab col dd k0 k1 k2 k3 k5, K.lookup C = some (excClassObj nm q C N bs bm true sn sub ab col dd k0 k1 k2 k3 k5 b.nw) ∧ PySem.W.excTail b.tl bm = true
  sa : PySem.W.findIn K (.ref C) "__setattr__" = some (some (.builtin "object.__setattr__"))
  exC : PySem.W.subIn K (.ref C) (.type "BaseException") = some true
  tyC : PySem.W.typeIn K (.ref C) = some (.type "type")
  kC : PySem.W.keepIn K (.ref C) = true
section
open Builtin Builtin.ObjectAttr PySem.W
variable {bk : Bk} {prog : Program} {w : World} {A : Around} {R : Result → Shared → Prop} {hp : Heap} {g : Array GenState} {d : Drawn} {t : Nat} {os : OsState}
theorem osaT {K : Frag} {name : Str} {tk : Tok} {v : Value} {x C : Addr} {fv : Array Value} (T : OexT bk K C) (X : K.In hp) (hx : hp.get? x = some { cls := .ref C, data := .fields fv }) (ha : findIn K (.ref C) name = some none)
    (hq : ∀ h' tk' dx, (∀ b o, b ≠ x → hp.get? b = some o → h'.get? b = some o) → hp.objs.size ≤ dx → dx ≠ x → h'.get? x = some { cls := .ref C, dict := some dx, data := .fields fv } →
      h'.Ns1 dx (fun y => if y = name then some v else none) → R (.ok (.ret .none)) ⟨h', g, d, tk', os⟩) :
    codeAny (model prog w) A (.call (.builtin "object.__setattr__") ⟨[.ref x, .str name tk, v], []⟩) R ⟨hp, g, d, t, os⟩ := by
  obtain ⟨nm, q, N, bs, bm, sn, sub, ab, col, dd, k0, k1, k2, k3, k5, hC, hbm⟩ := T.cls
  have hcl : clsIn K C = some { name := nm, bases := bs, mro := .ref C :: bm, ns := N, qualname := q, hasDict := true, slotNames := sn, subclasses := sub, abstract := ab, collection := col, hasDel := false } := by unfold clsIn; rw [hC] <;> rfl
  have hov : excOver K C bk.tl = true := by
    unfold excOver
    rw [hcl]
    show ((C == C) && excTail bk.tl bm) = true
    rw [hbm, beq_self_eq_true]; rfl
  have htk : takerIn K C name = some none := by unfold takerIn; rw [ha]; rfl
  have I : InstAt hp x { cls := .ref C, data := .fields fv } C none := ⟨hx, rfl, rfl, trivial⟩
  have hxs : x ≠ hp.objs.size := Nat.ne_of_lt (Heap.lt_size hx)
  have hcls : Looks (model prog w) hp (classData C) _ := looks_clsIn X hcl
  refine osa_openX (s := ⟨hp, g, d, t, os⟩) bk.st X I hov htk fun bb => ?_
  show wpAny _ _ (storeInOwnDict (.ref x) (.ref C) (.str name tk) name v bb) _ _ _
  unfold storeInOwnDict ownDictForStores
  repeat (first | with_reducible refine PySem.HandSPX.store_in_new ?_ ?_ | with_reducible refine wpAny_loadPart_at hx ?_ | with_reducible refine hcls.at ?_ | wp_step)
  · exact ⟨_, #[], _, (Heap.get?_update_ne _ _ _ _ hxs.symm).trans (Heap.get?_push_at rfl rfl), rfl, fun e he => absurd he (by simp), fun _ => rfl⟩
  · intro h' tk' hn' hs
    have hx₁ : (hp.push { cls := .type "dict", data := .dict #[] }).get? x = some { cls := .ref C, data := .fields fv } := Heap.get?_push_of_some _ hx
    refine hq h' tk' hp.objs.size (fun b o hb ho => ?_) (Nat.le_refl _) hxs.symm ?_ hn'
    · exact (hs.2 b (Nat.ne_of_lt (Heap.lt_size ho))).trans ((Heap.get?_update_ne _ _ _ _ hb).trans (Heap.get?_push_of_some _ ho))
    · exact (hs.2 x hxs).trans (Heap.get?_update_self _ hx₁ rfl)
end
section
variable {bk : Bk} {X : Cx} {pins : List (Addr × Obj)} {σ : L2.St} {H : Hp} {s : Shared} {a C : Addr} {f : Str} {y : V} {u : Value} {E : Value → Shared → Prop} {A : Around}
/-- the first self.f = y -/
theorem ostT (T : OexT bk X.K C) (I : Inv X pins σ H s) (e : H a = some (exo a C none)) (hno : PySem.W.findIn X.K (.ref C) f = some none) (ry : RelV y u) {Q : Unit → Shared → Prop}
    (h : ∀ dx s', H dx = none → dx ≠ a → Inv X pins σ (upd (upd H dx (exd dx [(f, y)])) a (exo a C (some dx))) s' → Q () s') : wpAny (model X.prog X.w) A (setAttr (.ref a) f u) Q E s := by
  obtain ⟨t1, ho⟩ := exo_at I.hok e
  obtain ⟨hp, g, d, t, os⟩ := s
  refine PySem.W.set_plain I.kIn (ox := { cls := .ref C, dict := none, data := .fields #[.ref t1, .none, .none, .none, .bool false, .none] }) (od := none) ⟨ho, rfl, rfl, trivial⟩ T.sa ?_
  refine osaT T I.kIn ho hno (fun h' tk' dx k dn dne hx hn => ?_)
  have hnd : H dx = none := I.hok.fresh dn
  have old : ∀ {b : Addr} {o : Obj}, hp.get? b = some o → b ≠ dx := fun {b o} q => Nat.ne_of_lt (Nat.lt_of_lt_of_le (Heap.lt_size q) dn)
  have out : ∀ {b : Addr}, H b = none → b ≠ a := fun {b} n z => by rw [z, e] at n; cases n
  have kept : ∀ {b : Addr} {v : HO}, H b = some v → exo a C none ≠ v → upd (upd H dx (exd dx [(f, y)])) a (exo a C (some dx)) b = some v := fun {b v} q ne => by
    rw [upd_ne (at_ne e q ne), upd_ne (ne_of_none q hnd)]; exact q
  have un : Un X.fs [] H (upd (upd H dx (exd dx [(f, y)])) a (exo a C (some dx))) hp h' := ⟨fun b o q n _ _ => k b o (out n) q, fun b o q n _ _ => ⟨o.slots, k b o (out n) q⟩, fun b o q n _ => by rw [upd_ne (out n), upd_ne (old q)]; exact n,
    fun b o q _ => by
      by_cases hb : b = a
      · exact ⟨_, by rw [hb]; exact hx⟩
      · exact ⟨o, k b o hb q⟩,
    fun b xs q => kept q exo_tup, fun b o v q => kept q exo_frz, fun b ps q => ⟨#[], by rw [kept q exo_tbl]; simp⟩⟩
  refine h dx _ hnd dne (I.un (t' := tk') un fun b o q => ?_)
  by_cases hb : b = a
  · subst hb
    rw [upd_same] at q; cases q
    exact exo_ok hx
  · rw [upd_ne hb] at q
    by_cases hd : b = dx
    · subst hd
      rw [upd_same] at q; cases q
      exact exd_ok hn (relO_put (fs := []) ry fun g => True.intro)
    · rw [upd_ne hd] at q
      refine (I.hok b o q).stay (fun c v hc z => k c v ?_ z) (fun c hc => kept hc exo_own) fun c xs hc => kept hc exo_tup
      rcases hc with rfl | hc
      · exact hb
      · exact at_ne e hc exo_own
/-- B.__init__(self, ..) of the built-in class -/
theorem oinitT {us : List Value} {Q : Value → Shared → Prop} (T : OexT bk X.K C) (I : Inv X pins σ H s) (e : H a = some (exo a C none)) (hl : us.length ≤ sizeLine) (h : ∀ s', Inv X pins σ H s' → Q .none s') :
    wpAny (model X.prog X.w) A (call (.builtin bk.it) (.ref a :: us)) Q E s := by
  obtain ⟨nm, q, N, bs, bm, sn, sub, ab, col, dd, k0, k1, k2, k3, k5, hC, hbm⟩ := T.cls
  obtain ⟨t1, ho⟩ := exo_at I.hok e
  obtain ⟨hp, g, d, t, os⟩ := s
  refine wpAny_call (PySem.HandSPX.init_base bk.base (fun Y => PySem.W.excTail_contains Y bm hbm) (I.kIn _ _ hC) ho hl fun h' t2 k hx => ?_)
  have J := I.write (t' := t) (x := a) (e := a) (o := exo a C none) (by rw [e]; exact True.intro) (.inl rfl) k ⟨_, hx⟩ (exo_ok hx)
  have eu : upd H a (exo a C none) = H := by
    funext b
    by_cases hb : b = a
    · rw [hb, upd_same, e]
    · rw [upd_ne hb]
  exact h _ (eu ▸ J)
end
/-! ### the rules -/
def tVeT (b : Bk) (K : PySem.W.Frag) (ta : TA) : TE := fun σ H Q => ta σ H fun vs H1 => ∃ (a C : Addr) (ws : List V), vs = .ref a :: ws ∧ ws.length ≤ 1000 ∧ OexT b K C ∧ H1 a = some (exo a C none) ∧ Q .non H1
def tOsT (b : Bk) (K : PySem.W.Frag) (f : Str) (to te : TE) : TS := fun D σ H => te σ H fun y H1 => to σ H1 fun x H2 => ∃ a C : Addr, x = .ref a ∧ OexT b K C ∧ PySem.W.findIn K (.ref C) f = some none ∧
  H2 a = some (exo a C none) ∧ ∀ dx, H2 dx = none → dx ≠ a → D.nx σ (upd (upd H2 dx (exd dx [(f, y)])) a (exo a C (some dx)))
structure BaseT (b : Bk) (K : PySem.W.Frag) (B : Addr) : Prop where
  rd : PySem.W.readsIn K B (.type "type") = true
  ga : PySem.W.specialIn K (.ref B) "__getattribute__" = some (some (.builtin "type.__getattribute__"))
  ini : PySem.W.findCls K (.ref B) (.type "type") "__init__" = some (.val (.builtin b.it))
def baseTB (b : Bk) (K : PySem.W.Frag) (B : Addr) : Bool := PySem.W.readsIn K B (.type "type") && (decide (PySem.W.specialIn K (.ref B) "__getattribute__" = some (some (.builtin "type.__getattribute__"))) &&
  (match PySem.W.findCls K (.ref B) (.type "type") "__init__" with
    | some (.val u) => decide (u = .builtin b.it)
    | _ => false))
theorem baseTB_ok {b : Bk} {K : PySem.W.Frag} {B : Addr} (h : baseTB b K B = true) : BaseT b K B := by
  obtain ⟨h1, h⟩ := Bool.and_eq_true_iff.mp h
  obtain ⟨h2, h3⟩ := Bool.and_eq_true_iff.mp h
  refine ⟨h1, of_decide_eq_true h2, ?_⟩
  split at h3
  · rename_i u e
    rw [e, of_decide_eq_true h3]
  · cases h3
def oexTB (b : Bk) (K : PySem.W.Frag) (C : Addr) : Bool := (match K.lookup C with
  | some ⟨.type "type", _, .cls cd, sl⟩ => (match cd.mro, sl.toList with
    | .ref C' :: bm, [_, _, _, _, some (.builtin n), _] => C' == C && n == b.nw && !cd.hasDel && cd.hasDict && PySem.W.excTail b.tl bm
    | _, _ => false)
  | _ => false) && (decide (PySem.W.findIn K (.ref C) "__setattr__" = some (some (.builtin "object.__setattr__"))) && (decide (PySem.W.subIn K (.ref C) (.type "BaseException") = some true) &&
    (decide (PySem.W.typeIn K (.ref C) = some (.type "type")) && PySem.W.keepIn K (.ref C))))
theorem oexTB_ok {b : Bk} {K : PySem.W.Frag} {C : Addr} (h : oexTB b K C = true) : OexT b K C := by
  obtain ⟨q, h⟩ := Bool.and_eq_true_iff.mp h
  obtain ⟨h2, h⟩ := Bool.and_eq_true_iff.mp h
  obtain ⟨h3, h⟩ := Bool.and_eq_true_iff.mp h
  obtain ⟨h4, h5⟩ := Bool.and_eq_true_iff.mp h
  refine ⟨?_, of_decide_eq_true h2, of_decide_eq_true h3, of_decide_eq_true h4, h5⟩
  split at q
  · rename_i dd cd sl ho
    split at q
    · rename_i C' bm k0 k1 k2 k3 n k5 hm hs
      simp only [Bool.and_eq_true, beq_iff_eq, Bool.not_eq_true'] at q
      obtain ⟨⟨⟨⟨e1, e2⟩, hdel⟩, hdi⟩, hbm⟩ := q
      subst e1 e2
      obtain ⟨nm, bs, mro, ns, qn, hd, sn, sub, ab, col, del⟩ := cd
      dsimp only at hm hdel hdi
      subst hm hdel hdi
      have hsl : sl = #[k0, k1, k2, k3, some (.builtin b.nw), k5] := by
        apply Array.toList_inj.mp
        rw [hs]
      subst hsl
      exact ⟨nm, qn, ns, bs, bm, sn, sub, ab, col, dd, k0, k1, k2, k3, k5, ho, hbm⟩
    · cases q
  · cases q
section
variable {bk : Bk} {X : Cx} {o e : Expr} {es : List Expr} {to te : TE} {ta : TA} {f : Str} {p p' p1 p2 pos : Pos} {Bn : Str} {B : Addr}
theorem pe_oinitT {pl : Sem Bool} (hg : Gl X Bn) (hm : X.mg Bn = some (.ref B)) (b : BaseT bk X.K B) (ha : PA X (e :: es) ta)
    (hc : eval (.Call (.Attribute (.Name Bn p1) "__init__" p2) (e :: es) [] pos) X.env = (do
      let ov ← eval (.Name Bn p1) X.env
      standAt p2.atName
      let (f, first) ← holding [ov] (getMethod ov "__init__" pl)
      callWith pos f first (backTo pos (starEach (e :: es) X.env)) (backToKw pos (keywordEach [] X.env))) := by rfl)
    (hdb : (Bn == ("__debug__" : Str)) = false := by decide) (he : starEach (e :: es) X.env = (false, eval e X.env) :: starEach es X.env := by rfl) (hpl : (backTo pos (starEach es X.env)).any (·.1) = false := by rfl) :
    PE X (.Call (.Attribute (.Name Bn p1) "__init__" p2) (e :: es) [] pos) (tVeT bk X.K ta) := by
  refine ⟨fun pins s σ H Q I h => ?_⟩
  refine PySem.W.methodCall_KW (ld_glob I hg hm ?_ hdb) hc
  refine PySem.W.method_cls I.kIn b.ga (PySem.W.cls_value I.kIn b.rd b.ini (by cases bk <;> decide +kernel) ?_)
  show wpAny _ _ (callWith pos (Value.builtin bk.it) [] (backTo pos (starEach (e :: es) X.env)) []) _ _ _
  refine PyProof.Rows.callWith_method1 (thn (ha.run pos pins _ σ H _ (I.tok _) h) fun us s1 ⟨vs, H1, I1, r1, a, C, ws, ev, hl, T, ea, q⟩ => ?_) he hpl
  subst ev
  cases r1 with
  | @cons _ u0 _ ur ra rw' =>
    obtain rfl : u0 = Value.ref a := ra
    have hlen : ur.length ≤ sizeLine := by
      rw [← Paired.length rw', sizeLine_eq]
      omega
    exact oinitT T I1 ea hlen fun s' J => ⟨.non, H1, J, rfl, q⟩
theorem ps_ostT (ho : PE X o to) (he : PE X e te) (hs : swapsWith e (some (.Attribute o f p')) pos.line X.env = pure false := by rfl) : PS X (.Assign [.Attribute o f p'] e pos) (tOsT bk X.K f to te) := by
  refine ⟨fun pins s σ H D I h => ?_⟩
  refine plainObj_wpAny_Assign_Attribute (thn (he.run pins s σ H _ I h) fun v s1 ⟨y, H1, I1, r1, q1⟩ => thn (ho.run pins s1 σ H1 _ I1 q1) fun u s2 ⟨x, H2, I2, r2, a, C, ex, T, hno, ea, q⟩ => ?_) hs
  subst ex
  obtain rfl : u = Value.ref a := r2
  exact ostT T I2 ea hno r1 fun dx s' n ne J => ⟨σ, _, J, q dx n ne⟩
theorem pmkT {CX : CXT} {x : Str} {C fI : Addr} {k : Nat} {fd : FuncData} {ps : List Str} {sp : Sp} {ds : List Value} {dvs : List V} (T : OexT bk X.K C) (iC : PySem.W.findIn X.K (.ref C) "__init__" = some (some (.ref fI))) (tI : PySem.W.typeIn X.K (.ref fI) = some (.type "function"))
    (F1 : FnOk X.prog X.w X.K X.mg X.base CX k fI fd ps sp) (hr : Room (k + 1) X.A) (hb : Binds X.K fd ps ds) (hd : Vals dvs ds) (hx : Passes CX X (fun _ _ _ => False)) (hg : Gl X x) (hm : X.mg x = some (.ref C)) (ha : PA X (e :: es) ta)
    (hdb : (x == ("__debug__" : Str)) = false := by decide) (he : starEach (e :: es) X.env = (false, eval e X.env) :: starEach es X.env := by rfl) (hpl : (backTo pos (starEach es X.env)).any (·.1) = false := by rfl) :
    PMk X (.Call (.Name x p) (e :: es) [] pos) (tMkO C sp dvs ta) := by
  intro pins s σ H Q I h
  obtain ⟨nm, q, N, bs, bm, sn, sub, ab, col, dd, k0, k1, k2, k3, k5, hC, hbm⟩ := T.cls
  refine wpAny_Call_Name_kw (ld_glob I hg hm ?_ hdb)
  refine PySem.W.callWith_K (h₀ := X.base) I.ok.mod.kin T.kC (thn (ha.run pos pins s σ H _ I h) fun us s1 ⟨vs, H1, I1, r1, hz, q1⟩ => ⟨I1.kIn, ?_⟩) he hpl
  show wpAny _ _ (call (.ref C) us) _ _ _
  obtain ⟨hp, g, dr, tk, os⟩ := s1
  have top : hp.objs.size ≤ hp.objs.size + 1 := Nat.le_succ _
  have hq := q1 _ (I1.hok.fresh top)
  have grow : ∀ b o, hp.get? b = some o → ((hp.push (PySem.W.kdv_tup us)).push (PySem.HandSPX.excO C hp.objs.size)).get? b = some o := fun b o e => Heap.get?_push_of_some _ (Heap.get?_push_of_some _ e)
  have made : ((hp.push (PySem.W.kdv_tup us)).push (PySem.HandSPX.excO C hp.objs.size)).get? (hp.objs.size + 1) = some (PySem.HandSPX.excO C hp.objs.size) := by heap_get
  have I2 := I1.laid (t' := tk) (a := hp.objs.size + 1) (o := exo (hp.objs.size + 1) C none) (h' := (hp.push (PySem.W.kdv_tup us)).push (PySem.HandSPX.excO C hp.objs.size)) grow top (exo_ok made)
  have r2 : Vals (V.ref (hp.objs.size + 1) :: (vs ++ dvs)) (Value.ref (hp.objs.size + 1) :: (us ++ ds)) := .cons rfl (r1.append hd)
  have hl : (Value.ref (hp.objs.size + 1) :: us ++ ds).length = ps.length := by
    have e := r2.length
    rw [F1.len _ _ _ _ hq] at e
    exact e.symm
  have hus : us.length ≤ sizeLine := by rw [← Paired.length r1, sizeLine_eq]; omega
  refine wpAny_call (PySem.HandSPX.call_own bk.base (fun Y => PySem.W.excTail_contains Y bm hbm) (I1.kIn _ _ hC) (PySem.W.looks_findIn I1.kIn iC) (fun self => PySem.W.bind_fn I1.kIn self tI) hus
    (codeAny_mono (F1.run _ X.stack _ _ ⟨Value.ref (hp.objs.size + 1) :: us, []⟩ (Value.ref (hp.objs.size + 1) :: (us ++ ds)) _ _ (fun _ _ _ => False) (hr.make C us []) (I2.env0.make C us []) (hb _ (Value.ref (hp.objs.size + 1) :: us) I2.kIn hl) r2 hq) fun r s' hq' => ?_))
  cases r with
  | error er => exact hx pins σ _ _ er s' I2 hq'
  | ok fl =>
    cases fl with
    | ret u =>
      obtain ⟨v, H2, os2, bare2, un2, hok2, rv, ev, d, fs, ea, ed, hd1, q2⟩ := hq'
      subst ev
      obtain ⟨h2, g2, d2, t2, os'⟩ := s'
      exact ⟨rv, mk_end (raises_own T.exC T.tyC) I1 top grow un2 hok2 os2 bare2 ea ed hd1 q2⟩
    | next => exact False.elim hq'
    | brk => exact False.elim hq'
    | cont => exact False.elim hq'
end
end DL

set_option Elab.async false
set_option linter.all false
set_option maxRecDepth 100000
set_option maxHeartbeats 2000000
/-! DL51: raise of such classes; C(e) as a value, for all three kinds. -/
namespace DL
open PySem PySem.Spec PyProof.Rows L2

def spT (b : Bk) (K : PySem.W.Frag) (f : Str) : Sp := fun vs H Q _ => ∃ (a C : Addr) (y : V), vs = [.ref a, y] ∧ OexT b K C ∧ PySem.W.findIn K (.ref C) f = some none ∧ H a = some (exo a C none) ∧
  ∀ dx, H dx = none → dx ≠ a → Q .non (upd (upd H dx (exd dx [(f, y)])) a (exo a C (some dx)))
structure ExcFT (b : Bk) (K : PySem.W.Frag) (mg : Str → Option Value) (Cn Bn f q : Str) (st : Stmt) (C B : Addr) : Prop where
  cls : mg Cn = some (.ref C)
  bas : mg Bn = some (.ref B)
  oex : OexT b K C
  bc : BaseT b K B
  nof : PySem.W.findIn K (.ref C) f = some none
  xf : XfC K C
  ini : ∃ (fI : Addr) (fd : FuncData), PySem.W.findIn K (.ref C) "__init__" = some (some (.ref fI)) ∧ PySem.W.typeIn K (.ref fI) = some (.type "function") ∧ FunD K "__init__" q (defArgs st) (defBody st) (defScope st) [] [] fI fd
theorem ini_runT {b : Bk} {K : PySem.W.Frag} {f x : Str} {vs : List V} {H : Hp} {Q : VK} {E : XK} (h : spT b K f vs H Q E) :
    tSeq (tDrop (tVeT b K (tCons (tVar 0) (tCons (tC (.str x)) tNil)))) (tOsT b K f (tVar 0) (tVar 1)) { nx := fun _ H' => Q .non H', rt := Q } (start ["self", f] vs) H := by
  obtain ⟨a, C, y, rfl, T, hno, ea, q⟩ := h
  refine ⟨.ref a, rfl, a, C, [.str x], rfl, Nat.le_of_ble_eq_true rfl, T, ea, ?_⟩
  exact ⟨y, rfl, .ref a, rfl, a, C, rfl, T, hno, ea, fun dx n ne => q dx n ne⟩
theorem exc_initT {b : Bk} {P : Program} {w : World} {K : PySem.W.Frag} {mg : Str → Option Value} {base : Heap} {q f x : Str} {st : Stmt} {fI : Addr} {fd : FuncData} (F : FunD K "__init__" q (defArgs st) (defBody st) (defScope st) [] [] fI fd) (S : FnScope ["self", f] ["self", f] (defScope st))
    (hb : ∀ (cdv : Value) (A : Around) (outer : List Env) (s : Shared) (H : Hp) (E : XK), PSs (cxOf C8.CX0 P w K mg base ["self", f] q (defScope st) fI cdv A outer s H E) (defBody st) (tSeq (tDrop (tVeT b K (tCons (tVar 0) (tCons (tC (.str x)) tNil)))) (tOsT b K f (tVar 0) (tVar 1)))) :
    FnOk P w K mg base C8.CX0 1 fI fd ["self", f] (spT b K f) :=
  F.ok S (fun vs H Q E h => by obtain ⟨a, C, y, rfl, _⟩ := h; rfl) fun cdv A outer s H vs Q E hr hsp => ⟨_, hb cdv A outer s H E, ini_runT hsp⟩
structure ExcUT (b : Bk) (P : Program) (w : World) (K : PySem.W.Frag) (mg : Str → Option Value) (base : Heap) (Cn f : Str) (C : Addr) : Prop where
  cls : mg Cn = some (.ref C)
  oex : OexT b K C
  nof : PySem.W.findIn K (.ref C) f = some none
  ini : ∃ (fI : Addr) (fd : FuncData), PySem.W.findIn K (.ref C) "__init__" = some (some (.ref fI)) ∧ PySem.W.typeIn K (.ref fI) = some (.type "function") ∧ FnOk P w K mg base C8.CX0 1 fI fd ["self", f] (spT b K f) ∧ Binds K fd ["self", f] []
def excFTB (b : Bk) (K : PySem.W.Frag) (C B : Addr) (f : Str) : Bool := oexTB b K C && (baseTB b K B && (decide (PySem.W.findIn K (.ref C) f = some none) && (xfB K C && (decide (PySem.W.findIn K (.ref C) "__init__" = some (some (.ref (He.ma K C "__init__")))) && decide (PySem.W.typeIn K (.ref (He.ma K C "__init__")) = some (.type "function"))))))
theorem excFTB_ok {b : Bk} {K : PySem.W.Frag} {mg : Str → Option Value} {Cn Bn f q : Str} {st : Stmt} {C B : Addr} {fd : FuncData} (c : excFTB b K C B f = true) (hC : mg Cn = some (.ref C)) (hB : mg Bn = some (.ref B))
    (F : FunD K "__init__" q (defArgs st) (defBody st) (defScope st) [] [] (He.ma K C "__init__") fd) : ExcFT b K mg Cn Bn f q st C B := by
  obtain ⟨c1, c⟩ := He.ba c
  obtain ⟨c2, c⟩ := He.ba c
  obtain ⟨c3, c⟩ := He.ba c
  obtain ⟨c4, c⟩ := He.ba c
  obtain ⟨c5, c6⟩ := He.ba c
  exact ⟨hC, hB, oexTB_ok c1, baseTB_ok c2, of_decide_eq_true c3, xfB_ok c4, _, fd, of_decide_eq_true c5, of_decide_eq_true c6, F⟩
/-- what C(e) leaves when it has only kept its field -/
def KeepsF (sp : Sp) (K : PySem.W.Frag) (f : Str) (C : Addr) : Prop := ∀ (a : Addr) (y : V) (H : Hp) (Q : VK), H a = some (exo a C none) →
  (∀ dx, H dx = none → dx ≠ a → Q .non (upd (upd H dx (exd dx [(f, y)])) a (exo a C (some dx)))) → sp [.ref a, y] H Q fun _ _ _ => False
theorem keeps_ve {K : PySem.W.Frag} {f : Str} {C : Addr} (T : OexC K C) (hno : PySem.W.findIn K (.ref C) f = some none) : KeepsF (spI K f) K f C := fun a y H Q e h => ⟨a, C, y, rfl, T, hno, e, h⟩
theorem keeps_t {b : Bk} {K : PySem.W.Frag} {f : Str} {C : Addr} (T : OexT b K C) (hno : PySem.W.findIn K (.ref C) f = some none) : KeepsF (spT b K f) K f C := fun a y H Q e h => ⟨a, C, y, rfl, T, hno, e, h⟩
theorem same_heap {H1 : Hp} {a C dx : Addr} {f : Str} {y : V} (ha : H1 a = none) (ne : dx ≠ a) :
    upd (del (upd (upd (upd H1 a (exo a C none)) dx (exd dx [(f, y)])) a (exo a C (some dx))) a) dx (.xd [(f, y)]) = upd H1 dx (.xd [(f, y)]) := by
  funext b
  by_cases hb : b = dx
  · subst hb; rw [upd_same, upd_same]
  · rw [upd_ne hb, upd_ne hb]
    by_cases hba : b = a
    · subst hba; rw [del_same, ha]
    · rw [del_ne hba, upd_ne hba, upd_ne hb, upd_ne hba]
section
variable {X : Cx} {cl : Cla} {Wx : L2.WX} {Cn Bn f : Str} {e : Expr} {fe : DE} {p pos pos' : Pos} {C B : Addr}
theorem t_raiseT {sp : Sp} {K : PySem.W.Frag} (kf : KeepsF sp K f C) (hcl : cl Cn = C) {D : Ends} {σ : L2.St} {H : Hp} (h : tS K cl Wx (sraise Cn f fe) D σ H) :
    tMkO C sp [] (tCons (tE K cl Wx fe) tNil) σ H fun cls d H' => Wx cls d σ H' := by
  obtain ⟨ι, S, sw, A, h⟩ := h
  refine ⟨ι, S, sw, A, Res.imp (Res.to (RA := RV K) A h) fun y H1 ⟨ι1, S1, w1, g1, r1, _, h1⟩ => ?_⟩
  refine ⟨Nat.le_of_ble_eq_true rfl, fun a ha => kf a y _ _ upd_same fun dx n ne => ⟨rfl, dx, [(f, y)], upd_same, ?_, ?_, ?_⟩⟩
  · rw [upd_ne ne, upd_same]
  · rw [upd_ne ne] at n; exact n
  · rw [upd_ne ne] at n
    rw [same_heap ha ne]
    have gD : Go K cl ι1 S1 H1 ι1 S1 (upd H1 dx (.xd [(f, y)])) := g1.rel.tuple n
    have := h1 ι1 σ dx [(f, y)] _ gD ((A.sl.go A.rel g1).go g1.rel gD) upd_same (.cons (k := f) (r1.go g1.rel gD) .nil) (fun i hi z => by
      obtain ⟨u, hu, _⟩ := g1.rel.at_ hi
      rw [← z, n] at hu; cases hu)
    rw [hcl] at this
    exact this
theorem z_raiseUT {b : Bk} {k : Nat} (U : ExcUT b X.prog X.w X.K X.mg X.base Cn f C) (hc : X.calm = true) (tk : Takes X Wx) (hcl : cl Cn = C) (hr : RoomG k X.A) (hk : 2 ≤ k) (he : PE X e (tE X.K cl Wx fe)) (hg : Gl X Cn) (hdb : (Cn == ("__debug__" : Str)) = false := by decide)
    (hs : starEach (e :: []) X.env = (false, eval e X.env) :: starEach [] X.env := by rfl) (hpl : (backTo pos (starEach [] X.env)).any (·.1) = false := by rfl) :
    PS X (.Raise (some (.Call (.Name Cn p) [e] [] pos)) none pos') (tS X.K cl Wx (sraise Cn f fe)) := by
  obtain ⟨fI, fd, h1, h2, F1, hb⟩ := U.ini
  exact (ps_raise hc tk (pmkT U.oex h1 h2 F1 (hr.room.mono hk) hb .nil pass0 hg U.cls (pa_cons he pa_nil hs) hdb hs hpl)).dimp fun D σ H h => t_raiseT (keeps_t U.oex U.nof) hcl h
/-! ### C(e) as a value -/
def dmk (C f : Str) (e : DE) : DE := fun sw S => (e sw S).bind fun w S1 => .ok (.ref S1.length) (S1 ++ [.exc C [(f, w)]])
theorem pe_mk {t : L2.St → Hp → XK → Prop} {C : Addr} (he : PMk X e t) : PE X e (fun σ H Q => t σ H fun cls d H' => cls = .ref C ∧ ∃ dx, d = some dx ∧ ∀ a, H' a = none → Q (.ref a) (upd H' a (XO a C dx))) := by
  refine ⟨fun pins s σ H Q I h => wpAny_mono (he pins s σ H _ I h) (fun u s1 hu => ?_) fun _ _ x => x⟩
  obtain ⟨a, oe, vs, sI, H', cls, d, rfl, J, k, hne, ha, hz, hd, h1, na, os, ag, r, rfl, dx, rfl, q⟩ := hu
  have new : ObjOk X.prog X.w (upd H' a (XO a C dx)) s1.heap a (XO a C dx) := ⟨⟨oe, vs, ha, hz.1, hz.2, hd⟩, ⟨_, ha⟩, fun h1 h2 z kk => by
    obtain ⟨oe', vs', e1, e2, e3, e4⟩ := z
    exact ⟨oe', vs', kk _ e1, e2, e3, e4⟩⟩
  have I2 : Inv X pins σ (upd H' a (XO a C dx)) s1 := J.call' (ch := []) os (Un.laidN k hne na) (J.hok.laidN k na new) ag (fun b z => absurd z (by simp))
  exact ⟨.ref a, _, I2, rfl, q a na⟩
theorem t_mk {sp : Sp} {K : PySem.W.Frag} (kf : KeepsF sp K f C) (hcl : cl Cn = C) {σ : L2.St} {H : Hp} {Q : VK} (h : tE K cl Wx (dmk Cn f fe) σ H Q) :
    tMkO C sp [] (tCons (tE K cl Wx fe) tNil) σ H fun cls d H' => cls = .ref C ∧ ∃ dx, d = some dx ∧ ∀ a, H' a = none → Q (.ref a) (upd H' a (XO a C dx)) := by
  obtain ⟨ι, S, sw, A, h⟩ := h
  refine ⟨ι, S, sw, A, Res.imp (Res.split (RA := RV K) h) fun y H1 ⟨ι1, S1, w1, g1, r1, _, h1⟩ => ?_⟩
  refine ⟨Nat.le_of_ble_eq_true rfl, fun a ha => kf a y _ _ upd_same fun dx n ne => ⟨rfl, dx, [(f, y)], upd_same, ?_, ?_, ?_⟩⟩
  · rw [upd_ne ne, upd_same]
  · rw [upd_ne ne] at n; exact n
  · rw [upd_ne ne] at n
    rw [same_heap ha ne]
    refine ⟨rfl, dx, rfl, fun a2 na2 => ?_⟩
    have gD : Go K cl ι1 S1 H1 ι1 S1 (upd H1 dx (.xd [(f, y)])) := g1.rel.tuple n
    have nd : a2 ≠ dx := fun z => by rw [z, upd_same] at na2; cases na2
    have ndx : ∀ i, i < S1.length → dx ≠ ι1 i := fun i hi z => by
      obtain ⟨u, hu, _⟩ := g1.rel.at_ hi
      rw [← z, n] at hu; cases hu
    have gA : Go K cl ι1 S1 (upd H1 dx (.xd [(f, y)])) (ins_ ι1 S1.length a2) (S1 ++ [.exc Cn [(f, w1)]]) (upd (upd H1 dx (.xd [(f, y)])) a2 (XO a2 C dx)) := gD.rel.alloc na2 ⟨dx, [(f, y)], by rw [upd_same, hcl], by rw [upd_ne (Ne.symm nd), upd_same], .cons (k := f) ((r1.go g1.rel gD).mono (Nat.le_succ _) (fun i hi => ins_lt hi) fun b u _ e => upd_keep na2 b u e) .nil, fun i hi z => by
      by_cases hi2 : i < S1.length
      · rw [ins_lt hi2] at z; exact ndx i hi2 z
      · have : i = S1.length := by omega
        subst this
        rw [ins_same] at z; exact nd z.symm⟩
    have hr : Rep K (ins_ ι1 S1.length a2) (S1 ++ [WO.exc Cn [(f, w1)]]).length (upd (upd H1 dx (.xd [(f, y)])) a2 (XO a2 C dx)) (.ref S1.length) (.ref a2) := by
      have : Rep K (ins_ ι1 S1.length a2) (S1 ++ [WO.exc Cn [(f, w1)]]).length (upd (upd H1 dx (.xd [(f, y)])) a2 (XO a2 C dx)) (.ref S1.length) (.ref (ins_ ι1 S1.length a2 S1.length)) := .ref (by simp)
      rwa [ins_same] at this
    exact h1 _ _ _ (gD.trans gA) hr
/-- C(e), C over ValueError -/
theorem d_mk {k : Nat} (U : ExcU X.prog X.w X.K X.mg X.base Cn f C) (hcl : cl Cn = C) (hr : RoomG k X.A) (hk : 2 ≤ k) (he : PE X e (tE X.K cl Wx fe)) (hg : Gl X Cn) (hdb : (Cn == ("__debug__" : Str)) = false := by decide)
    (hs : starEach (e :: []) X.env = (false, eval e X.env) :: starEach [] X.env := by rfl) (hpl : (backTo pos (starEach [] X.env)).any (·.1) = false := by rfl) :
    PE X (.Call (.Name Cn p) [e] [] pos) (tE X.K cl Wx (dmk Cn f fe)) := by
  obtain ⟨fI, fd, h1, h2, F1, hb⟩ := U.ini
  exact (pe_mk (pmk_oex U.oex h1 h2 F1 (hr.room.mono hk) hb .nil pass0 hg U.cls (pa_cons he pa_nil hs) hdb hs hpl)).dimp fun σ H Q h => t_mk (keeps_ve U.oex U.nof) hcl h
/-- C(e), C over RuntimeError or LookupError -/
theorem d_mkT {b : Bk} {k : Nat} (U : ExcUT b X.prog X.w X.K X.mg X.base Cn f C) (hcl : cl Cn = C) (hr : RoomG k X.A) (hk : 2 ≤ k) (he : PE X e (tE X.K cl Wx fe)) (hg : Gl X Cn) (hdb : (Cn == ("__debug__" : Str)) = false := by decide)
    (hs : starEach (e :: []) X.env = (false, eval e X.env) :: starEach [] X.env := by rfl) (hpl : (backTo pos (starEach [] X.env)).any (·.1) = false := by rfl) :
    PE X (.Call (.Name Cn p) [e] [] pos) (tE X.K cl Wx (dmk Cn f fe)) := by
  obtain ⟨fI, fd, h1, h2, F1, hb⟩ := U.ini
  exact (pe_mk (pmkT U.oex h1 h2 F1 (hr.room.mono hk) hb .nil pass0 hg U.cls (pa_cons he pa_nil hs) hdb hs hpl)).dimp fun σ H Q h => t_mk (keeps_t U.oex U.nof) hcl h
end
@[simp] theorem dmk_ap (C f : Str) (e : DE) (sw : SW) (S : Hs) : dmk C f e sw S = (e sw S).bind fun w S1 => .ok (.ref S1.length) (S1 ++ [.exc C [(f, w)]]) := Eq.trans rfl rfl
end DL

set_option Elab.async false
set_option linter.all false
set_option maxRecDepth 100000
/-! DL52: None in a dict; (a, b, ..) = a list. -/
namespace DL
open PySem PySem.Spec PyProof.Rows L2

def isDicW (S : Hs) : W → Bool
  | .ref i => match S[i]? with
    | some (.dic _) => true
    | _ => false
  | _ => false
/-- in, not in; None in a dict too -/
def inX (f : Bool → Bool) (x y : W) (S : Hs) : R W := if x = .non ∧ isDicW S y = true then .ok (.bl (f false)) S else inW f x y S
theorem dop_inXG {X : Cx} {op : CmpOp} {f : Bool → Bool}
    (hN : ∀ {pins : List (Addr × Obj)} {s : Shared} {σ : L2.St} {H : Hp} {a : Addr} {kvs : List (Key × V)} {Q E : Value → Shared → Prop}, Inv X pins σ H s → Rd H a (.dK kvs) → (∀ s', Inv X pins σ H s' → Q (.bool (f false)) s') → wpAny (model X.prog X.w) X.A (compareOp op .none (.ref a)) Q E s)
    (hd : DOp X (compareOp op) (inW f)) : DOp X (compareOp op) (inX f) := by
  intro pins s σ cl ι S H x y a b v u Q E I R rx ry ra rb h
  unfold inX at h
  split at h
  · rename_i hc
    obtain ⟨rfl, hy⟩ := hc
    cases y with
    | ref i =>
      have hy' : (match S[i]? with | some (.dic _) => true | _ => false) = true := hy
      split at hy'
      · rename_i kvs q
        obtain ⟨rfl, hn⟩ := ry.ref_inv
        obtain ⟨kv, h1, h2⟩ := R.obj _ _ q
        cases rx
        obtain rfl : v = Value.none := ra
        cases rb
        exact hN I (.inl h1) fun s' I' => ⟨.bl _, H, I', rfl, Res.ok h R (.bl _)⟩
      · cases hy'
    | _ => cases hy
  · exact hd pins s σ cl ι S H x y a b v u Q E I R rx ry ra rb h
theorem dop_inX {X : Cx} (hu : X.A.units + 65 < cLine) : DOp X (compareOp .In) (inX id) := dop_inXG (fun I e h => d_inNone I e h) (dop_in hu)
theorem dop_notinX {X : Cx} (hu : X.A.units + 65 < cLine) : DOp X (compareOp .NotIn) (inX not) := dop_inXG (fun I e h => d_notInNone I e h) (dop_notin hu)
/-! ### (a, b, ..) = a list -/
section
variable {prog : Program} {w : World} {A : Around} {E : Value → Shared → Prop}
theorem draw_lst {it t : Addr} {items : Array Value} (hne : t ≠ it) : ∀ (n i : Nat) (s : Shared) (Q : List Value → Shared → Prop), s.heap.IsListIter it t i → s.heap.IsList t items → i + n ≤ items.size →
    (∀ h', h'.IsListIter it t (i + n) → Heap.SameBut it s.heap h' → Q ((items.toList.drop i).take n) { s with heap := h' }) → wpAny (model prog w) A (draw (.ref it) n) Q E s
  | 0, i, s, Q, hit, _, _, hQ => by
    have := hQ s.heap hit (Heap.SameBut.refl ..)
    rw [List.take_zero] at this
    exact wpAny_pure this
  | n + 1, i, s, Q, hit, ht, hle, hQ => by
    have hi : i < items.size := by omega
    show wpAny _ _ (pyNext (.ref it) >>= _) Q E s
    refine wpAny_bind (wpAny_pyNext_list_item hit ht (x := items[i]) (by simp [hi]) fun h1 it1 s1 => ?_)
    refine wpAny_bind (wpAny_holding (draw_lst hne n (i + 1) _ _ it1 (ht.extBut s1.extBut hne) (by omega) fun h2 it2 s2 => wpAny_pure ?_))
    have q := hQ h2 (by rw [show i + (n + 1) = i + 1 + n by omega]; exact it2) (s1.trans s2)
    rw [show items.toList.drop i = items[i] :: items.toList.drop (i + 1) by simp [List.drop_eq_getElem_cons, hi], List.take_succ_cons] at q
    exact q
theorem unpack_lst {s : Shared} {t : Addr} {items : Array Value} {targets : List (Bool × (Value → Sem Unit))} {Q : Unit → Shared → Prop} (hh : A.handled = none) (ht : s.heap.IsList t items)
    (hn : targets.length = items.size) (hstar : targets.findIdx? (·.1) = none)
    (h : ∀ h', Heap.ExtBut s.heap.objs.size s.heap h' → wpAny (model prog w) A (assignInOrder (targets.map (·.2)) items.toList) Q E { s with heap := h' }) :
    wpAny (model prog w) A (unpack (.ref t) targets) Q E s := by
  have hlt : t ≠ s.heap.objs.size := by obtain ⟨o, ho, _⟩ := ht; exact Nat.ne_of_lt (Heap.lt_size ho)
  unfold unpack
  rw [hn, hstar]
  refine wpAny_bind (wpAny_holding ?_)
  unfold unpackItems notIterableAtAll
  refine wpAny_bind ?_
  refine wpAny_bind (wpAny_specialOf ht.typeIs PySem.F.slot_list_iter.lookup ?_)
  refine wpAny_pure ?_
  simp only [Bool.false_eq_true, if_false]
  refine wpAny_bind (wpAny_holding (wpAny_pyIter_list ht ?_))
  refine wpAny_bind (wpAny_holding (draw_lst hlt items.size 0 _ _ ⟨_, Heap.get?_push_size _ rfl, rfl, rfl⟩ (ht.push _) (by omega) fun h1 it1 s1 => ?_))
  rw [List.drop_zero, List.take_of_length_le (by simp), if_neg (by simp)]
  refine wpAny_bind (wpAny_holding (wpAny_pyNext_list_end hh it1 ((ht.push _).extBut s1.extBut hlt) (by simp) fun h2 e2 => ?_))
  simp only [Option.isSome_none, Bool.false_eq_true, if_false]
  exact wpAny_pure (h h2 fun b o hb e => e2 b o hb (s1.extBut b o hb (Heap.get?_push_of_some _ e)))
end
def gtupL (r : DGs) : DG := fun w sw S => match lstOf S w with
  | some ws => r ws sw S
  | none => .bad
theorem pg_tupL {X : Cx} {es : List Expr} {k : Nat} {t : TGs} {n : Nat} {pos : Pos} (hc : X.calm = true) (h : PGs X es t)
    (hn : (assignEach es X.env).length = n := by rfl) (hst : (assignEach es X.env).findIdx? (·.1) = none := by rfl) :
    PG X (.Tuple es k pos) (fun v σ H Q => ∃ a xs, v = .ref a ∧ SqL X.K H a xs ∧ xs.length = n ∧ t xs σ H Q) := by
  refine ⟨fun pins s σ H v u Q I r hw => ?_⟩
  obtain ⟨a, xs, e1, hq, hl, hw⟩ := hw
  subst e1
  cases r
  obtain ⟨its, rv, pl, hz⟩ := I.list hq
  rw [assign_Tuple]
  refine wpAny_bind (wpAny_standAt (unpack_lst (I.ok.hd hc) pl.isList (by simp [hn, ← hl, rv.length]) hst fun h' hx => ?_))
  have I1 : Inv X pins σ H { s with heap := h' } := I.kept (t' := s.toks) fun b o e => hx b o (Nat.ne_of_lt (Heap.lt_size e)) e
  exact h.run pins _ σ H xs _ Q I1 (by simpa using rv) hw
theorem x_tupL {X : Cx} {cl : Cla} {P : SPr} {pos : Pos} {es : List Expr} {gs : DGs} {k n : Nat} (hc : X.calm = true) (h : PGs X es (tGs X.K cl P gs)) (hl : ∀ ws sw S sw' S', gs ws sw S = .ok sw' S' → ws.length = n) (hn : (assignEach es X.env).length = n := by rfl) (hst : (assignEach es X.env).findIdx? (·.1) = none := by rfl) :
    PG X (.Tuple es k pos) (tG X.K cl P (gtupL gs)) := (pg_tupL hc h hn hst).dimp fun v σ H Q h => by
  obtain ⟨ι, S, sw, w, A, r, h⟩ := h
  cases e : lstOf S w with
  | none =>
    have h' : match (match lstOf S w with | some ws => gs ws sw S | none => R.bad) with
      | .ok sw' S' => ∀ (ι' : Nat → Addr) (σ' : L2.St) (H' : Hp), Go X.K cl ι S H ι' S' H' → Slots X.K ι' S'.length H' sw' σ' → P.rel σ σ' → Q σ' H'
      | _ => False := h
    rw [e] at h'
    exact h'.elim
  | some ws =>
    have h' : match (match lstOf S w with | some ws => gs ws sw S | none => R.bad) with
      | .ok sw' S' => ∀ (ι' : Nat → Addr) (σ' : L2.St) (H' : Hp), Go X.K cl ι S H ι' S' H' → Slots X.K ι' S'.length H' sw' σ' → P.rel σ σ' → Q σ' H'
      | _ => False := h
    rw [e] at h'
    simp only at h'
    obtain ⟨l, us, rfl, h1, r1⟩ := lstOf_at A.rel r e
    have hlen : us.length = n := by
      cases q : gs ws sw S with
      | ok sw' S' => rw [← r1.length]; exact hl _ _ _ _ _ q
      | exc _ _ _ => rw [q] at h'; exact h'.elim
      | bad => rw [q] at h'; exact h'.elim
    exact ⟨l, us, rfl, h1.sq, hlen, ι, S, sw, ws, A, r1, h'⟩
@[simp] theorem gtupL_ap (r : DGs) (w : W) (sw : SW) (S : Hs) : gtupL r w sw S = match lstOf S w with
  | some ws => r ws sw S
  | none => .bad := Eq.trans rfl rfl
end DL

set_option Elab.async false
set_option linter.all false
set_option maxRecDepth 100000
/-! D_k08: what the defs of the law k08 do, printed by gen.py. -/
namespace K08
open PySem PySem.Spec PyProof.Rows L2 DL


def isa_InvalidRun : Str → Option Bool := fun C => if C = "InvalidSelection" then some false else if C = "InvalidRun" then some true else if C = "InvalidLabel" then some false else if C = "InvalidForest" then some false else if C = "InvalidOrder" then some false else if C = "InvalidTable" then some false else if C = "InvalidPrices" then some false else if C = "InvalidNumbers" then some false else if C = "TooLarge" then some false else if C = "InvalidEdit" then some false else if C = "InvalidRank" then some false else if C = "InvalidText" then some false else if C = "NotChild" then some false else if C = "NotRoot" then some false else if C = "Unreachable" then some false else if C = "NothingRemains" then some false else if C = "NotRemovable" then some false else if C = "NotClearing" then some false else if C = "WouldLoop" then some false else if C = "NothingToUndo" then some false else none
def isa_InvalidLabel : Str → Option Bool := fun C => if C = "InvalidSelection" then some false else if C = "InvalidRun" then some false else if C = "InvalidLabel" then some true else if C = "InvalidForest" then some false else if C = "InvalidOrder" then some false else if C = "InvalidTable" then some false else if C = "InvalidPrices" then some false else if C = "InvalidNumbers" then some false else if C = "TooLarge" then some false else if C = "InvalidEdit" then some false else if C = "InvalidRank" then some false else if C = "InvalidText" then some false else if C = "NotChild" then some false else if C = "NotRoot" then some false else if C = "Unreachable" then some false else if C = "NothingRemains" then some false else if C = "NotRemovable" then some false else if C = "NotClearing" then some false else if C = "WouldLoop" then some false else if C = "NothingToUndo" then some false else none
def isa_InvalidForest : Str → Option Bool := fun C => if C = "InvalidSelection" then some false else if C = "InvalidRun" then some false else if C = "InvalidLabel" then some false else if C = "InvalidForest" then some true else if C = "InvalidOrder" then some false else if C = "InvalidTable" then some false else if C = "InvalidPrices" then some false else if C = "InvalidNumbers" then some false else if C = "TooLarge" then some false else if C = "InvalidEdit" then some false else if C = "InvalidRank" then some false else if C = "InvalidText" then some false else if C = "NotChild" then some false else if C = "NotRoot" then some false else if C = "Unreachable" then some false else if C = "NothingRemains" then some false else if C = "NotRemovable" then some false else if C = "NotClearing" then some false else if C = "WouldLoop" then some false else if C = "NothingToUndo" then some false else none
def isa_InvalidNumbers : Str → Option Bool := fun C => if C = "InvalidSelection" then some false else if C = "InvalidRun" then some false else if C = "InvalidLabel" then some false else if C = "InvalidForest" then some false else if C = "InvalidOrder" then some false else if C = "InvalidTable" then some false else if C = "InvalidPrices" then some false else if C = "InvalidNumbers" then some true else if C = "TooLarge" then some false else if C = "InvalidEdit" then some false else if C = "InvalidRank" then some false else if C = "InvalidText" then some false else if C = "NotChild" then some false else if C = "NotRoot" then some false else if C = "Unreachable" then some false else if C = "NothingRemains" then some false else if C = "NotRemovable" then some false else if C = "NotClearing" then some false else if C = "WouldLoop" then some false else if C = "NothingToUndo" then some false else none
def isa_InvalidSelection : Str → Option Bool := fun C => if C = "InvalidSelection" then some true else if C = "InvalidRun" then some false else if C = "InvalidLabel" then some false else if C = "InvalidForest" then some false else if C = "InvalidOrder" then some false else if C = "InvalidTable" then some false else if C = "InvalidPrices" then some false else if C = "InvalidNumbers" then some false else if C = "TooLarge" then some false else if C = "InvalidEdit" then some false else if C = "InvalidRank" then some false else if C = "InvalidText" then some false else if C = "NotChild" then some false else if C = "NotRoot" then some false else if C = "Unreachable" then some false else if C = "NothingRemains" then some false else if C = "NotRemovable" then some false else if C = "NotClearing" then some false else if C = "WouldLoop" then some false else if C = "NothingToUndo" then some false else none
def isa_InvalidOrder : Str → Option Bool := fun C => if C = "InvalidSelection" then some false else if C = "InvalidRun" then some false else if C = "InvalidLabel" then some false else if C = "InvalidForest" then some false else if C = "InvalidOrder" then some true else if C = "InvalidTable" then some false else if C = "InvalidPrices" then some false else if C = "InvalidNumbers" then some false else if C = "TooLarge" then some false else if C = "InvalidEdit" then some false else if C = "InvalidRank" then some false else if C = "InvalidText" then some false else if C = "NotChild" then some false else if C = "NotRoot" then some false else if C = "Unreachable" then some false else if C = "NothingRemains" then some false else if C = "NotRemovable" then some false else if C = "NotClearing" then some false else if C = "WouldLoop" then some false else if C = "NothingToUndo" then some false else none
def isa_InvalidTable : Str → Option Bool := fun C => if C = "InvalidSelection" then some false else if C = "InvalidRun" then some false else if C = "InvalidLabel" then some false else if C = "InvalidForest" then some false else if C = "InvalidOrder" then some false else if C = "InvalidTable" then some true else if C = "InvalidPrices" then some false else if C = "InvalidNumbers" then some false else if C = "TooLarge" then some false else if C = "InvalidEdit" then some false else if C = "InvalidRank" then some false else if C = "InvalidText" then some false else if C = "NotChild" then some false else if C = "NotRoot" then some false else if C = "Unreachable" then some false else if C = "NothingRemains" then some false else if C = "NotRemovable" then some false else if C = "NotClearing" then some false else if C = "WouldLoop" then some false else if C = "NothingToUndo" then some false else none
def isa_InvalidPrices : Str → Option Bool := fun C => if C = "InvalidSelection" then some false else if C = "InvalidRun" then some false else if C = "InvalidLabel" then some false else if C = "InvalidForest" then some false else if C = "InvalidOrder" then some false else if C = "InvalidTable" then some false else if C = "InvalidPrices" then some true else if C = "InvalidNumbers" then some false else if C = "TooLarge" then some false else if C = "InvalidEdit" then some false else if C = "InvalidRank" then some false else if C = "InvalidText" then some false else if C = "NotChild" then some false else if C = "NotRoot" then some false else if C = "Unreachable" then some false else if C = "NothingRemains" then some false else if C = "NotRemovable" then some false else if C = "NotClearing" then some false else if C = "WouldLoop" then some false else if C = "NothingToUndo" then some false else none
def isa_InvalidEdit : Str → Option Bool := fun C => if C = "InvalidSelection" then some false else if C = "InvalidRun" then some false else if C = "InvalidLabel" then some false else if C = "InvalidForest" then some false else if C = "InvalidOrder" then some false else if C = "InvalidTable" then some false else if C = "InvalidPrices" then some false else if C = "InvalidNumbers" then some false else if C = "TooLarge" then some false else if C = "InvalidEdit" then some true else if C = "InvalidRank" then some false else if C = "InvalidText" then some false else if C = "NotChild" then some false else if C = "NotRoot" then some false else if C = "Unreachable" then some false else if C = "NothingRemains" then some false else if C = "NotRemovable" then some false else if C = "NotClearing" then some false else if C = "WouldLoop" then some false else if C = "NothingToUndo" then some false else none
def isa_InvalidRank : Str → Option Bool := fun C => if C = "InvalidSelection" then some false else if C = "InvalidRun" then some false else if C = "InvalidLabel" then some false else if C = "InvalidForest" then some false else if C = "InvalidOrder" then some false else if C = "InvalidTable" then some false else if C = "InvalidPrices" then some false else if C = "InvalidNumbers" then some false else if C = "TooLarge" then some false else if C = "InvalidEdit" then some false else if C = "InvalidRank" then some true else if C = "InvalidText" then some false else if C = "NotChild" then some false else if C = "NotRoot" then some false else if C = "Unreachable" then some false else if C = "NothingRemains" then some false else if C = "NotRemovable" then some false else if C = "NotClearing" then some false else if C = "WouldLoop" then some false else if C = "NothingToUndo" then some false else none
def isa_InvalidText : Str → Option Bool := fun C => if C = "InvalidSelection" then some false else if C = "InvalidRun" then some false else if C = "InvalidLabel" then some false else if C = "InvalidForest" then some false else if C = "InvalidOrder" then some false else if C = "InvalidTable" then some false else if C = "InvalidPrices" then some false else if C = "InvalidNumbers" then some false else if C = "TooLarge" then some false else if C = "InvalidEdit" then some false else if C = "InvalidRank" then some false else if C = "InvalidText" then some true else if C = "NotChild" then some false else if C = "NotRoot" then some false else if C = "Unreachable" then some false else if C = "NothingRemains" then some false else if C = "NotRemovable" then some false else if C = "NotClearing" then some false else if C = "WouldLoop" then some false else if C = "NothingToUndo" then some false else none
def isa_NothingRemains : Str → Option Bool := fun C => if C = "InvalidSelection" then some false else if C = "InvalidRun" then some false else if C = "InvalidLabel" then some false else if C = "InvalidForest" then some false else if C = "InvalidOrder" then some false else if C = "InvalidTable" then some false else if C = "InvalidPrices" then some false else if C = "InvalidNumbers" then some false else if C = "TooLarge" then some false else if C = "InvalidEdit" then some false else if C = "InvalidRank" then some false else if C = "InvalidText" then some false else if C = "NotChild" then some false else if C = "NotRoot" then some false else if C = "Unreachable" then some false else if C = "NothingRemains" then some true else if C = "NotRemovable" then some false else if C = "NotClearing" then some false else if C = "WouldLoop" then some false else if C = "NothingToUndo" then some false else none
def isa_NotRemovable : Str → Option Bool := fun C => if C = "InvalidSelection" then some false else if C = "InvalidRun" then some false else if C = "InvalidLabel" then some false else if C = "InvalidForest" then some false else if C = "InvalidOrder" then some false else if C = "InvalidTable" then some false else if C = "InvalidPrices" then some false else if C = "InvalidNumbers" then some false else if C = "TooLarge" then some false else if C = "InvalidEdit" then some false else if C = "InvalidRank" then some false else if C = "InvalidText" then some false else if C = "NotChild" then some false else if C = "NotRoot" then some false else if C = "Unreachable" then some false else if C = "NothingRemains" then some false else if C = "NotRemovable" then some true else if C = "NotClearing" then some false else if C = "WouldLoop" then some false else if C = "NothingToUndo" then some false else none
def isa_TooLarge : Str → Option Bool := fun C => if C = "InvalidSelection" then some false else if C = "InvalidRun" then some false else if C = "InvalidLabel" then some false else if C = "InvalidForest" then some false else if C = "InvalidOrder" then some false else if C = "InvalidTable" then some false else if C = "InvalidPrices" then some false else if C = "InvalidNumbers" then some false else if C = "TooLarge" then some true else if C = "InvalidEdit" then some false else if C = "InvalidRank" then some false else if C = "InvalidText" then some false else if C = "NotChild" then some false else if C = "NotRoot" then some false else if C = "Unreachable" then some false else if C = "NothingRemains" then some false else if C = "NotRemovable" then some false else if C = "NotClearing" then some false else if C = "WouldLoop" then some false else if C = "NothingToUndo" then some false else none
def isa_NotChild : Str → Option Bool := fun C => if C = "InvalidSelection" then some false else if C = "InvalidRun" then some false else if C = "InvalidLabel" then some false else if C = "InvalidForest" then some false else if C = "InvalidOrder" then some false else if C = "InvalidTable" then some false else if C = "InvalidPrices" then some false else if C = "InvalidNumbers" then some false else if C = "TooLarge" then some false else if C = "InvalidEdit" then some false else if C = "InvalidRank" then some false else if C = "InvalidText" then some false else if C = "NotChild" then some true else if C = "NotRoot" then some false else if C = "Unreachable" then some false else if C = "NothingRemains" then some false else if C = "NotRemovable" then some false else if C = "NotClearing" then some false else if C = "WouldLoop" then some false else if C = "NothingToUndo" then some false else none
def isa_NotRoot : Str → Option Bool := fun C => if C = "InvalidSelection" then some false else if C = "InvalidRun" then some false else if C = "InvalidLabel" then some false else if C = "InvalidForest" then some false else if C = "InvalidOrder" then some false else if C = "InvalidTable" then some false else if C = "InvalidPrices" then some false else if C = "InvalidNumbers" then some false else if C = "TooLarge" then some false else if C = "InvalidEdit" then some false else if C = "InvalidRank" then some false else if C = "InvalidText" then some false else if C = "NotChild" then some false else if C = "NotRoot" then some true else if C = "Unreachable" then some false else if C = "NothingRemains" then some false else if C = "NotRemovable" then some false else if C = "NotClearing" then some false else if C = "WouldLoop" then some false else if C = "NothingToUndo" then some false else none
def isa_Unreachable : Str → Option Bool := fun C => if C = "InvalidSelection" then some false else if C = "InvalidRun" then some false else if C = "InvalidLabel" then some false else if C = "InvalidForest" then some false else if C = "InvalidOrder" then some false else if C = "InvalidTable" then some false else if C = "InvalidPrices" then some false else if C = "InvalidNumbers" then some false else if C = "TooLarge" then some false else if C = "InvalidEdit" then some false else if C = "InvalidRank" then some false else if C = "InvalidText" then some false else if C = "NotChild" then some false else if C = "NotRoot" then some false else if C = "Unreachable" then some true else if C = "NothingRemains" then some false else if C = "NotRemovable" then some false else if C = "NotClearing" then some false else if C = "WouldLoop" then some false else if C = "NothingToUndo" then some false else none
def isa_NothingToUndo : Str → Option Bool := fun C => if C = "InvalidSelection" then some false else if C = "InvalidRun" then some false else if C = "InvalidLabel" then some false else if C = "InvalidForest" then some false else if C = "InvalidOrder" then some false else if C = "InvalidTable" then some false else if C = "InvalidPrices" then some false else if C = "InvalidNumbers" then some false else if C = "TooLarge" then some false else if C = "InvalidEdit" then some false else if C = "InvalidRank" then some false else if C = "InvalidText" then some false else if C = "NotChild" then some false else if C = "NotRoot" then some false else if C = "Unreachable" then some false else if C = "NothingRemains" then some false else if C = "NotRemovable" then some false else if C = "NotClearing" then some false else if C = "WouldLoop" then some false else if C = "NothingToUndo" then some true else none
def isa_NotClearing : Str → Option Bool := fun C => if C = "InvalidSelection" then some false else if C = "InvalidRun" then some false else if C = "InvalidLabel" then some false else if C = "InvalidForest" then some false else if C = "InvalidOrder" then some false else if C = "InvalidTable" then some false else if C = "InvalidPrices" then some false else if C = "InvalidNumbers" then some false else if C = "TooLarge" then some false else if C = "InvalidEdit" then some false else if C = "InvalidRank" then some false else if C = "InvalidText" then some false else if C = "NotChild" then some false else if C = "NotRoot" then some false else if C = "Unreachable" then some false else if C = "NothingRemains" then some false else if C = "NotRemovable" then some false else if C = "NotClearing" then some true else if C = "WouldLoop" then some false else if C = "NothingToUndo" then some false else none
def isa_WouldLoop : Str → Option Bool := fun C => if C = "InvalidSelection" then some false else if C = "InvalidRun" then some false else if C = "InvalidLabel" then some false else if C = "InvalidForest" then some false else if C = "InvalidOrder" then some false else if C = "InvalidTable" then some false else if C = "InvalidPrices" then some false else if C = "InvalidNumbers" then some false else if C = "TooLarge" then some false else if C = "InvalidEdit" then some false else if C = "InvalidRank" then some false else if C = "InvalidText" then some false else if C = "NotChild" then some false else if C = "NotRoot" then some false else if C = "Unreachable" then some false else if C = "NothingRemains" then some false else if C = "NotRemovable" then some false else if C = "NotClearing" then some false else if C = "WouldLoop" then some true else if C = "NothingToUndo" then some false else none
def isa_DialLookupError : Str → Option Bool := fun C => if C = "InvalidSelection" then some false else if C = "InvalidRun" then some false else if C = "InvalidLabel" then some false else if C = "InvalidForest" then some false else if C = "InvalidOrder" then some false else if C = "InvalidTable" then some false else if C = "InvalidPrices" then some false else if C = "InvalidNumbers" then some false else if C = "TooLarge" then some false else if C = "InvalidEdit" then some false else if C = "InvalidRank" then some false else if C = "InvalidText" then some false else if C = "NotChild" then some false else if C = "NotRoot" then some false else if C = "Unreachable" then some false else if C = "NothingRemains" then some false else if C = "NotRemovable" then some false else if C = "NotClearing" then some false else if C = "WouldLoop" then some false else if C = "NothingToUndo" then some true else none
def isa_DialStateError : Str → Option Bool := fun C => if C = "InvalidSelection" then some false else if C = "InvalidRun" then some false else if C = "InvalidLabel" then some false else if C = "InvalidForest" then some false else if C = "InvalidOrder" then some false else if C = "InvalidTable" then some false else if C = "InvalidPrices" then some false else if C = "InvalidNumbers" then some false else if C = "TooLarge" then some false else if C = "InvalidEdit" then some false else if C = "InvalidRank" then some false else if C = "InvalidText" then some false else if C = "NotChild" then some true else if C = "NotRoot" then some true else if C = "Unreachable" then some true else if C = "NothingRemains" then some true else if C = "NotRemovable" then some true else if C = "NotClearing" then some true else if C = "WouldLoop" then some true else if C = "NothingToUndo" then some false else none
def isa_DialError : Str → Option Bool := fun C => if C = "InvalidSelection" then some true else if C = "InvalidRun" then some true else if C = "InvalidLabel" then some true else if C = "InvalidForest" then some true else if C = "InvalidOrder" then some true else if C = "InvalidTable" then some true else if C = "InvalidPrices" then some true else if C = "InvalidNumbers" then some true else if C = "TooLarge" then some true else if C = "InvalidEdit" then some true else if C = "InvalidRank" then some true else if C = "InvalidText" then some true else if C = "NotChild" then some false else if C = "NotRoot" then some false else if C = "Unreachable" then some false else if C = "NothingRemains" then some false else if C = "NotRemovable" then some false else if C = "NotClearing" then some false else if C = "WouldLoop" then some false else if C = "NothingToUndo" then some false else none
def isa_LookupError : Str → Option Bool := fun C => if C = "InvalidSelection" then some false else if C = "InvalidRun" then some false else if C = "InvalidLabel" then some false else if C = "InvalidForest" then some false else if C = "InvalidOrder" then some false else if C = "InvalidTable" then some false else if C = "InvalidPrices" then some false else if C = "InvalidNumbers" then some false else if C = "TooLarge" then some false else if C = "InvalidEdit" then some false else if C = "InvalidRank" then some false else if C = "InvalidText" then some false else if C = "NotChild" then some false else if C = "NotRoot" then some false else if C = "Unreachable" then some false else if C = "NothingRemains" then some false else if C = "NotRemovable" then some false else if C = "NotClearing" then some false else if C = "WouldLoop" then some false else if C = "NothingToUndo" then some true else none
def isa_RuntimeError : Str → Option Bool := fun C => if C = "InvalidSelection" then some false else if C = "InvalidRun" then some false else if C = "InvalidLabel" then some false else if C = "InvalidForest" then some false else if C = "InvalidOrder" then some false else if C = "InvalidTable" then some false else if C = "InvalidPrices" then some false else if C = "InvalidNumbers" then some false else if C = "TooLarge" then some false else if C = "InvalidEdit" then some false else if C = "InvalidRank" then some false else if C = "InvalidText" then some false else if C = "NotChild" then some true else if C = "NotRoot" then some true else if C = "Unreachable" then some true else if C = "NothingRemains" then some true else if C = "NotRemovable" then some true else if C = "NotClearing" then some true else if C = "WouldLoop" then some true else if C = "NothingToUndo" then some false else none
def isa_ValueError : Str → Option Bool := fun C => if C = "InvalidSelection" then some true else if C = "InvalidRun" then some true else if C = "InvalidLabel" then some true else if C = "InvalidForest" then some true else if C = "InvalidOrder" then some true else if C = "InvalidTable" then some true else if C = "InvalidPrices" then some true else if C = "InvalidNumbers" then some true else if C = "TooLarge" then some true else if C = "InvalidEdit" then some true else if C = "InvalidRank" then some true else if C = "InvalidText" then some true else if C = "NotChild" then some false else if C = "NotRoot" then some false else if C = "Unreachable" then some false else if C = "NothingRemains" then some false else if C = "NotRemovable" then some false else if C = "NotClearing" then some false else if C = "WouldLoop" then some false else if C = "NothingToUndo" then some false else none
def isf_path : Str → Bool := fun C => if C = "InvalidForest" then true else if C = "InvalidPrices" then true else if C = "InvalidNumbers" then true else if C = "InvalidEdit" then true else false
def isf_name : Str → Bool := fun C => if C = "InvalidSelection" then true else false
def isf_position : Str → Bool := fun C => if C = "InvalidRun" then true else false
def isf_label : Str → Bool := fun C => if C = "InvalidLabel" then true else if C = "InvalidTable" then true else if C = "NotChild" then true else if C = "NotRoot" then true else if C = "NotRemovable" then true else if C = "WouldLoop" then true else false
def isf_limit : Str → Bool := fun C => if C = "TooLarge" then true else false
def isf_rank : Str → Bool := fun C => if C = "InvalidRank" then true else false
def isf_line : Str → Bool := fun C => if C = "InvalidText" then true else false
def isf_order : Str → Bool := fun C => if C = "InvalidOrder" then true else false
def isf_reason : Str → Bool := fun C => if C = "Unreachable" then true else false
def isf_length : Str → Bool := fun C => if C = "NothingRemains" then true else if C = "NotClearing" then true else false
def isf_action : Str → Bool := fun C => if C = "NothingToUndo" then true else false
def dfl_law_source : List W := []
def b_law_source : DS := (sret (ddisp [((dcon (.str "cells")), (dbin addW (dvar 0) (dlst (dcons (dcB lenW (dcons (dvar 0) dnil)) dnil)))), ((dcon (.str "next")), (dcon (.int 0))), ((dcon (.str "rest")), (dcon (.int 0))), ((dcon (.str "count")), (dcon (.int 0)))]))
/-- _law_source(script); slots script -/
def den_law_source : DF := defD 1 b_law_source
def dfl_law_draw : List W := []
def b_law_draw : DS := (sseq (sif (dtst (dbin eqW (dbin getW (dvar 0) (dcon (.str "rest"))) (dcon (.int 0)))) (sseq (sasg (dbin getW (dbin getW (dvar 0) (dcon (.str "cells"))) (dbin modW (dbin getW (dvar 0) (dcon (.str "next"))) (dcB lenW (dcons (dbin getW (dvar 0) (dcon (.str "cells"))) dnil)))) (gname 2))
  (sseq (sasg (dbin addW (dbin getW (dvar 0) (dcon (.str "next"))) (dcon (.int 1))) (gsub (dvar 0) (dcon (.str "next"))))
  (sif (dandT (dtst (dbin geW (dvar 2) (dbin powW (dcon (.int 10)) (dcon (.int 18))))) (dtst (dbin leW (dbin getW (dvar 0) (dcon (.str "next"))) (dcB lenW (dcons (dbin getW (dvar 0) (dcon (.str "cells"))) dnil))))) (sasg (dvar 2) (gsub (dvar 0) (dcon (.str "rest")))) (sseq (sasg (dbin addW (dbin getW (dvar 0) (dcon (.str "count"))) (dcon (.int 1))) (gname 3))
  (sseq (sasg (dvar 3) (gsub (dvar 0) (dcon (.str "count"))))
  (sseq (sasg (dbin modW (dbin mulW (dbin addW (dbin modW (dvar 2) (dcon (.int 2147483629))) (dbin mulW (dcon (.int 7919)) (dvar 3))) (dbin addW (dbin mulW (dvar 3) (dvar 3)) (dcon (.int 48271)))) (dcon (.int 2147483647))) (gname 4))
  (sseq (sasg (dbin mulW (dbin modW (dbin mulW (dvar 4) (dcon (.int 16777619))) (dcon (.int 2147483563))) (dcon (.int 2147483647))) (gsub (dvar 0) (dcon (.str "rest"))))
  (sasg (dbin addW (dbin addW (dbin getW (dvar 0) (dcon (.str "rest"))) (dbin modW (dbin mulW (dvar 4) (dvar 4)) (dcon (.int 2147483587)))) (dcon (.int 1))) (gsub (dvar 0) (dcon (.str "rest"))))))))))) snil)
  (sseq (sasg (dbin modW (dbin getW (dvar 0) (dcon (.str "rest"))) (dvar 1)) (gname 5))
  (sseq (sasg (dbin divW (dbin getW (dvar 0) (dcon (.str "rest"))) (dvar 1)) (gsub (dvar 0) (dcon (.str "rest"))))
  (sret (dvar 5)))))
/-- _law_draw(source, limit); slots source, limit, cell, count, mixed, drawn -/
def den_law_draw : DF := defD 6 b_law_draw
def dfl_law_pick : List W := []
def b_law_pick : DS := (sret (dbin getW (dvar 1) (dcallK 2 0 [0, 1] (sel [] dfl_law_draw) den_law_draw (dcons (dvar 0) (dcons (dcB lenW (dcons (dvar 1) dnil)) dnil)) dnil)))
/-- _law_pick(source, items); slots source, items -/
def den_law_pick : DF := defD 2 b_law_pick
def dfl_law_arguments : List W := []
def b_law_arguments : DS := (sseq (sasg (dlst (dcons (dmk "InvalidForest" "path" (dvar 0)) (dcons (dmk "InvalidLabel" "label" (dvar 0)) (dcons (dmk "InvalidRun" "position" (dvar 0)) (dcons (dmk "InvalidSelection" "name" (dvar 0)) dnil))))) (gname 1))
  (sseq (sasg (dbin addW (dvar 1) (dlst (dcons (dmk "InvalidNumbers" "path" (dvar 0)) (dcons (dmk "InvalidPrices" "path" (dvar 0)) (dcons (dmk "InvalidTable" "label" (dvar 0)) (dcons (dmk "InvalidOrder" "order" (dvar 0)) dnil)))))) (gname 1))
  (sseq (sasg (dbin addW (dvar 1) (dlst (dcons (dmk "InvalidText" "line" (dvar 0)) (dcons (dmk "InvalidRank" "rank" (dvar 0)) (dcons (dmk "InvalidEdit" "path" (dvar 0)) (dcons (dmk "TooLarge" "limit" (dvar 0)) dnil)))))) (gname 1))
  (sseq (sasg (dlst (dcons (dun (fldX isf_path "path") (dbin getW (dvar 1) (dcon (.int 0)))) (dcons (dun (fldX isf_label "label") (dbin getW (dvar 1) (dcon (.int 1)))) (dcons (dun (fldX isf_position "position") (dbin getW (dvar 1) (dcon (.int 2)))) (dcons (dun (fldX isf_name "name") (dbin getW (dvar 1) (dcon (.int 3)))) (dcons (dun (fldX isf_path "path") (dbin getW (dvar 1) (dcon (.int 4)))) (dcons (dun (fldX isf_path "path") (dbin getW (dvar 1) (dcon (.int 5)))) dnil))))))) (gname 2))
  (sseq (sasg (dbin addW (dvar 2) (dlst (dcons (dun (fldX isf_label "label") (dbin getW (dvar 1) (dcon (.int 6)))) (dcons (dun (fldX isf_order "order") (dbin getW (dvar 1) (dcon (.int 7)))) (dcons (dun (fldX isf_line "line") (dbin getW (dvar 1) (dcon (.int 8)))) (dcons (dun (fldX isf_rank "rank") (dbin getW (dvar 1) (dcon (.int 9)))) (dcons (dun (fldX isf_path "path") (dbin getW (dvar 1) (dcon (.int 10)))) (dcons (dun (fldX isf_limit "limit") (dbin getW (dvar 1) (dcon (.int 11)))) dnil)))))))) (gname 2))
  (sret (dlst (dcons (dvar 1) (dcons (dvar 2) dnil)))))))))
/-- _law_arguments(field); slots field, found, stored -/
def den_law_arguments : DF := defD 3 b_law_arguments
def dfl_law_states : List W := []
def b_law_states : DS := (sseq (sasg (dlst (dcons (dmk "NotRemovable" "label" (dvar 0)) (dcons (dmk "NothingRemains" "length" (dvar 0)) (dcons (dmk "Unreachable" "reason" (dvar 0)) (dcons (dmk "NotRoot" "label" (dvar 0)) (dcons (dmk "NotChild" "label" (dvar 0)) dnil)))))) (gname 1))
  (sseq (sasg (dbin addW (dvar 1) (dlst (dcons (dmk "WouldLoop" "label" (dvar 0)) (dcons (dmk "NotClearing" "length" (dvar 0)) dnil)))) (gname 1))
  (sseq (sasg (dlst (dcons (dun (fldX isf_label "label") (dbin getW (dvar 1) (dcon (.int 0)))) (dcons (dun (fldX isf_length "length") (dbin getW (dvar 1) (dcon (.int 1)))) (dcons (dun (fldX isf_reason "reason") (dbin getW (dvar 1) (dcon (.int 2)))) (dcons (dun (fldX isf_label "label") (dbin getW (dvar 1) (dcon (.int 3)))) (dcons (dun (fldX isf_label "label") (dbin getW (dvar 1) (dcon (.int 4)))) (dcons (dun (fldX isf_label "label") (dbin getW (dvar 1) (dcon (.int 5)))) dnil))))))) (gname 2))
  (sret (dlst (dcons (dvar 1) (dcons (dbin addW (dvar 2) (dlst (dcons (dun (fldX isf_length "length") (dbin getW (dvar 1) (dcon (.int 6)))) dnil))) dnil)))))))
/-- _law_states(field); slots field, found, stored -/
def den_law_states : DF := defD 3 b_law_states
def dfl_law_kinds : List W := []
def b_law_kinds : DS := (sseq (sasg (dlst (dcons (dun (isiE isa_InvalidForest) (dvar 0)) (dcons (dun (isiE isa_InvalidLabel) (dvar 0)) (dcons (dun (isiE isa_InvalidRun) (dvar 0)) dnil)))) (gname 1))
  (sseq (sasg (dbin addW (dvar 1) (dlst (dcons (dun (isiE isa_InvalidSelection) (dvar 0)) (dcons (dun (isiE isa_InvalidNumbers) (dvar 0)) dnil)))) (gname 1))
  (sseq (sasg (dbin addW (dvar 1) (dlst (dcons (dun (isiE isa_InvalidPrices) (dvar 0)) (dcons (dun (isiE isa_InvalidTable) (dvar 0)) (dcons (dun (isiE isa_InvalidOrder) (dvar 0)) dnil))))) (gname 1))
  (sseq (sasg (dbin addW (dvar 1) (dlst (dcons (dun (isiE isa_InvalidText) (dvar 0)) (dcons (dun (isiE isa_InvalidRank) (dvar 0)) (dcons (dun (isiE isa_InvalidEdit) (dvar 0)) dnil))))) (gname 1))
  (sseq (sasg (dbin addW (dvar 1) (dlst (dcons (dun (isiE isa_TooLarge) (dvar 0)) (dcons (dun (isiE isa_NotRemovable) (dvar 0)) (dcons (dun (isiE isa_NothingRemains) (dvar 0)) dnil))))) (gname 1))
  (sseq (sasg (dbin addW (dvar 1) (dlst (dcons (dun (isiE isa_Unreachable) (dvar 0)) (dcons (dun (isiE isa_NotRoot) (dvar 0)) (dcons (dun (isiE isa_NotChild) (dvar 0)) dnil))))) (gname 1))
  (sseq (sasg (dbin addW (dvar 1) (dlst (dcons (dun (isiE isa_WouldLoop) (dvar 0)) (dcons (dun (isiE isa_NotClearing) (dvar 0)) (dcons (dun (isiE isa_NothingToUndo) (dvar 0)) dnil))))) (gname 1))
  (sret (dvar 1)))))))))
/-- _law_kinds(error); slots error, found -/
def den_law_kinds : DF := defD 2 b_law_kinds
def dfl_law_bases : List W := []
def b_law_bases : DS := (sseq (sasg (dlst (dcons (dun (isiE isa_DialError) (dvar 0)) (dcons (dun (isiE isa_DialStateError) (dvar 0)) (dcons (dun (isiE isa_DialLookupError) (dvar 0)) dnil)))) (gname 1))
  (sret (dbin addW (dvar 1) (dlst (dcons (dun (isiE isa_ValueError) (dvar 0)) (dcons (dun (isiE isa_RuntimeError) (dvar 0)) (dcons (dun (isiE isa_LookupError) (dvar 0)) dnil)))))))
/-- _law_bases(error); slots error, found -/
def den_law_bases : DF := defD 2 b_law_bases
def dfl_law_all_right : List W := []
def i_law_all_right_1 : DI := (diargs itRange1 (dcons (dcon (.int 3)) dnil))
def g_law_all_right_1 : DG := (gname 5)
def e_law_all_right_1 : DE := (dbin eqW (dvar 5) (dvar 2))
def i_law_all_right_2 : DI := (diseq (dvar 0))
def g_law_all_right_2 : DG := (gname 6)
def e_law_all_right_2 : DE := (dvar 6)
def t_law_all_right_1 : DT := (dtst (dbin neW (dcallK 1 0 [0] (sel [] dfl_law_bases) den_law_bases (dcons (dvar 6) dnil) dnil) (dbin addW (dvar 4) (dvar 4))))
def t_law_all_right_2 : DT := (dtst (dbin neW (dmeth "list" countD (dcallK 1 0 [0] (sel [] dfl_law_kinds) den_law_kinds (dcons (dvar 6) dnil) dnil) (dcons (dcon (.bl true)) dnil)) (dcon (.int 1))))
def b_law_all_right : DS := (sseq (sif (dtst (dbin neW (dcB reprW (dcons (dvar 1) dnil)) (dcB reprW (dcons (dbin mulW (dlst (dcons (dvar 3) dnil)) (dcB lenW (dcons (dvar 0) dnil))) dnil)))) (sret (dcon (.bl false))) snil)
  (sseq (sasg (dlc [5] i_law_all_right_1 g_law_all_right_1 dyes e_law_all_right_1) (gname 4))
  (sseq (sif (dtst (dbin neW (dlc [6] i_law_all_right_2 g_law_all_right_2 t_law_all_right_1 e_law_all_right_2) (dlst dnil))) (sret (dcon (.bl false))) snil)
  (sret (dbin eqW (dlc [6] i_law_all_right_2 g_law_all_right_2 t_law_all_right_2 e_law_all_right_2) (dlst dnil))))))
/-- _law_all_right(errors, stored, first, field); slots errors, stored, first, field, due, k, error -/
def den_law_all_right : DF := defD 7 b_law_all_right
def dfl_law : List W := []
def l_law_1 : DS := (sseq (sasg (dcallK 2 0 [0, 1] (sel [] dfl_law_pick) den_law_pick (dcons (dvar 1) (dcons (dlst (dcons (dtup dnil) (dcons (dtup (dcons (dcon (.int 3)) dnil)) (dcons (dtup (dcons (dcon (.int 1)) (dcons (dcon (.str "up")) dnil))) (dcons (dcon (.int 0)) (dcons (dun negW (dcon (.int 1))) (dcons (dcon (.int 61)) (dcons (dcon (.str "both")) (dcons (dcon .non) (dcons (dcon (.str "selection")) (dcons (dtup (dcons (dcon (.int 0)) (dcons (dcon (.int 1)) (dcons (dcon (.int 2)) dnil)))) (dcons (dcon (.bl true)) (dcons (dlst dnil) dnil))))))))))))) dnil)) dnil) (gname 3))
  (sseq (sasg (dcallK 1 0 [0] (sel [] dfl_law_arguments) den_law_arguments (dcons (dvar 3) dnil) dnil) (gtupL (ggcons (gname 4) (ggcons (gname 5) ggnil))))
  (sseq (sif (dnotT (dtru (dcallK 4 0 [0, 1, 2, 3] (sel [] dfl_law_all_right) den_law_all_right (dcons (dvar 4) (dcons (dvar 5) (dcons (dcon (.int 0)) (dcons (dvar 3) dnil)))) dnil))) (sret (dcon (.bl false))) snil)
  (sseq (sasg (dcallK 1 0 [0] (sel [] dfl_law_states) den_law_states (dcons (dvar 3) dnil) dnil) (gtupL (ggcons (gname 4) (ggcons (gname 5) ggnil))))
  (sseq (sif (dnotT (dtru (dcallK 4 0 [0, 1, 2, 3] (sel [] dfl_law_all_right) den_law_all_right (dcons (dvar 4) (dcons (dvar 5) (dcons (dcon (.int 1)) (dcons (dvar 3) dnil)))) dnil))) (sret (dcon (.bl false))) snil)
  (sseq (sasg (dmk "NothingToUndo" "action" (dvar 3)) (gname 6))
  (sif (dnotT (dtru (dcallK 4 0 [0, 1, 2, 3] (sel [] dfl_law_all_right) den_law_all_right (dcons (dlst (dcons (dvar 6) dnil)) (dcons (dlst (dcons (dun (fldX isf_action "action") (dvar 6)) dnil)) (dcons (dcon (.int 2)) (dcons (dvar 3) dnil)))) dnil))) (sret (dcon (.bl false))) snil)))))))
def i_law_1 : DI := (diargs itRange1 (dcons (dcon (.int 3)) dnil))
def g_law_1 : DG := (gname 2)
def b_law : DS := (sseq (sasg (dcallK 1 0 [0] (sel [] dfl_law_source) den_law_source (dcons (dvar 0) dnil) dnil) (gname 1))
  (sseq (sfor i_law_1 g_law_1 l_law_1)
  (sret (dcon (.bl true)))))
/-- law(script); slots script, source, turn, field, errors, stored, last -/
def den_law : DF := defD 7 b_law
end K08

set_option Elab.async false
set_option linter.all false
set_option maxRecDepth 100000
/-! P1: is_integer, are_allowed, wrong_field, ends_at_root, wrong_place, validate at a valid forest. -/
namespace K08
open PySem DL

/-- ascending numbers below size -/
def Asc (l : List Int) (size : Int) : Prop := l ≠ [] ∧ (∀ x ∈ l, 0 ≤ x ∧ x ≤ size - 1) ∧ l.Pairwise (· < ·) ∧ l.length ≤ 1000
theorem map_filter_true {α β : Type} (f : α → β) (l : List α) : (l.filter fun _ => true).map f = l.map f := by rw [List.filter_eq_self.mpr fun _ _ => rfl]
/-- a node -/
structure Nd where
  size : Int
  shown : Int
  allowed : List Int
  weight : Int
  parent : Option Int
  down : Int
  up : Int
def parW : Option Int → W
  | none => .non
  | some p => .int p
def nodeW (n : Nd) : W := .tup [.int n.size, .int n.shown, .tup (n.allowed.map .int), .int n.weight, parW n.parent, .int n.down, .int n.up]
def forestW (F : List Nd) : W := .tup (F.map nodeW)
/-- its fields are right -/
structure FieldsOk (many i : Nat) (n : Nd) : Prop where
  s1 : 2 ≤ n.size
  s2 : n.size ≤ 12
  h1 : 0 ≤ n.shown
  h2 : n.shown ≤ n.size - 1
  al : Asc n.allowed n.size
  w1 : -1000000000000 ≤ n.weight
  w2 : n.weight ≤ 1000000000000
  root : n.parent = none → n.down = 0 ∧ n.up = 0
  kid : ∀ p, n.parent = some p → 0 ≤ p ∧ p ≤ (many : Int) - 1 ∧ p ≠ i ∧ 0 ≤ n.down ∧ n.down ≤ n.size - 1 ∧ 0 ≤ n.up ∧ n.up ≤ 11
/-- a root is met within so many steps -/
def endsIn (F : List Nd) : Nat → Nat → Bool
  | 0, _ => false
  | k + 1, i => match F[i]? with
    | some n => (match n.parent with
      | none => true
      | some p => endsIn F k p.toNat)
    | none => false
/-- every parent is a label -/
def ParOk (F : List Nd) : Prop := ∀ (i : Nat) (n : Nd) (p : Int), F[i]? = some n → n.parent = some p → 0 ≤ p ∧ p < F.length
theorem node4 (n : Nd) (S : Hs) : getW (nodeW n) (.int 4) S = .ok (parW n.parent) S := rfl
theorem node0 (n : Nd) (S : Hs) : getW (nodeW n) (.int 0) S = .ok (.int n.size) S := rfl
theorem forest_get {F : List Nd} {i : Nat} {n : Nd} (h : F[i]? = some n) (S : Hs) : getW (forestW F) (.int i) S = .ok (nodeW n) S := getW_tup (by rw [List.getElem?_map, h]; rfl)
/-- a valid forest -/
structure Valid (F : List Nd) : Prop where
  n1 : 1 ≤ F.length
  n2 : F.length ≤ 60
  fo : ∀ (i : Nat) (n : Nd), F[i]? = some n → FieldsOk F.length i n
  ends : ∀ i, i < F.length → endsIn F F.length i = true
  ups : ∀ (i : Nat) (n m : Nd) (p : Int), F[i]? = some n → n.parent = some p → F[p.toNat]? = some m → n.up < m.size
theorem Valid.par {F : List Nd} (h : Valid F) : ParOk F := fun i n p e q => by
  obtain ⟨h1, h2, _⟩ := (h.fo i n e).kid p q
  exact ⟨h1, by omega⟩
theorem mapIdx_at {F : List Nd} {i : Nat} {w : W} (e : ((F.map nodeW).mapIdx fun i x => W.tup [.int (i : Nat), x])[i]? = some w) : ∃ n, F[i]? = some n ∧ w = .tup [.int i, nodeW n] := by
  rw [List.getElem?_mapIdx, List.getElem?_map] at e
  cases q : F[i]? with
  | none => rw [q] at e; cases e
  | some n => rw [q] at e; exact ⟨n, rfl, by cases e; rfl⟩
def Slots8 (F : List Nd) (sw : SW) : Prop := ∃ a b c d e f g : Option W, sw = [some (forestW F), a, b, c, d, e, f, g]
theorem len_forest (F : List Nd) (S : Hs) : lenW [forestW F] S = .ok (.int F.length) S := by simp [forestW, lenW]
theorem len_node (n : Nd) (S : Hs) : lenW [nodeW n] S = .ok (.int 7) S := by simp [nodeW, lenW]
theorem isi_node (n : Nd) (T : String) (S : Hs) : isiW T (nodeW n) S = .ok (.bl (isTy "tuple" T)) S := rfl
theorem rgW_at {n i : Nat} {w : W} (e : (rgW 0 n)[i]? = some w) : i < n ∧ w = .int i := by
  unfold rgW at e
  rw [List.getElem?_map] at e
  obtain ⟨k, hk, rfl⟩ := Option.map_eq_some_iff.mp e
  obtain ⟨hk1, hk2⟩ := List.getElem?_eq_some_iff.mp hk
  rw [List.getElem_range] at hk2
  subst hk2
  rw [List.length_range] at hk1
  exact ⟨hk1, by rw [Int.zero_add]⟩
theorem geW_int (i j : Int) (S : Hs) : geW (.int i) (.int j) S = .ok (.bl (decide (j ≤ i))) S := rfl
end K08

set_option Elab.async false
set_option linter.all false
set_option maxRecDepth 100000
/-! S1: the source of draws. -/
namespace K08
open PySem DL

structure Sc where
  n0 : Int
  cells : List Int
  next : Nat
  rest : Int
  count : Nat
/-- at most m mixed draws so far -/
structure Sc.ok (s : Sc) (m : Nat) : Prop where
  ne : s.cells ≠ []
  len : s.cells.length ≤ 1000
  r0 : 0 ≤ s.rest
  c : s.count ≤ m
def srcH (s : Sc) : Hs := [.dic [(.inr "cells", .ref 2), (.inr "next", .int s.next), (.inr "rest", .int s.rest), (.inr "count", .int s.count)], .lst [.int s.n0], .lst (s.cells.map .int)]
theorem Sc.ok.mono {s : Sc} {m n : Nat} (h : s.ok m) (q : m ≤ n) : s.ok n := ⟨h.ne, h.len, h.r0, Nat.le_trans h.c q⟩
theorem k_cn : Str.ofString "cells" ≠ Str.ofString "next" := by decide
theorem k_cr : Str.ofString "cells" ≠ Str.ofString "rest" := by decide
theorem k_cc : Str.ofString "cells" ≠ Str.ofString "count" := by decide
theorem k_nr : Str.ofString "next" ≠ Str.ofString "rest" := by decide
theorem k_nc : Str.ofString "next" ≠ Str.ofString "count" := by decide
theorem k_rc : Str.ofString "rest" ≠ Str.ofString "count" := by decide
theorem s_len (s : Sc) (B : Hs) : (srcH s ++ B).length = B.length + 3 := by rw [List.length_append]; show 3 + B.length = _; omega
theorem s_get0 (s : Sc) (B : Hs) : (srcH s ++ B)[0]? = some (.dic [(.inr "cells", .ref 2), (.inr "next", .int s.next), (.inr "rest", .int s.rest), (.inr "count", .int s.count)]) := rfl
theorem s_get2 (s : Sc) (B : Hs) : (srcH s ++ B)[2]? = some (.lst (s.cells.map .int)) := rfl
theorem s_cells (s : Sc) (B : Hs) : getW (.ref 0) (.str "cells") (srcH s ++ B) = .ok (.ref 2) (srcH s ++ B) := by
  show itemK [(.inr "cells", .ref 2), (.inr "next", .int s.next), (.inr "rest", .int s.rest), (.inr "count", .int s.count)] (.str "cells") _ = _
  simp [itemK, keyW, atK]
theorem s_next (s : Sc) (B : Hs) : getW (.ref 0) (.str "next") (srcH s ++ B) = .ok (.int s.next) (srcH s ++ B) := by
  show itemK [(.inr "cells", .ref 2), (.inr "next", .int s.next), (.inr "rest", .int s.rest), (.inr "count", .int s.count)] (.str "next") _ = _
  simp [itemK, keyW, atK, k_cn]
theorem s_rest (s : Sc) (B : Hs) : getW (.ref 0) (.str "rest") (srcH s ++ B) = .ok (.int s.rest) (srcH s ++ B) := by
  show itemK [(.inr "cells", .ref 2), (.inr "next", .int s.next), (.inr "rest", .int s.rest), (.inr "count", .int s.count)] (.str "rest") _ = _
  simp [itemK, keyW, atK, k_cr, k_nr]
theorem s_count (s : Sc) (B : Hs) : getW (.ref 0) (.str "count") (srcH s ++ B) = .ok (.int s.count) (srcH s ++ B) := by
  show itemK [(.inr "cells", .ref 2), (.inr "next", .int s.next), (.inr "rest", .int s.rest), (.inr "count", .int s.count)] (.str "count") _ = _
  simp [itemK, keyW, atK, k_cc, k_nc, k_rc]
theorem s_put {s : Sc} {B : Hs} {w : W} {x : Str} {kvs : List (L2.Key × W)} (e : putW ([(.inr "cells", .ref 2), (.inr "next", .int s.next), (.inr "rest", .int s.rest), (.inr "count", .int s.count)] : List (L2.Key × W)) (.inr x) w = kvs) : setW (.ref 0) (.str x) w (srcH s ++ B) = some ((srcH s ++ B).set 0 (.dic kvs)) := by
  show (match keyW (.str x) with | some k => if 4 < sizeLine then some ((srcH s ++ B).set 0 (.dic (putW ([(.inr "cells", .ref 2), (.inr "next", .int s.next), (.inr "rest", .int s.rest), (.inr "count", .int s.count)] : List (L2.Key × W)) k w))) else none | none => none) = _
  have hz : 4 < sizeLine := by rw [sizeLine_eq]; decide
  simp only [keyW, if_pos hz, e]
theorem s_setN (s : Sc) (B : Hs) (n : Nat) : setW (.ref 0) (.str "next") (.int n) (srcH s ++ B) = some (srcH { s with next := n } ++ B) := by
  rw [s_put (kvs := [(.inr "cells", .ref 2), (.inr "next", .int n), (.inr "rest", .int s.rest), (.inr "count", .int s.count)]) (by simp [putW, k_cn, k_nr, k_nc, k_nr.symm, k_nc.symm])]
  rfl
theorem s_setR (s : Sc) (B : Hs) (n : Int) : setW (.ref 0) (.str "rest") (.int n) (srcH s ++ B) = some (srcH { s with rest := n } ++ B) := by
  rw [s_put (kvs := [(.inr "cells", .ref 2), (.inr "next", .int s.next), (.inr "rest", .int n), (.inr "count", .int s.count)]) (by simp [putW, k_cr, k_nr, k_rc, k_rc.symm])]
  rfl
theorem s_setC (s : Sc) (B : Hs) (n : Nat) : setW (.ref 0) (.str "count") (.int n) (srcH s ++ B) = some (srcH { s with count := n } ++ B) := by
  rw [s_put (kvs := [(.inr "cells", .ref 2), (.inr "next", .int s.next), (.inr "rest", .int s.rest), (.inr "count", .int n)]) (by simp [putW, k_cc, k_nc, k_rc])]
  rfl
theorem ints_refs (n : Nat) : ∀ l : List Int, refsIn n (l.map W.int) = true
  | [] => rfl
  | x :: r => by rw [List.map_cons, refsIn, ints_refs n r]; rfl
theorem s_pre (s s' : Sc) (B G : Hs) : okPre (srcH s ++ B) (srcH s' ++ B ++ G) = true := by
  unfold okPre
  rw [List.all_eq_true]
  intro i hi
  rw [List.mem_range, s_len] at hi
  rw [Bool.or_eq_true]
  by_cases h : i < 3
  · right
    have hl : (srcH s ++ B).length = B.length + 3 := s_len s B
    rw [List.append_assoc]
    match i, h with
    | 0, _ => show refsIn _ [W.ref 2, W.int _, W.int _, W.int _] = true; simp [refsIn, refIn, hl]
    | 1, _ => show refsIn _ [W.int _] = true; simp [refsIn, refIn]
    | 2, _ => exact ints_refs _ _
  · left
    obtain ⟨j, rfl⟩ : ∃ j, i = 3 + j := ⟨i - 3, by omega⟩
    have h1 := get_app (srcH s') (B ++ G) j
    have h2 := get_app (srcH s) B j
    have hl : ∀ s : Sc, (srcH s).length = 3 := fun _ => rfl
    rw [hl] at h1 h2
    rw [List.append_assoc, h1, h2, List.getElem?_append_left (by omega)]
    exact decide_eq_true rfl
theorem s_trim {s s' : Sc} {B G : Hs} {w : W} (h : pureW w = true) : trimR (srcH s ++ B) (.ok w (srcH s' ++ B ++ G)) = .ok w (srcH s' ++ B) := by
  show (if refIn _ w = true ∧ okPre _ _ = true then R.ok w ((srcH s' ++ B ++ G).take (srcH s ++ B).length) else _) = _
  rw [if_pos ⟨pure_refIn _ w h, s_pre s s' B G⟩]
  congr 1
  rw [s_len, ← s_len s', List.take_left]
theorem s_rt {n : Nat} {f : DS} {ws : List W} {s s' : Sc} {B G : Hs} {w : W} (h : f (ws.map some ++ List.replicate (n - ws.length) none) (srcH s ++ B) = .rt w (srcH s' ++ B ++ G)) (hw : pureW w = true) : defD n f ws (srcH s ++ B) = .ok w (srcH s' ++ B) := by rw [defD_rt h, s_trim hw]
theorem log_small {i : Int} (h : i.natAbs < 2 ^ 100) : i.natAbs.log2 < 100 := by
  by_cases e : i.natAbs = 0
  · rw [e]; decide
  · exact (Nat.log2_lt e).mpr h
theorem mul_ok {i j : Int} (hi : i.natAbs < 1000000000000000000000000000000) (hj : j.natAbs < 1000000000000000000000000000000) (S : Hs) : mulW (.int i) (.int j) S = .ok (.int (i * j)) S := by
  have h1 := log_small (i := i) (by omega)
  have h2 := log_small (i := j) (by omega)
  show (if i.natAbs.log2 + j.natAbs.log2 < 1000000 then R.ok (W.int (i * j)) S else .bad) = _
  rw [if_pos (by omega)]
theorem len_lst {S : Hs} {n : Nat} {ws : List W} {k : Nat} (h : S[n]? = some (.lst ws)) (hk : ws.length = k) : lenW [.ref n] S = .ok (.int k) S := by
  subst hk
  simp only [lenW, lstOf_at_ h]
/-! ### a draw -/
theorem mod_pos (a b : Int) (hb : 0 < b) (S : Hs) : modW (.int a) (.int b) S = .ok (.int (a % b)) S := by
  simp only [modW, intOp]
  rw [if_pos (decide_eq_true hb)]
theorem addI (a b : Int) (S : Hs) : addW (.int a) (.int b) S = .ok (.int (a + b)) S := rfl
theorem call1 {i : Nat} {w : W} {sw : SW} {S : Hs} {g : DF} {ds : List W} (h : sw[i]? = some (some w)) : dcallK 1 0 [0] (sel [] ds) g (dcons (dvar i) dnil) dnil sw S = g [w] S := by
  simp [h, sel]
theorem call2 {i j : Nat} {w u : W} {sw : SW} {S : Hs} {g : DF} {ds : List W} (h : sw[i]? = some (some w)) (h2 : sw[j]? = some (some u)) : dcallK 2 0 [0, 1] (sel [] ds) g (dcons (dvar i) (dcons (dvar j) dnil)) dnil sw S = g [w, u] S := by
  simp [h, h2, sel]
theorem call3 {i j k : Nat} {w u v : W} {sw : SW} {S : Hs} {g : DF} {ds : List W} (h : sw[i]? = some (some w)) (h2 : sw[j]? = some (some u)) (h3 : sw[k]? = some (some v)) : dcallK 3 0 [0, 1, 2] (sel [] ds) g (dcons (dvar i) (dcons (dvar j) (dcons (dvar k) dnil))) dnil sw S = g [w, u, v] S := by
  simp [h, h2, h3, sel]
/-- a call whose second argument is computed -/
theorem callE {i : Nat} {w u : W} {e : DE} {sw : SW} {S S1 : Hs} {g : DF} {ds : List W} (h : sw[i]? = some (some w)) (he : e sw S = .ok u S1) : dcallK 2 0 [0, 1] (sel [] ds) g (dcons (dvar i) (dcons e dnil)) dnil sw S = g [w, u] S1 := by
  simp [h, he, sel]
theorem source_ok (ns : List Int) (h : ns.length ≤ 63) : den_law_source [.fro (ns.map .int)] [] = .ok (.ref 0) (srcH ⟨ns.length, ns ++ [(ns.length : Int)], 0, 0, 0⟩) := by
  have hz : sizeLine = 16777216 := sizeLine_eq
  have hz1 : 1 ≤ sizeLine := by rw [hz]; decide
  have ln : ∀ S, lenW [.fro (ns.map .int)] S = .ok (.int ns.length) S := fun S => by simp [lenW]
  have ad : addW (.fro (ns.map .int)) (.ref 1) [.dic [], .lst [.int ns.length]] = .ok (.ref 2) [.dic [], .lst [.int ns.length], .lst ((ns ++ [(ns.length : Int)]).map .int)] := by
    unfold addW
    simp only [lstOf_fro, lstOf_at_ (S := [WO.dic [], .lst [.int ns.length]]) (n := 1) rfl]
    rw [if_pos (by simp; omega)]
    simp
  have hb : b_law_source [some (.fro (ns.map W.int))] [] = .rt (.ref 0) (srcH ⟨ns.length, ns ++ [(ns.length : Int)], 0, 0, 0⟩) := by
    unfold b_law_source
    rw [sret_ap]
    unfold ddisp dpairs
    simp [dpairs, ln, ad, keyedW, keyW, mergeW, putW, srcH, k_cn, k_cr, k_cc, k_nr, k_nc, k_rc, hz1]
  exact defD_rtR hb (Nat.zero_le _)
def drI : DS := (sif (dandT (dtst (dbin geW (dvar 2) (dbin powW (dcon (.int 10)) (dcon (.int 18))))) (dtst (dbin leW (dbin getW (dvar 0) (dcon (.str "next"))) (dcB lenW (dcons (dbin getW (dvar 0) (dcon (.str "cells"))) dnil))))) (sasg (dvar 2) (gsub (dvar 0) (dcon (.str "rest")))) (sseq (sasg (dbin addW (dbin getW (dvar 0) (dcon (.str "count"))) (dcon (.int 1))) (gname 3))
  (sseq (sasg (dvar 3) (gsub (dvar 0) (dcon (.str "count"))))
  (sseq (sasg (dbin modW (dbin mulW (dbin addW (dbin modW (dvar 2) (dcon (.int 2147483629))) (dbin mulW (dcon (.int 7919)) (dvar 3))) (dbin addW (dbin mulW (dvar 3) (dvar 3)) (dcon (.int 48271)))) (dcon (.int 2147483647))) (gname 4))
  (sseq (sasg (dbin mulW (dbin modW (dbin mulW (dvar 4) (dcon (.int 16777619))) (dcon (.int 2147483563))) (dcon (.int 2147483647))) (gsub (dvar 0) (dcon (.str "rest"))))
  (sasg (dbin addW (dbin addW (dbin getW (dvar 0) (dcon (.str "rest"))) (dbin modW (dbin mulW (dvar 4) (dvar 4)) (dcon (.int 2147483587)))) (dcon (.int 1))) (gsub (dvar 0) (dcon (.str "rest")))))))))
def drO : DS := (sif (dtst (dbin eqW (dbin getW (dvar 0) (dcon (.str "rest"))) (dcon (.int 0)))) (sseq (sasg (dbin getW (dbin getW (dvar 0) (dcon (.str "cells"))) (dbin modW (dbin getW (dvar 0) (dcon (.str "next"))) (dcB lenW (dcons (dbin getW (dvar 0) (dcon (.str "cells"))) dnil)))) (gname 2))
  (sseq (sasg (dbin addW (dbin getW (dvar 0) (dcon (.str "next"))) (dcon (.int 1))) (gsub (dvar 0) (dcon (.str "next"))))
  drI)) snil)
/-- a fresh rest -/
theorem draw_if {s : Sc} {m : Nat} (hs : s.ok m) (hm : m < 1000000000) (B : Hs) (lim : Int) : ∃ (s' : Sc) (x2 x3 x4 : Option W), s'.ok (m + 1) ∧ drO [some (.ref 0), some (.int lim), none, none, none, none] (srcH s ++ B) = .nx [some (.ref 0), some (.int lim), x2, x3, x4, none] (srcH s' ++ B) := by
  have eq0 : ∀ (i : Int) S, eqW (.int i) (.int 0) S = .ok (.bl (i == 0)) S := fun i S => by unfold eqW; rw [eqD_int]
  have hsr := s_rest s B
  cases q0 : (s.rest == 0) with
  | false =>
    refine ⟨s, none, none, none, hs.mono (by omega), ?_⟩
    unfold drO
    rw [sif_ap, dtst_ap, dbin_ap, dbin_ap, dvar_ap]
    simp only [List.getElem?_cons_zero, R.bind_ok, dcon_ap, hsr, eq0, q0, R.to_ok, Bool.false_eq_true, if_false, snil_ap]
  | true =>
    have hl0 : 0 < s.cells.length := List.length_pos_iff.mpr hs.ne
    have hk : s.next % s.cells.length < s.cells.length := Nat.mod_lt _ hl0
    have hc : s.cells[s.next % s.cells.length]? = some s.cells[s.next % s.cells.length] := List.getElem?_eq_getElem hk
    generalize s.cells[s.next % s.cells.length] = cell at hc
    have ln : ∀ s' : Sc, s'.cells = s.cells → lenW [.ref 2] (srcH s' ++ B) = .ok (.int s.cells.length) (srcH s' ++ B) := fun s' e => len_lst (s_get2 s' B) (by rw [e, List.length_map])
    have md : ∀ S, modW (.int (s.next : Int)) (.int (s.cells.length : Int)) S = .ok (.int ((s.next % s.cells.length : Nat) : Int)) S := fun S => by
      rw [mod_pos _ _ (by omega)]; rfl
    have gc : getW (.ref 2) (.int ((s.next % s.cells.length : Nat) : Int)) (srcH s ++ B) = .ok (.int cell) (srcH s ++ B) := getW_lst (s_get2 s B) (by rw [List.getElem?_map, hc]; rfl)
    have hp : ∀ S, powW (.int 10) (.int 18) S = .ok (.int 1000000000000000000) S := fun S => by
      have e : (10 : Int) ^ (18 : Int).toNat = 1000000000000000000 := by decide
      unfold powW intOp
      simp only [e]
      rfl
    have ge : ∀ S, geW (.int cell) (.int 1000000000000000000) S = .ok (.bl (decide (1000000000000000000 ≤ cell))) S := fun S => rfl
    have a1 : ∀ S, addW (.int (s.next : Int)) (.int 1) S = .ok (.int ((s.next + 1 : Nat) : Int)) S := fun S => rfl
    let s1 : Sc := { s with next := s.next + 1 }
    have st1 := s_setN s B (s.next + 1)
    have hn1 := s_next s1 B
    have le1 : ∀ S, leW (.int ((s.next + 1 : Nat) : Int)) (.int (s.cells.length : Int)) S = .ok (.bl (decide (((s.next + 1 : Nat) : Int) ≤ (s.cells.length : Int)))) S := fun S => rfl
    have base : ∀ R_ : RS, drI [some (.ref 0), some (.int lim), some (.int cell), none, none, none] (srcH s1 ++ B) = R_ → drO [some (.ref 0), some (.int lim), none, none, none, none] (srcH s ++ B) = R_ := fun R_ hR => by
      have sc := s_cells s B
      have sn := s_next s B
      unfold drO
      rw [sif_ap, dtst_ap, dbin_ap, dbin_ap, dvar_ap]
      simp only [List.getElem?_cons_zero, R.bind_ok, dcon_ap, hsr, eq0, q0, R.to_ok, if_true]
      rw [sseq_ap, sasg_ap, dbin_ap, dbin_ap, dvar_ap]
      simp only [List.getElem?_cons_zero, R.bind_ok, dcon_ap, sc, dbin_ap, dvar_ap, sn, dcB_ap, dcons_ap, dnil_ap, ln s rfl, md, gc, R.to_ok, gname_ap, List.set_cons_succ, List.set_cons_zero, RS.seq_nx]
      rw [sseq_ap, sasg_ap, dbin_ap, dbin_ap, dvar_ap]
      simp only [List.getElem?_cons_zero, R.bind_ok, dcon_ap, sn, a1, R.to_ok, gsub_ap, dvar_ap, st1, RS.seq_nx]
      exact hR
    by_cases c1 : 1000000000000000000 ≤ cell ∧ ((s.next + 1 : Nat) : Int) ≤ (s.cells.length : Int)
    · refine ⟨{ s1 with rest := cell }, some (.int cell), none, none, ⟨hs.ne, hs.len, by show 0 ≤ cell; omega, by show s.count ≤ m + 1; have := hs.c; omega⟩, base _ ?_⟩
      have sc1 := s_cells s1 B
      have st2 := s_setR s1 B cell
      unfold drI
      rw [sif_ap, dandT_ap, dtst_ap, dbin_ap, dvar_ap]
      simp only [List.getElem?_cons_succ, List.getElem?_cons_zero, R.bind_ok, dbin_ap, dcon_ap, hp, ge, c1.1, decide_true, if_true, dtst_ap, dvar_ap, hn1, dcB_ap, dcons_ap, sc1, dnil_ap, ln s1 rfl]
      have le2 := le1 (srcH s1 ++ B)
      have e2 : leW (.int (s1.next : Nat)) (.int (s.cells.length : Int)) (srcH s1 ++ B) = .ok (.bl true) (srcH s1 ++ B) := le2.trans (by rw [decide_eq_true c1.2])
      simp only [e2, R.bind_ok, R.to_ok, if_true, sasg_ap, dvar_ap, List.getElem?_cons_succ, List.getElem?_cons_zero, gsub_ap, dcon_ap, st2]
    · -- a mixed number
      have tst : dandT (dtst (dbin geW (dvar 2) (dbin powW (dcon (.int 10)) (dcon (.int 18))))) (dtst (dbin leW (dbin getW (dvar 0) (dcon (.str "next"))) (dcB lenW (dcons (dbin getW (dvar 0) (dcon (.str "cells"))) dnil)))) [some (.ref 0), some (.int lim), some (.int cell), none, none, none] (srcH s1 ++ B) = .ok false (srcH s1 ++ B) := by
        have sc1 := s_cells s1 B
        rw [dandT_ap, dtst_ap, dbin_ap, dvar_ap]
        simp only [List.getElem?_cons_succ, List.getElem?_cons_zero, R.bind_ok, dbin_ap, dcon_ap, hp, ge]
        by_cases c2 : 1000000000000000000 ≤ cell
        · have c3 : ¬ ((s.next + 1 : Nat) : Int) ≤ (s.cells.length : Int) := fun z => c1 ⟨c2, z⟩
          have le2 := le1 (srcH s1 ++ B)
          have e2 : leW (.int (s1.next : Nat)) (.int (s.cells.length : Int)) (srcH s1 ++ B) = .ok (.bl false) (srcH s1 ++ B) := le2.trans (by rw [decide_eq_false c3])
          simp only [c2, decide_true, if_true, dtst_ap, dbin_ap, dvar_ap, List.getElem?_cons_zero, R.bind_ok, dcon_ap, hn1, dcB_ap, dcons_ap, sc1, dnil_ap, ln s1 rfl, e2]
        · simp only [c2, decide_false, Bool.false_eq_true, if_false]
      have cm := hs.c
      let cnt : Nat := s.count + 1
      have hcnt : (cnt : Int) ≤ 1000000000 := by show ((s.count + 1 : Nat) : Int) ≤ _; omega
      have hcnt0 : (0 : Int) ≤ (cnt : Int) := Int.natCast_nonneg _
      have r1 := Int.emod_nonneg cell (b := 2147483629) (by decide)
      have r2 := Int.emod_lt_of_pos cell (b := 2147483629) (by decide)
      have m1 : ∀ S, mulW (.int 7919) (.int (cnt : Nat)) S = .ok (.int (7919 * (cnt : Int))) S := fun S => mul_ok (by decide) (by omega) S
      have m2 : ∀ S, mulW (.int (cnt : Nat)) (.int (cnt : Nat)) S = .ok (.int ((cnt : Int) * (cnt : Int))) S := fun S => mul_ok (by omega) (by omega) S
      have hcc : (cnt : Int) * (cnt : Int) ≤ 1000000000 * 1000000000 := Int.mul_le_mul hcnt hcnt hcnt0 (by decide)
      have hcc0 : (0 : Int) ≤ (cnt : Int) * (cnt : Int) := Int.mul_nonneg hcnt0 hcnt0
      generalize hsq : (cnt : Int) * (cnt : Int) = sq at *
      have m3 : ∀ S, mulW (.int (cell % 2147483629 + 7919 * (cnt : Int))) (.int (sq + 48271)) S = .ok (.int ((cell % 2147483629 + 7919 * (cnt : Int)) * (sq + 48271))) S := fun S => mul_ok (by omega) (by omega) S
      generalize (cell % 2147483629 + 7919 * (cnt : Int)) * (sq + 48271) = pr at *
      have p1 := Int.emod_nonneg pr (b := 2147483647) (by decide)
      have p2 := Int.emod_lt_of_pos pr (b := 2147483647) (by decide)
      have md1 : ∀ S, modW (.int pr) (.int 2147483647) S = .ok (.int (pr % 2147483647)) S := fun S => mod_pos _ _ (by decide) S
      generalize pr % 2147483647 = mx at *
      have m4 : ∀ S, mulW (.int mx) (.int 16777619) S = .ok (.int (mx * 16777619)) S := fun S => mul_ok (by omega) (by decide) S
      have q1 := Int.emod_nonneg (mx * 16777619) (b := 2147483563) (by decide)
      have q2 := Int.emod_lt_of_pos (mx * 16777619) (b := 2147483563) (by decide)
      have md2 : ∀ S, modW (.int (mx * 16777619)) (.int 2147483563) S = .ok (.int (mx * 16777619 % 2147483563)) S := fun S => mod_pos _ _ (by decide) S
      have m5 : ∀ S, mulW (.int (mx * 16777619 % 2147483563)) (.int 2147483647) S = .ok (.int (mx * 16777619 % 2147483563 * 2147483647)) S := fun S => mul_ok (by omega) (by decide) S
      have m6 : ∀ S, mulW (.int mx) (.int mx) S = .ok (.int (mx * mx)) S := fun S => mul_ok (by omega) (by omega) S
      have q3 := Int.emod_nonneg (mx * mx) (b := 2147483587) (by decide)
      have md3 : ∀ S, modW (.int (mx * mx)) (.int 2147483587) S = .ok (.int (mx * mx % 2147483587)) S := fun S => mod_pos _ _ (by decide) S
      have md0 : ∀ S, modW (.int cell) (.int 2147483629) S = .ok (.int (cell % 2147483629)) S := fun S => mod_pos _ _ (by decide) S
      let s2 : Sc := { s1 with count := cnt }
      let s3 : Sc := { s2 with rest := mx * 16777619 % 2147483563 * 2147483647 }
      let s4 : Sc := { s3 with rest := mx * 16777619 % 2147483563 * 2147483647 + mx * mx % 2147483587 + 1 }
      have sct := s_count s1 B
      have ac : ∀ S, addW (.int (s1.count : Nat)) (.int 1) S = .ok (.int (cnt : Nat)) S := fun S => rfl
      have st2 := s_setC s1 B cnt
      have st3 := s_setR s2 B (mx * 16777619 % 2147483563 * 2147483647)
      have st4 := s_setR s3 B (mx * 16777619 % 2147483563 * 2147483647 + mx * mx % 2147483587 + 1)
      have sr3 := s_rest s3 B
      refine ⟨s4, some (.int cell), some (.int cnt), some (.int mx), ⟨hs.ne, hs.len, by show 0 ≤ _ + _ + (1 : Int); omega, by show s.count + 1 ≤ m + 1; omega⟩, base _ ?_⟩
      unfold drI
      rw [sif_ap, tst, R.to_ok]
      simp only [Bool.false_eq_true, if_false]
      rw [sseq_ap, sasg_ap, dbin_ap, dbin_ap, dvar_ap]
      simp only [List.getElem?_cons_zero, R.bind_ok, dcon_ap, sct, ac, R.to_ok, gname_ap, List.set_cons_succ, List.set_cons_zero, RS.seq_nx]
      rw [sseq_ap, sasg_ap, dvar_ap]
      simp only [List.getElem?_cons_succ, List.getElem?_cons_zero, R.to_ok, gsub_ap, dvar_ap, dcon_ap, st2, RS.seq_nx]
      rw [sseq_ap, sasg_ap]
      simp only [dbin_ap, dvar_ap, List.getElem?_cons_succ, List.getElem?_cons_zero, R.bind_ok, dcon_ap, md0, m1, addI, m2, m3, md1, R.to_ok, gname_ap, List.set_cons_succ, List.set_cons_zero, RS.seq_nx]
      rw [sseq_ap, sasg_ap]
      simp only [dbin_ap, dvar_ap, List.getElem?_cons_succ, List.getElem?_cons_zero, R.bind_ok, dcon_ap, m4, md2, m5, R.to_ok, gsub_ap]
      have e3 : setW (.ref 0) (.str "rest") (.int (mx * 16777619 % 2147483563 * 2147483647)) (srcH { s1 with count := cnt } ++ B) = some (srcH s3 ++ B) := st3
      simp only [e3, RS.seq_nx]
      rw [sasg_ap]
      have e4 : getW (.ref 0) (.str "rest") (srcH s3 ++ B) = .ok (.int (mx * 16777619 % 2147483563 * 2147483647)) (srcH s3 ++ B) := sr3
      simp only [dbin_ap, dvar_ap, List.getElem?_cons_succ, List.getElem?_cons_zero, R.bind_ok, dcon_ap, e4, m6, md3, addI, R.to_ok, gsub_ap, st4]
      rfl
theorem draw_ok {s : Sc} {m : Nat} (hs : s.ok m) (hm : m < 1000000000) (B : Hs) {lim : Nat} (h1 : 1 ≤ lim) (h2 : lim ≤ 1000000) : ∃ (v : Nat) (s' : Sc), v < lim ∧ s'.ok (m + 1) ∧ den_law_draw [.ref 0, .int lim] (srcH s ++ B) = .ok (.int v) (srcH s' ++ B) := by
  obtain ⟨s1, x2, x3, x4, hs1, e1⟩ := draw_if hs hm B (lim : Int)
  have r1 := Int.emod_nonneg s1.rest (b := (lim : Int)) (by omega)
  have r2 := Int.emod_lt_of_pos s1.rest (b := (lim : Int)) (by omega)
  obtain ⟨v, hv⟩ := Int.eq_ofNat_of_zero_le r1
  have md : ∀ S, modW (.int s1.rest) (.int (lim : Int)) S = .ok (.int (v : Int)) S := fun S => by rw [mod_pos _ _ (by omega), hv]
  have hlog : Nat.log2 lim < 9000 := by
    have : lim.log2 < 20 := (Nat.log2_lt (by omega)).mpr (by omega)
    omega
  have dv : ∀ S, divW (.int s1.rest) (.int (lim : Int)) S = .ok (.int (s1.rest / lim)) S := fun S => by
    simp only [divW, intOp]
    rw [if_pos (by simp [hlog]; omega)]
  have sr := s_rest s1 B
  have st := s_setR s1 B (s1.rest / lim)
  refine ⟨v, { s1 with rest := s1.rest / lim }, by omega, ⟨hs1.ne, hs1.len, Int.ediv_nonneg hs1.r0 (by omega), hs1.c⟩, ?_⟩
  refine s_rt (n := 6) (f := b_law_draw) (G := []) ?_ rfl
  show b_law_draw [some (.ref 0), some (.int lim), none, none, none, none] _ = _
  unfold b_law_draw
  rw [sseq_ap]
  refine (congrArg (fun z : RS => z.seq _) e1).trans ?_
  rw [ RS.seq_nx, sseq_ap, sasg_ap]
  simp only [dbin_ap, dvar_ap, List.getElem?_cons_succ, List.getElem?_cons_zero, R.bind_ok, dcon_ap, sr, md, R.to_ok, gname_ap, List.set_cons_succ, List.set_cons_zero, RS.seq_nx]
  rw [sseq_ap, sasg_ap]
  simp only [dbin_ap, dvar_ap, List.getElem?_cons_succ, List.getElem?_cons_zero, R.bind_ok, dcon_ap, sr, dv, R.to_ok, gsub_ap, st, RS.seq_nx, sret_ap]
  rw [List.append_nil]
end K08

set_option Elab.async false
set_option linter.all false
set_option maxRecDepth 100000
/-! S2: picks, a shuffled list, allowed numbers. -/
namespace K08
open PySem DL

theorem while_run {t : DT} {body : DS} (I : SW → Hs → Prop) (Q : SW → Hs → Prop) (μ : SW → Hs → Nat)
    (h : ∀ sw S, I sw S → ∃ c S1, t sw S = .ok c S1 ∧ (c = false → Q sw S1) ∧ (c = true → ∃ sw2 S2, body sw S1 = .nx sw2 S2 ∧ I sw2 S2 ∧ μ sw2 S2 < μ sw S)) :
    ∀ (n : Nat) (sw : SW) (S : Hs), I sw S → μ sw S < n → ∃ sw' S', whileD t body n sw S = .nx sw' S' ∧ Q sw' S'
  | 0, sw, S, _, hm => by omega
  | n + 1, sw, S, hI, hm => by
    obtain ⟨c, S1, e1, h1, h2⟩ := h sw S hI
    cases c with
    | false => exact ⟨sw, S1, by simp only [whileD, e1, R.to_ok]; rfl, h1 rfl⟩
    | true =>
      obtain ⟨sw2, S2, e2, hI2, hl⟩ := h2 rfl
      obtain ⟨sw', S', e3, q⟩ := while_run I Q μ h n sw2 S2 hI2 (by omega)
      exact ⟨sw', S', by simp only [whileD, e1, R.to_ok, if_true, e2]; exact e3, q⟩
def nats (l : List Nat) : List W := l.map fun i => .int (i : Nat)
theorem nats_ints (l : List Nat) : nats l = (l.map fun (i : Nat) => (i : Int)).map W.int := by unfold nats; rw [List.map_map]; rfl
theorem nats_len (l : List Nat) : (nats l).length = l.length := List.length_map ..
theorem nats_at {l : List Nat} {k i : Nat} (h : l[k]? = some i) : (nats l)[k]? = some (.int i) := by unfold nats; rw [List.getElem?_map, h]; rfl
theorem nats_pure (l : List Nat) : pureWs (nats l) = true := by
  induction l with
  | nil => rfl
  | cons x r ih => show pureWs (W.int (x : Nat) :: nats r) = true; rw [pureWs, ih]; rfl
theorem s_getB (s : Sc) (B X : Hs) (k : Nat) : (srcH s ++ (B ++ X))[B.length + 3 + k]? = X[k]? := by
  rw [← List.append_assoc, ← s_len s, get_app]
theorem s_getB0 (s : Sc) (B X : Hs) : (srcH s ++ (B ++ X))[B.length + 3]? = X[0]? := s_getB s B X 0
theorem s_setB (s : Sc) (B X : Hs) (k : Nat) (o : WO) : (srcH s ++ (B ++ X)).set (B.length + 3 + k) o = srcH s ++ (B ++ X.set k o) := by
  rw [← List.append_assoc, ← s_len s, set_app, List.append_assoc]
theorem s_setB0 (s : Sc) (B X : Hs) (o : WO) : (srcH s ++ (B ++ X)).set (B.length + 3) o = srcH s ++ (B ++ X.set 0 o) := s_setB s B X 0 o
theorem s_lenB (s : Sc) (B X : Hs) : (srcH s ++ (B ++ X)).length = B.length + 3 + X.length := by rw [s_len, List.length_append]; omega
/-- nothing new: the end of a def keeps the heap -/
theorem s_rtA {n : Nat} {f : DS} {ws : List W} {s s' : Sc} {B : Hs} {w : W} (h : f (ws.map some ++ List.replicate (n - ws.length) none) (srcH s ++ B) = .rt w (srcH s' ++ B)) : defD n f ws (srcH s ++ B) = .ok w (srcH s' ++ B) := by
  rw [defD_rt h]
  show (if refIn _ w = true ∧ okPre _ _ = true then R.ok w ((srcH s' ++ B).take (srcH s ++ B).length) else R.ok w (srcH s' ++ B)) = _
  have : (srcH s' ++ B).take (srcH s ++ B).length = srcH s' ++ B := by
    rw [s_len, ← s_len s', List.take_length]
  rw [this]
  split <;> rfl
theorem pick_ok {s : Sc} {m : Nat} (hs : s.ok m) (hm : m < 100000000) {B : Hs} {x : W} {ws : List W} (hl : ws ≠ []) (hn : ws.length ≤ 1000) (hr : ∀ s : Sc, lenW [x] (srcH s ++ B) = .ok (.int ws.length) (srcH s ++ B) ∧ ∀ (k : Nat) (w : W), ws[k]? = some w → getW x (.int k) (srcH s ++ B) = .ok w (srcH s ++ B)) :
    ∃ (w : W) (s' : Sc), w ∈ ws ∧ s'.ok (m + 1) ∧ den_law_pick [.ref 0, x] (srcH s ++ B) = .ok w (srcH s' ++ B) := by
  have hl0 : 0 < ws.length := List.length_pos_iff.mpr hl
  obtain ⟨v, s1, hv, hs1, e1⟩ := draw_ok hs (by omega) B (lim := ws.length) (by omega) (by omega)
  have hx : ws[v]? = some ws[v] := List.getElem?_eq_getElem hv
  refine ⟨ws[v], s1, List.getElem_mem hv, hs1, ?_⟩
  refine s_rtA (n := 2) (f := b_law_pick) (ws := [.ref 0, x]) ?_
  show b_law_pick [some (.ref 0), some x] _ = _
  have c1 : dcallK 2 0 [0, 1] (sel [] dfl_law_draw) den_law_draw (dcons (dvar 0) (dcons (dcB lenW (dcons (dvar 1) dnil)) dnil)) dnil [some (.ref 0), some x] (srcH s ++ B) = _ := (callE (i := 0) rfl (by
    simp only [dcB_ap, dcons_ap, dvar_ap, List.getElem?_cons_succ, List.getElem?_cons_zero, R.bind_ok, dnil_ap, (hr s).1])).trans e1
  unfold b_law_pick
  rw [sret_ap, dbin_ap, dvar_ap]
  simp only [List.getElem?_cons_succ, List.getElem?_cons_zero, R.bind_ok, c1, (hr s1).2 v _ hx, R.to_ok]
theorem pick_lst {s : Sc} {m : Nat} (hs : s.ok m) (hm : m < 100000000) {B : Hs} {r : Nat} {ws : List W} (hl : ws ≠ []) (hn : ws.length ≤ 1000) (hr : ∀ s : Sc, (srcH s ++ B)[r]? = some (.lst ws)) :
    ∃ (w : W) (s' : Sc), w ∈ ws ∧ s'.ok (m + 1) ∧ den_law_pick [.ref 0, .ref r] (srcH s ++ B) = .ok w (srcH s' ++ B) :=
  pick_ok hs hm hl hn fun s => ⟨len_lst (hr s) rfl, fun k w h => getW_lst (hr s) h⟩
theorem perm_pop {α : Type} : ∀ (l : List α) (k : Nat) (x : α), l[k]? = some x → l.Perm (x :: l.eraseIdx k)
  | [], k, x, h => by cases h
  | y :: r, 0, x, h => by cases h; exact List.Perm.refl _
  | y :: r, k + 1, x, h => by
    have := perm_pop r k x h
    exact (this.cons y).trans (List.Perm.swap x y _)
theorem nats_erase : ∀ (l : List Nat) (k : Nat), (nats l).eraseIdx k = nats (l.eraseIdx k)
  | [], k => rfl
  | x :: r, 0 => rfl
  | x :: r, k + 1 => by
    show W.int (x : Nat) :: (nats r).eraseIdx k = W.int (x : Nat) :: nats (r.eraseIdx k)
    rw [nats_erase r k]
theorem eq_nil {S : Hs} {n m : Nat} {l : List Int} (h1 : S[n]? = some (.lst (l.map .int))) (h2 : S[m]? = some (.lst [])) : eqD (.ref n) (.ref m) S = some (decide (l = [])) := by
  have e : dataDepth = 39 + 1 := rfl
  have k1 : toD S dataDepth (.ref n) = some (.list (l.map .int)) := by rw [e, toD_lst h1, toDs_ints]; rfl
  have k2 : toD S dataDepth (.ref m) = some (.list []) := by rw [e, toD_lst h2, toDs_nil]; rfl
  rw [eqD_of k1 k2 (by simp [PyData.canLay0, canLay_ints]) (by simp [PyData.canLay0, PyData.canLayAll0])]
  cases l with
  | nil => simp [PyData.eqv, PyData.eqvAll]
  | cons x r => rw [List.map_cons, PyData.eqv, PyData.eqvAll]; rfl
theorem ne_nil_ {S : Hs} {n m : Nat} {l : List Int} (h1 : S[n]? = some (.lst (l.map .int))) (h2 : S[m]? = some (.lst [])) : neW (.ref n) (.ref m) S = .ok (.bl (decide (l ≠ []))) S := by
  unfold neW; rw [eq_nil h1 h2]; simp
theorem pop_at {S : Hs} {n k : Nat} {ws : List W} {x : W} (h : S[n]? = some (.lst ws)) (hk : ws[k]? = some x) (hb : k < 9223372036854775808) : popW (.ref n) [.int k] S = .ok x (S.set n (.lst (ws.eraseIdx k))) := by
  have hl := (List.getElem?_eq_some_iff.mp hk).1
  have hs : seqIndex? (k : Int) ws.length = some k := by
    unfold seqIndex?
    simp
    omega
  unfold popW
  simp only [h]
  rw [if_pos ⟨by omega, by omega⟩]
  simp only [hs, hk]
/-- the pile and what is found -/
def pfH (pl fd : List Nat) (G : Hs) : Hs := .lst (nats pl) :: .lst (nats fd) :: G
theorem pfH_more (s : Sc) (B : Hs) (pl fd : List Nat) (G : Hs) (o : WO) : srcH s ++ (B ++ pfH pl fd G) ++ [o] = srcH s ++ (B ++ pfH pl fd (G ++ [o])) := by
  rw [List.append_assoc, List.append_assoc]; rfl
theorem pfH_end (s : Sc) (B : Hs) (pl fd : List Nat) (G : Hs) (o : WO) : (srcH s ++ (B ++ pfH pl fd (G ++ [o])))[(srcH s ++ (B ++ pfH pl fd G)).length]? = some o := by
  rw [← pfH_more, get_app0]; rfl
/-- where the pile stands -/
def pileOf (B S : Hs) : Nat := match S[B.length + 3]? with
  | some (.lst ws) => ws.length
  | _ => 0
end K08

set_option Elab.async false
set_option linter.all false
set_option maxRecDepth 100000
set_option maxHeartbeats 400000
/-! N1: errors made, their fields, of which classes they are. -/
namespace K08
open PySem DL

theorem get_pre {S T : Hs} {n : Nat} {o : WO} (h : S[n]? = some o) : (S ++ T)[n]? = some o := by
  rw [List.getElem?_append_left (List.getElem?_eq_some_iff.mp h).1]; exact h
theorem last_app (S : Hs) (o : WO) : (S ++ [o])[S.length]? = some o := by rw [get_app0]; rfl
/-! ### a display of errors -/
def mkA : List (Str × Str) → DA
  | [] => dnil
  | p :: r => dcons (dmk p.1 p.2 (dvar 0)) (mkA r)
def refsF (n : Nat) : Nat → List Nat
  | 0 => []
  | k + 1 => n :: refsF (n + 1) k
theorem refsF_at : ∀ (n k i : Nat), i < k → (refsF n k)[i]? = some (n + i)
  | n, 0, i, h => by omega
  | n, k + 1, 0, h => rfl
  | n, k + 1, i + 1, h => by
    show (refsF (n + 1) k)[i]? = _
    rw [refsF_at (n + 1) k i (by omega)]
    congr 1; omega
theorem refsF_len : ∀ (n k : Nat), (refsF n k).length = k
  | _, 0 => rfl
  | n, k + 1 => by rw [refsF, List.length_cons, refsF_len]
def excs (w : W) (cs : List (Str × Str)) : Hs := cs.map fun p => .exc p.1 [(p.2, w)]
theorem mk_all {sw : SW} {w : W} (h0 : sw[0]? = some (some w)) : ∀ (cs : List (Str × Str)) (S : Hs), mkA cs sw S = .ok ((refsF S.length cs.length).map .ref) (S ++ excs w cs)
  | [], S => by
    show R.ok [] S = R.ok [] (S ++ [])
    rw [List.append_nil]
  | p :: r, S => by
    have hl : (S ++ [WO.exc p.1 [(p.2, w)]]).length = S.length + 1 := by simp
    rw [mkA, dcons_ap, dmk_ap, dvar_ap, h0]
    simp only [R.bind_ok]
    rw [mk_all h0 r]
    simp only [R.bind_ok]
    rw [hl, List.append_assoc]
    rfl
structure Errs (S : Hs) (q : Nat) (cs : List (Str × Str)) (w : W) : Prop where
  ex : ∃ rs : List Nat, S[q]? = some (.lst (rs.map .ref)) ∧ rs.length = cs.length ∧ ∀ (i r : Nat) (p : Str × Str), rs[i]? = some r → cs[i]? = some p → S[r]? = some (.exc p.1 [(p.2, w)])
theorem Errs.app {S : Hs} {q : Nat} {cs : List (Str × Str)} {w : W} (h : Errs S q cs w) (T : Hs) : Errs (S ++ T) q cs w := by
  obtain ⟨rs, h1, h2, h3⟩ := h.ex
  exact ⟨rs, get_pre h1, h2, fun i r p e1 e2 => get_pre (h3 i r p e1 e2)⟩
theorem errs_disp {sw : SW} {w : W} (h0 : sw[0]? = some (some w)) {cs : List (Str × Str)} (hl : cs.length ≤ 100) (S : Hs) :
    dlst (mkA cs) sw S = .ok (.ref (S ++ excs w cs).length) (S ++ excs w cs ++ [.lst ((refsF S.length cs.length).map .ref)]) ∧ Errs (S ++ excs w cs ++ [.lst ((refsF S.length cs.length).map .ref)]) (S ++ excs w cs).length cs w := by
  have hz : sizeLine = 16777216 := sizeLine_eq
  constructor
  · rw [dlst_ap, mk_all h0]
    simp only [R.bind_ok]
    rw [if_pos (by rw [List.length_map, refsF_len]; omega)]
  · refine ⟨_, last_app _ _, refsF_len .., fun i r p e1 e2 => ?_⟩
    have hi : i < cs.length := (List.getElem?_eq_some_iff.mp e2).1
    rw [refsF_at _ _ _ hi] at e1
    cases e1
    refine get_pre ?_
    rw [get_app]
    unfold excs
    rw [List.getElem?_map, e2]
    rfl
theorem errs_more {sw : SW} {w : W} {q : Nat} (h0 : sw[0]? = some (some w)) (h1 : sw[1]? = some (some (.ref q))) {cs ds : List (Str × Str)} {S : Hs} (he : Errs S q cs w) (hl : cs.length ≤ 100) (hd : ds.length ≤ 100) :
    ∃ (q' : Nat) (T : Hs), dbin addW (dvar 1) (dlst (mkA ds)) sw S = .ok (.ref q') (S ++ T) ∧ Errs (S ++ T) q' (cs ++ ds) w ∧ S.length ≤ q' := by
  have hz : sizeLine = 16777216 := sizeLine_eq
  obtain ⟨e1, e2⟩ := errs_disp h0 hd S
  obtain ⟨rs, g1, g2, g3⟩ := he.ex
  generalize hS1 : S ++ excs w ds = S1 at e1 e2
  generalize hA : refsF S.length ds.length = A at e1 e2
  have hAl : A.length = ds.length := by rw [← hA, refsF_len]
  have l1 : lstOf (S1 ++ [.lst (A.map .ref)]) (.ref q) = some (rs.map .ref) := lstOf_at_ (by rw [← hS1]; exact get_pre (get_pre g1))
  have ad : addW (.ref q) (.ref S1.length) (S1 ++ [.lst (A.map .ref)]) = .ok (.ref (S1.length + 1)) (S1 ++ [.lst (A.map .ref), .lst ((rs ++ A).map .ref)]) := by
    unfold addW
    simp only [l1, lstOf_last]
    rw [if_pos (by rw [List.length_map, List.length_map]; omega), ← List.map_append]
    simp
  refine ⟨S1.length + 1, excs w ds ++ [.lst (A.map .ref), .lst ((rs ++ A).map .ref)], ?_, ?_, ?_⟩
  · rw [dbin_ap, dvar_ap, h1]
    simp only [R.bind_ok]
    rw [e1]
    simp only [R.bind_ok, ad]
    rw [← List.append_assoc, hS1]
  · rw [← List.append_assoc, hS1]
    refine ⟨rs ++ A, by rw [get_app]; rfl, by rw [List.length_append, List.length_append]; omega, fun i r p k1 k2 => ?_⟩
    by_cases hi : i < cs.length
    · rw [List.getElem?_append_left (by omega)] at k1
      rw [List.getElem?_append_left hi] at k2
      rw [← hS1]
      exact get_pre (get_pre (g3 i r p k1 k2))
    · rw [List.getElem?_append_right (by omega)] at k1 k2
      rw [g2] at k1
      obtain ⟨rs2, z1, z2, z3⟩ := e2.ex
      rw [last_app] at z1
      have er : rs2 = A := by
        have := congrArg (fun o => match o with | some (WO.lst ws) => ws.map (fun w => match w with | W.ref n => n | _ => 0) | _ => []) z1
        simpa [List.map_map, Function.comp_def] using this.symm
      subst er
      have := z3 (i - cs.length) r p k1 k2
      have h3 := get_pre (T := [WO.lst ((rs ++ rs2).map .ref)]) this
      rw [List.append_assoc] at h3
      exact h3
  · rw [← hS1]; simp; omega
/-! ### fields -/
def fldA : List (Nat × (Str → Bool) × Str) → DA
  | [] => dnil
  | p :: r => dcons (dun (fldX p.2.1 p.2.2) (dbin getW (dvar 1) (dcon (.int (p.1 : Nat))))) (fldA r)
theorem fld_one {S : Hs} {r : Nat} {C f : Str} {w : W} {isf : Str → Bool} (h : S[r]? = some (.exc C [(f, w)])) (hi : isf C = true) : fldX isf f (.ref r) S = .ok w S := by
  unfold fldX
  simp only [h]
  rw [if_pos hi]
  have : ([(f, w)] : List (Str × W)).lookup f = some w := by rw [List.lookup_cons, beq_self_eq_true]
  rw [this]
theorem fld_all {sw : SW} {w : W} {q : Nat} {cs : List (Str × Str)} {S : Hs} (h1 : sw[1]? = some (some (.ref q))) (he : Errs S q cs w) : ∀ fs : List (Nat × (Str → Bool) × Str), (∀ p ∈ fs, ∃ C, cs[p.1]? = some (C, p.2.2) ∧ p.2.1 C = true) → fldA fs sw S = .ok (List.replicate fs.length w) S
  | [], _ => rfl
  | p :: r, h => by
    obtain ⟨C, hC, hi⟩ := h p List.mem_cons_self
    obtain ⟨rs, g1, g2, g3⟩ := he.ex
    have hil := (List.getElem?_eq_some_iff.mp hC).1
    have hr : rs[p.1]? = some (rs[p.1]'(by omega)) := List.getElem?_eq_getElem (by omega)
    have gx := g3 _ _ _ hr hC
    have gg : getW (.ref q) (.int (p.1 : Nat)) S = .ok (.ref (rs[p.1]'(by omega))) S := getW_lst g1 (by rw [List.getElem?_map, hr]; rfl)
    have ih := fld_all h1 he r fun x m => h x (List.mem_cons_of_mem _ m)
    rw [fldA, dcons_ap, dun_ap, dbin_ap, dvar_ap, h1]
    simp only [R.bind_ok, dcon_ap, gg]
    rw [fld_one gx hi]
    simp only [R.bind_ok, ih]
    rfl
/-! ### classes -/
def isA : List (Str → Option Bool) → DA
  | [] => dnil
  | p :: r => dcons (dun (isiE p) (dvar 0)) (isA r)
theorem is_all {sw : SW} {r : Nat} {C : Str} {fs : List (Str × W)} {S : Hs} (h0 : sw[0]? = some (some (.ref r))) (h : S[r]? = some (.exc C fs)) : ∀ ps : List (Str → Option Bool), (∀ p ∈ ps, (p C).isSome = true) → isA ps sw S = .ok ((ps.map fun p => (p C).getD false).map .bl) S
  | [], _ => rfl
  | p :: ps, hp => by
    obtain ⟨b, hb⟩ := Option.isSome_iff_exists.mp (hp p List.mem_cons_self)
    have e1 : isiE p (.ref r) S = .ok (.bl b) S := by
      unfold isiE
      simp only [h, hb]
    have ih := is_all h0 h ps fun x m => hp x (List.mem_cons_of_mem _ m)
    rw [isA, dcons_ap, dun_ap, dvar_ap, h0]
    simp only [R.bind_ok, e1, ih, List.map_cons, hb, Option.getD_some]
/-- a list of bools, and one more part -/
theorem cat_bools {sw : SW} {q : Nat} {S : Hs} {xs ys : List Bool} {t : DA} (h1 : sw[1]? = some (some (.ref q))) (hq : S[q]? = some (.lst (xs.map .bl))) (ht : t sw S = .ok (ys.map .bl) S) (hx : xs.length ≤ 100) (hy : ys.length ≤ 100) :
    dbin addW (dvar 1) (dlst t) sw S = .ok (.ref (S.length + 1)) (S ++ [.lst (ys.map .bl), .lst ((xs ++ ys).map .bl)]) := by
  have hz : sizeLine = 16777216 := sizeLine_eq
  have l1 : lstOf (S ++ [.lst (ys.map .bl)]) (.ref q) = some (xs.map .bl) := lstOf_at_ (get_pre hq)
  rw [dbin_ap, dvar_ap, h1]
  simp only [R.bind_ok, dlst_ap, ht]
  rw [if_pos (by rw [List.length_map]; omega)]
  simp only [R.bind_ok]
  unfold addW
  simp only [l1, lstOf_last]
  rw [if_pos (by rw [List.length_map, List.length_map]; omega), ← List.map_append]
  simp
theorem first_bools {sw : SW} {S : Hs} {ys : List Bool} {t : DA} (ht : t sw S = .ok (ys.map .bl) S) (hy : ys.length ≤ 100) : dlst t sw S = .ok (.ref S.length) (S ++ [.lst (ys.map .bl)]) := by
  have hz : sizeLine = 16777216 := sizeLine_eq
  rw [dlst_ap, ht]
  simp only [R.bind_ok]
  rw [if_pos (by rw [List.length_map]; omega)]
def basesB (C : Str) : List Bool := [isa_DialError, isa_DialStateError, isa_DialLookupError].map fun p => (p C).getD false
def basesB2 (C : Str) : List Bool := [isa_ValueError, isa_RuntimeError, isa_LookupError].map fun p => (p C).getD false
def kindsA : List (List (Str → Option Bool)) := [[isa_InvalidForest, isa_InvalidLabel, isa_InvalidRun], [isa_InvalidSelection, isa_InvalidNumbers], [isa_InvalidPrices, isa_InvalidTable, isa_InvalidOrder], [isa_InvalidText, isa_InvalidRank, isa_InvalidEdit],
  [isa_TooLarge, isa_NotRemovable, isa_NothingRemains], [isa_Unreachable, isa_NotRoot, isa_NotChild], [isa_WouldLoop, isa_NotClearing, isa_NothingToUndo]]
def kindsB (C : Str) : List Bool := kindsA.flatten.map fun p => (p C).getD false
/-- what is known of a class: all asked is told; it is of one kind, of group g -/
def okC (g : Nat) (C : Str) : Bool := kindsA.flatten.all (fun p => (p C).isSome) && ([isa_DialError, isa_DialStateError, isa_DialLookupError, isa_ValueError, isa_RuntimeError, isa_LookupError].all fun p => (p C).isSome) &&
  (decide ((kindsB C).countP id = 1) && (decide (basesB C = [g == 0, g == 1, g == 2]) && decide (basesB2 C = [g == 0, g == 1, g == 2])))
def cs0 : List (Str × Str) := [("InvalidForest", "path"), ("InvalidLabel", "label"), ("InvalidRun", "position"), ("InvalidSelection", "name")]
def cs1 : List (Str × Str) := [("InvalidNumbers", "path"), ("InvalidPrices", "path"), ("InvalidTable", "label"), ("InvalidOrder", "order")]
def cs2 : List (Str × Str) := [("InvalidText", "line"), ("InvalidRank", "rank"), ("InvalidEdit", "path"), ("TooLarge", "limit")]
def ds0 : List (Str × Str) := [("NotRemovable", "label"), ("NothingRemains", "length"), ("Unreachable", "reason"), ("NotRoot", "label"), ("NotChild", "label")]
def ds1 : List (Str × Str) := [("WouldLoop", "label"), ("NotClearing", "length")]
theorem ok_args : (cs0 ++ cs1 ++ cs2).all (fun p => okC 0 p.1) = true := by decide +kernel
theorem ok_states : (ds0 ++ ds1).all (fun p => okC 1 p.1) = true := by decide +kernel
theorem ok_undo : okC 2 "NothingToUndo" = true := by decide +kernel
end K08

set_option Elab.async false
set_option linter.all false
set_option maxRecDepth 100000
set_option maxHeartbeats 800000
/-! N2: the law's defs. -/
namespace K08
open PySem DL

theorem trim_fresh {S S' : Hs} {w : W} (h : refIn S.length w = false) : trimR S (.ok w S') = .ok w S' := by
  show (if refIn S.length w = true ∧ okPre S S' = true then R.ok w (S'.take S.length) else R.ok w S') = _
  rw [if_neg]
  rintro ⟨z, _⟩
  rw [h] at z; cases z
theorem okC_isa {g : Nat} {C : Str} (h : okC g C = true) : (∀ p ∈ kindsA.flatten, (p C).isSome = true) ∧ (∀ p ∈ [isa_DialError, isa_DialStateError, isa_DialLookupError, isa_ValueError, isa_RuntimeError, isa_LookupError], (p C).isSome = true) ∧ (kindsB C).countP id = 1 ∧ basesB C = [g == 0, g == 1, g == 2] ∧ basesB2 C = [g == 0, g == 1, g == 2] := by
  unfold okC at h
  simp only [Bool.and_eq_true, decide_eq_true_eq, List.all_eq_true] at h
  exact ⟨h.1.1, h.1.2, h.2.1, h.2.2.1, h.2.2.2⟩
/-- _law_bases -/
theorem law_bases_ok {g r : Nat} {C : Str} {fs : List (Str × W)} {S : Hs} (hC : okC g C = true) (h : S[r]? = some (.exc C fs)) :
    ∃ (q : Nat) (T : Hs), den_law_bases [.ref r] S = .ok (.ref q) (S ++ T) ∧ (S ++ T)[q]? = some (.lst (([g == 0, g == 1, g == 2] ++ [g == 0, g == 1, g == 2]).map .bl)) := by
  obtain ⟨_, k2, _, k4, k5⟩ := okC_isa hC
  have a1 := is_all (sw := [some (.ref r), none]) rfl h [isa_DialError, isa_DialStateError, isa_DialLookupError] (fun p m => k2 p (by simp only [List.mem_cons, List.not_mem_nil, or_false] at m ⊢; rcases m with rfl | rfl | rfl <;> simp))
  have e1 := first_bools (sw := [some (.ref r), none]) (t := isA [isa_DialError, isa_DialStateError, isa_DialLookupError]) (ys := [g == 0, g == 1, g == 2]) (S := S) (by rw [a1]; show R.ok ((basesB C).map W.bl) S = _; rw [k4]) (by simp)
  have h2 : (S ++ [WO.lst ([g == 0, g == 1, g == 2].map W.bl)])[r]? = some (.exc C fs) := get_pre h
  have a2 := is_all (sw := [some (.ref r), some (.ref S.length)]) rfl h2 [isa_ValueError, isa_RuntimeError, isa_LookupError] (fun p m => k2 p (by simp only [List.mem_cons, List.not_mem_nil, or_false] at m ⊢; rcases m with rfl | rfl | rfl <;> simp))
  have e2 := cat_bools (sw := [some (.ref r), some (.ref S.length)]) (q := S.length) (t := isA [isa_ValueError, isa_RuntimeError, isa_LookupError]) (xs := [g == 0, g == 1, g == 2]) (ys := [g == 0, g == 1, g == 2]) rfl (last_app _ _) (by rw [a2]; show R.ok ((basesB2 C).map W.bl) _ = _; rw [k5]) (by simp) (by simp)
  generalize hb : [g == 0, g == 1, g == 2] = b at *
  refine ⟨(S ++ [WO.lst (b.map .bl)]).length + 1, [.lst (b.map .bl)] ++ [.lst (b.map .bl), .lst ((b ++ b).map .bl)], ?_, ?_⟩
  · have hbd : b_law_bases [some (.ref r), none] S = .rt (.ref ((S ++ [WO.lst (b.map W.bl)]).length + 1)) (S ++ [.lst (b.map .bl)] ++ [.lst (b.map .bl), .lst ((b ++ b).map .bl)]) := by
      unfold b_law_bases
      rw [sseq_ap, sasg_ap]
      have e1' : dlst (dcons (dun (isiE isa_DialError) (dvar 0)) (dcons (dun (isiE isa_DialStateError) (dvar 0)) (dcons (dun (isiE isa_DialLookupError) (dvar 0)) dnil))) [some (.ref r), none] S = _ := e1
      rw [e1', R.to_ok, gname_ap]
      simp only [List.set_cons_succ, List.set_cons_zero, RS.seq_nx]
      rw [sret_ap]
      have e2' : dbin addW (dvar 1) (dlst (dcons (dun (isiE isa_ValueError) (dvar 0)) (dcons (dun (isiE isa_RuntimeError) (dvar 0)) (dcons (dun (isiE isa_LookupError) (dvar 0)) dnil)))) [some (.ref r), some (.ref S.length)] (S ++ [.lst (b.map .bl)]) = _ := e2
      rw [e2', R.to_ok]
    refine (defD_rt (n := 2) (f := b_law_bases) (ws := [.ref r]) hbd).trans ?_
    rw [List.append_assoc]
    exact trim_fresh (by rw [refIn]; exact decide_eq_false (by simp; omega))
  · rw [← List.append_assoc, get_app]; rfl
theorem count_bools {S : Hs} {q : Nat} {bs : List Bool} (h : S[q]? = some (.lst (bs.map .bl))) : countD (.ref q) [.bl true] S = .ok (.int (bs.countP id : Nat)) S := by
  have e3 : toDs (toD S dataDepth) (bs.map W.bl) = some (bs.map PyData.bool) := toDs_all fun b _ => toD_bl _ _ _
  have pl : ∀ bs : List Bool, PyData.plainAll (bs.map PyData.bool) = true := fun bs => by
    induction bs with
    | nil => simp [PyData.plainAll]
    | cons b r ih => simp [PyData.plainAll, PyData.plain, ih]
  have cp : ∀ bs : List Bool, (bs.map PyData.bool).countP (fun z => PyData.eqv z (.bool true)) = bs.countP id := fun bs => by
    induction bs with
    | nil => rfl
    | cons b r ih =>
      rw [List.map_cons, List.countP_cons, List.countP_cons, ih, PyData.eqv]
      cases b <;> rfl
  unfold countD
  simp only [lstOf_at_ h, toD_bl, e3]
  rw [if_pos ⟨pl bs, by decide, by decide⟩, cp]
/-- _law_kinds -/
theorem law_kinds_ok {g r : Nat} {C : Str} {fs : List (Str × W)} {S : Hs} (hC : okC g C = true) (h : S[r]? = some (.exc C fs)) :
    ∃ (q : Nat) (T : Hs), den_law_kinds [.ref r] S = .ok (.ref q) (S ++ T) ∧ (S ++ T)[q]? = some (.lst ((kindsB C).map .bl)) := by
  obtain ⟨k1, _, _, _, _⟩ := okC_isa hC
  let bv : (Str → Option Bool) → Bool := fun p => (p C).getD false
  let P0 := [isa_InvalidForest, isa_InvalidLabel, isa_InvalidRun]
  let P1 := [isa_InvalidSelection, isa_InvalidNumbers]
  let P2 := [isa_InvalidPrices, isa_InvalidTable, isa_InvalidOrder]
  let P3 := [isa_InvalidText, isa_InvalidRank, isa_InvalidEdit]
  let P4 := [isa_TooLarge, isa_NotRemovable, isa_NothingRemains]
  let P5 := [isa_Unreachable, isa_NotRoot, isa_NotChild]
  let P6 := [isa_WouldLoop, isa_NotClearing, isa_NothingToUndo]
  have hk : kindsA.flatten = P0 ++ P1 ++ P2 ++ P3 ++ P4 ++ P5 ++ P6 := rfl
  rw [hk] at k1
  have step : ∀ (S : Hs) (q : Nat) (xs : List Bool) (ps : List (Str → Option Bool)), S[r]? = some (.exc C fs) → S[q]? = some (.lst (xs.map .bl)) → (∀ p ∈ ps, (p C).isSome = true) → xs.length ≤ 100 → ps.length ≤ 100 → ∃ (q' : Nat) (T : Hs), dbin addW (dvar 1) (dlst (isA ps)) [some (.ref r), some (.ref q)] S = .ok (.ref q') (S ++ T) ∧ (S ++ T)[q']? = some (.lst ((xs ++ ps.map bv).map .bl)) ∧ S.length ≤ q' := fun S q xs ps hS hq hp hx hl => by
    have a := is_all (sw := [some (.ref r), some (.ref q)]) rfl hS ps hp
    have e := cat_bools (sw := [some (.ref r), some (.ref q)]) (q := q) (t := isA ps) (xs := xs) (ys := ps.map bv) rfl hq a hx (by rw [List.length_map]; exact hl)
    exact ⟨_, _, e, by rw [get_app]; rfl, by omega⟩
  have m0 : ∀ p ∈ P0, (p C).isSome = true := fun p m => k1 p (by simp only [List.mem_append]; exact .inl (.inl (.inl (.inl (.inl (.inl m))))))
  have m1 : ∀ p ∈ P1, (p C).isSome = true := fun p m => k1 p (by simp only [List.mem_append]; exact .inl (.inl (.inl (.inl (.inl (.inr m))))))
  have m2 : ∀ p ∈ P2, (p C).isSome = true := fun p m => k1 p (by simp only [List.mem_append]; exact .inl (.inl (.inl (.inl (.inr m)))))
  have m3 : ∀ p ∈ P3, (p C).isSome = true := fun p m => k1 p (by simp only [List.mem_append]; exact .inl (.inl (.inl (.inr m))))
  have m4 : ∀ p ∈ P4, (p C).isSome = true := fun p m => k1 p (by simp only [List.mem_append]; exact .inl (.inl (.inr m)))
  have m5 : ∀ p ∈ P5, (p C).isSome = true := fun p m => k1 p (by simp only [List.mem_append]; exact .inl (.inr m))
  have m6 : ∀ p ∈ P6, (p C).isSome = true := fun p m => k1 p (by simp only [List.mem_append]; exact .inr m)
  have a0 := is_all (sw := [some (.ref r), none]) rfl h P0 m0
  have e0 := first_bools (sw := [some (.ref r), none]) (t := isA P0) (ys := P0.map bv) (S := S) a0 (Nat.le_of_ble_eq_true rfl)
  generalize hq0 : S.length = q0 at e0
  generalize hT0 : ([WO.lst ((P0.map bv).map W.bl)] : Hs) = T0 at e0
  have g0 : (S ++ T0)[q0]? = some (.lst ((P0.map bv).map .bl)) := by rw [← hT0, ← hq0]; exact last_app _ _
  obtain ⟨q1, T1, e1, g1, l1⟩ := step (S ++ T0) q0 _ P1 (get_pre h) g0 m1 (Nat.le_of_ble_eq_true rfl) (Nat.le_of_ble_eq_true rfl)
  obtain ⟨q2, T2, e2, g2, l2⟩ := step (S ++ T0 ++ T1) q1 _ P2 (get_pre (get_pre h)) g1 m2 (Nat.le_of_ble_eq_true rfl) (Nat.le_of_ble_eq_true rfl)
  obtain ⟨q3, T3, e3, g3, l3⟩ := step (S ++ T0 ++ T1 ++ T2) q2 _ P3 (get_pre (get_pre (get_pre h))) g2 m3 (Nat.le_of_ble_eq_true rfl) (Nat.le_of_ble_eq_true rfl)
  obtain ⟨q4, T4, e4, g4, l4⟩ := step (S ++ T0 ++ T1 ++ T2 ++ T3) q3 _ P4 (get_pre (get_pre (get_pre (get_pre h)))) g3 m4 (Nat.le_of_ble_eq_true rfl) (Nat.le_of_ble_eq_true rfl)
  obtain ⟨q5, T5, e5, g5, l5⟩ := step (S ++ T0 ++ T1 ++ T2 ++ T3 ++ T4) q4 _ P5 (get_pre (get_pre (get_pre (get_pre (get_pre h))))) g4 m5 (Nat.le_of_ble_eq_true rfl) (Nat.le_of_ble_eq_true rfl)
  obtain ⟨q6, T6, e6, g6, l6⟩ := step (S ++ T0 ++ T1 ++ T2 ++ T3 ++ T4 ++ T5) q5 _ P6 (get_pre (get_pre (get_pre (get_pre (get_pre (get_pre h)))))) g5 m6 (Nat.le_of_ble_eq_true rfl) (Nat.le_of_ble_eq_true rfl)
  have hall : P0.map bv ++ P1.map bv ++ P2.map bv ++ P3.map bv ++ P4.map bv ++ P5.map bv ++ P6.map bv = kindsB C := rfl
  rw [hall] at g6
  have hlq : S.length ≤ q6 := by
    have : S.length ≤ (S ++ T0 ++ T1 ++ T2 ++ T3 ++ T4 ++ T5).length := by simp only [List.length_append]; omega
    omega
  refine ⟨q6, T0 ++ T1 ++ T2 ++ T3 ++ T4 ++ T5 ++ T6, ?_, ?_⟩
  · have hbd : b_law_kinds [some (.ref r), none] S = .rt (.ref q6) (S ++ T0 ++ T1 ++ T2 ++ T3 ++ T4 ++ T5 ++ T6) := by
      show sseq (sasg (dlst (isA P0)) (gname 1)) (sseq (sasg (dbin addW (dvar 1) (dlst (isA P1))) (gname 1)) (sseq (sasg (dbin addW (dvar 1) (dlst (isA P2))) (gname 1)) (sseq (sasg (dbin addW (dvar 1) (dlst (isA P3))) (gname 1)) (sseq (sasg (dbin addW (dvar 1) (dlst (isA P4))) (gname 1)) (sseq (sasg (dbin addW (dvar 1) (dlst (isA P5))) (gname 1)) (sseq (sasg (dbin addW (dvar 1) (dlst (isA P6))) (gname 1)) (sret (dvar 1)))))))) [some (.ref r), none] S = _
      have gn : ∀ (x : Option W) (q : Nat) (S : Hs), gname 1 (.ref q) [some (.ref r), x] S = .ok [some (.ref r), some (.ref q)] S := fun _ _ _ => rfl
      have asg : ∀ (x : Option W) (e : DE) (q : Nat) (S S' : Hs), e [some (.ref r), x] S = .ok (.ref q) S' → sasg e (gname 1) [some (.ref r), x] S = .nx [some (.ref r), some (.ref q)] S' := fun x e q S S' he => by rw [sasg_ap, he, R.to_ok, gname_ap]; rfl
      rw [sseq_ap, asg _ _ _ _ _ e0, RS.seq_nx, sseq_ap, asg _ _ _ _ _ e1, RS.seq_nx, sseq_ap, asg _ _ _ _ _ e2, RS.seq_nx, sseq_ap, asg _ _ _ _ _ e3, RS.seq_nx, sseq_ap, asg _ _ _ _ _ e4, RS.seq_nx, sseq_ap, asg _ _ _ _ _ e5, RS.seq_nx, sseq_ap, asg _ _ _ _ _ e6, RS.seq_nx, sret_ap, dvar_ap]
      rfl
    refine (defD_rt (n := 2) (f := b_law_kinds) (ws := [.ref r]) hbd).trans ?_
    rw [show S ++ (T0 ++ T1 ++ T2 ++ T3 ++ T4 ++ T5 ++ T6) = S ++ T0 ++ T1 ++ T2 ++ T3 ++ T4 ++ T5 ++ T6 by simp only [List.append_assoc]]
    exact trim_fresh (by rw [refIn]; exact decide_eq_false (by omega))
  · rw [show S ++ (T0 ++ T1 ++ T2 ++ T3 ++ T4 ++ T5 ++ T6) = S ++ T0 ++ T1 ++ T2 ++ T3 ++ T4 ++ T5 ++ T6 by simp only [List.append_assoc]]
    exact g6
/-- a comprehension whose test lays objects and is never true -/
theorem compD_none {guard : Hs → Bool} {g : DG} {tt : DT} {te : DE} {sw : SW} : ∀ (ws : List W) (S : Hs), (∀ T, guard (S ++ T) = true) → (∀ w ∈ ws, ∀ T, ∃ sw1 T', g w sw (S ++ T) = .ok sw1 (S ++ T) ∧ tt sw1 (S ++ T) = .ok false (S ++ T ++ T')) → ∃ T, compD guard g tt te sw ws [] S = .ok [] (S ++ T)
  | [], S, hg, _ => ⟨[], by
    have := hg []
    rw [List.append_nil] at this ⊢
    simp only [compD, if_pos this]⟩
  | w :: ws, S, hg, h => by
    obtain ⟨sw1, T', e1, e2⟩ := h w List.mem_cons_self []
    rw [List.append_nil] at e1 e2
    have hg0 := hg []
    rw [List.append_nil] at hg0
    obtain ⟨T2, e3⟩ := compD_none (te := te) ws (S ++ T') (fun T => by rw [List.append_assoc]; exact hg _) (fun u m T => by
      obtain ⟨sw2, T3, f1, f2⟩ := h u (List.mem_cons_of_mem _ m) (T' ++ T)
      rw [← List.append_assoc] at f1 f2
      exact ⟨sw2, T3, f1, f2⟩)
    exact ⟨T' ++ T2, by simp only [compD, if_pos hg0, e1, e2, e3, List.append_assoc]⟩
theorem eq_bools_same {S : Hs} {a b : Nat} {xs : List Bool} (h1 : S[a]? = some (.lst (xs.map .bl))) (h2 : S[b]? = some (.lst (xs.map .bl))) : neW (.ref a) (.ref b) S = .ok (.bl false) S := by
  have e : dataDepth = 39 + 1 := rfl
  have td : ∀ j, toDs (toD S j) (xs.map W.bl) = some (xs.map PyData.bool) := fun j => toDs_all fun b _ => toD_bl _ _ _
  have cl : ∀ xs : List Bool, PyData.canLayAll0 (xs.map PyData.bool) = true := fun xs => by
    induction xs with
    | nil => simp [PyData.canLayAll0]
    | cons b r ih => rw [List.map_cons, PyData.canLayAll0, ih]; simp [PyData.canLay0]
  have k1 : toD S dataDepth (.ref a) = some (.list (xs.map .bool)) := by rw [e, toD_lst h1, td]; rfl
  have k2 : toD S dataDepth (.ref b) = some (.list (xs.map .bool)) := by rw [e, toD_lst h2, td]; rfl
  have hc : (PyData.list (xs.map PyData.bool)).canLay0 = true := by rw [PyData.canLay0]; exact cl xs
  unfold neW
  rw [eqD_of k1 k2 hc hc, SeqAt.eqv_refl _ hc]
  rfl
theorem eq_nils {S : Hs} {a b : Nat} (h1 : S[a]? = some (.lst [])) (h2 : S[b]? = some (.lst [])) : neW (.ref a) (.ref b) S = .ok (.bl false) S ∧ eqW (.ref a) (.ref b) S = .ok (.bl true) S := by
  have e : dataDepth = 39 + 1 := rfl
  have k1 : toD S dataDepth (.ref a) = some (.list []) := by rw [e, toD_lst h1, toDs_nil]; rfl
  have k2 : toD S dataDepth (.ref b) = some (.list []) := by rw [e, toD_lst h2, toDs_nil]; rfl
  have hc : (PyData.list []).canLay0 = true := by simp [PyData.canLay0, PyData.canLayAll0]
  constructor
  · unfold neW; rw [eqD_of k1 k2 hc hc, SeqAt.eqv_refl _ hc]; rfl
  · unfold eqW; rw [eqD_of k1 k2 hc hc, SeqAt.eqv_refl _ hc]
end K08

set_option Elab.async false
set_option linter.all false
set_option maxRecDepth 100000
set_option maxHeartbeats 800000
/-! N3: errors with their fields; all is right. -/
namespace K08
open PySem DL

def F0 : List (Nat × (Str → Bool) × Str) := [(0, isf_path, "path"), (1, isf_label, "label"), (2, isf_position, "position"), (3, isf_name, "name"), (4, isf_path, "path"), (5, isf_path, "path")]
def F1 : List (Nat × (Str → Bool) × Str) := [(6, isf_label, "label"), (7, isf_order, "order"), (8, isf_line, "line"), (9, isf_rank, "rank"), (10, isf_path, "path"), (11, isf_limit, "limit")]
def E0 : List (Nat × (Str → Bool) × Str) := [(0, isf_label, "label"), (1, isf_length, "length"), (2, isf_reason, "reason"), (3, isf_label, "label"), (4, isf_label, "label"), (5, isf_label, "label")]
def E1 : List (Nat × (Str → Bool) × Str) := [(6, isf_length, "length")]
theorem f0_ok : ∀ p ∈ F0, ∃ C, (cs0 ++ cs1 ++ cs2)[p.1]? = some (C, p.2.2) ∧ p.2.1 C = true := by
  intro p m
  simp only [F0, List.mem_cons, List.not_mem_nil, or_false] at m
  rcases m with rfl | rfl | rfl | rfl | rfl | rfl
  · exact ⟨"InvalidForest", rfl, by decide +kernel⟩
  · exact ⟨"InvalidLabel", rfl, by decide +kernel⟩
  · exact ⟨"InvalidRun", rfl, by decide +kernel⟩
  · exact ⟨"InvalidSelection", rfl, by decide +kernel⟩
  · exact ⟨"InvalidNumbers", rfl, by decide +kernel⟩
  · exact ⟨"InvalidPrices", rfl, by decide +kernel⟩
theorem f1_ok : ∀ p ∈ F1, ∃ C, (cs0 ++ cs1 ++ cs2)[p.1]? = some (C, p.2.2) ∧ p.2.1 C = true := by
  intro p m
  simp only [F1, List.mem_cons, List.not_mem_nil, or_false] at m
  rcases m with rfl | rfl | rfl | rfl | rfl | rfl
  · exact ⟨"InvalidTable", rfl, by decide +kernel⟩
  · exact ⟨"InvalidOrder", rfl, by decide +kernel⟩
  · exact ⟨"InvalidText", rfl, by decide +kernel⟩
  · exact ⟨"InvalidRank", rfl, by decide +kernel⟩
  · exact ⟨"InvalidEdit", rfl, by decide +kernel⟩
  · exact ⟨"TooLarge", rfl, by decide +kernel⟩
theorem e0_ok : ∀ p ∈ E0, ∃ C, (ds0 ++ ds1)[p.1]? = some (C, p.2.2) ∧ p.2.1 C = true := by
  intro p m
  simp only [E0, List.mem_cons, List.not_mem_nil, or_false] at m
  rcases m with rfl | rfl | rfl | rfl | rfl | rfl
  · exact ⟨"NotRemovable", rfl, by decide +kernel⟩
  · exact ⟨"NothingRemains", rfl, by decide +kernel⟩
  · exact ⟨"Unreachable", rfl, by decide +kernel⟩
  · exact ⟨"NotRoot", rfl, by decide +kernel⟩
  · exact ⟨"NotChild", rfl, by decide +kernel⟩
  · exact ⟨"WouldLoop", rfl, by decide +kernel⟩
theorem e1_ok : ∀ p ∈ E1, ∃ C, (ds0 ++ ds1)[p.1]? = some (C, p.2.2) ∧ p.2.1 C = true := by
  intro p m
  simp only [E1, List.mem_cons, List.not_mem_nil, or_false] at m
  subst m
  exact ⟨"NotClearing", rfl, by decide +kernel⟩
theorem rep_disp {sw : SW} {S : Hs} {t : DA} {n : Nat} {w : W} (ht : t sw S = .ok (List.replicate n w) S) (hn : n ≤ 100) : dlst t sw S = .ok (.ref S.length) (S ++ [.lst (List.replicate n w)]) := by
  have hz : sizeLine = 16777216 := sizeLine_eq
  rw [dlst_ap, ht]
  simp only [R.bind_ok]
  rw [if_pos (by rw [List.length_replicate]; omega)]
theorem rep_more {sw : SW} {S : Hs} {t : DA} {n m q : Nat} {w : W} (h2 : sw[2]? = some (some (.ref q))) (hq : S[q]? = some (.lst (List.replicate n w))) (ht : t sw S = .ok (List.replicate m w) S) (hn : n ≤ 100) (hm : m ≤ 100) :
    dbin addW (dvar 2) (dlst t) sw S = .ok (.ref (S.length + 1)) (S ++ [.lst (List.replicate m w), .lst (List.replicate (n + m) w)]) := by
  have hz : sizeLine = 16777216 := sizeLine_eq
  have l1 : lstOf (S ++ [.lst (List.replicate m w)]) (.ref q) = some (List.replicate n w) := lstOf_at_ (get_pre hq)
  rw [dbin_ap, dvar_ap, h2]
  simp only [R.bind_ok]
  rw [rep_disp ht hm]
  simp only [R.bind_ok]
  unfold addW
  simp only [l1, lstOf_last]
  rw [if_pos (by rw [List.length_replicate, List.length_replicate]; omega), List.replicate_append_replicate]
  simp
theorem ret_two {sw : SW} {S S1 S2 : Hs} {a b : DE} {x y : W} (ha : a sw S = .ok x S1) (hb : b sw S1 = .ok y S2) : dlst (dcons a (dcons b dnil)) sw S = .ok (.ref S2.length) (S2 ++ [.lst [x, y]]) := by
  have hz2 : 2 ≤ sizeLine := by rw [sizeLine_eq]; decide
  rw [dlst_ap, dcons_ap, ha]
  simp only [R.bind_ok, dcons_ap, hb, dnil_ap, List.length_cons, List.length_nil, if_pos hz2]
theorem law_arguments_ok (w : W) (S : Hs) : ∃ (q a b : Nat) (T : Hs), den_law_arguments [w] S = .ok (.ref q) (S ++ T) ∧ (S ++ T)[q]? = some (.lst [.ref a, .ref b]) ∧ Errs (S ++ T) a (cs0 ++ cs1 ++ cs2) w ∧ (S ++ T)[b]? = some (.lst (List.replicate 12 w)) := by
  obtain ⟨e1, g1⟩ := errs_disp (sw := [some w, none, none]) (w := w) rfl (cs := cs0) (Nat.le_of_ble_eq_true rfl) S
  rw [List.append_assoc] at e1 g1
  generalize hT1 : excs w cs0 ++ [WO.lst ((refsF S.length cs0.length).map W.ref)] = T1 at e1 g1
  generalize hq1 : (S ++ excs w cs0).length = q1 at e1 g1
  obtain ⟨q2, T2, e2, g2, _⟩ := errs_more (sw := [some w, some (.ref q1), none]) (w := w) rfl rfl (ds := cs1) g1 (Nat.le_of_ble_eq_true rfl) (Nat.le_of_ble_eq_true rfl)
  obtain ⟨q3, T3, e3, g3, _⟩ := errs_more (sw := [some w, some (.ref q2), none]) (w := w) rfl rfl (ds := cs2) g2 (Nat.le_of_ble_eq_true rfl) (Nat.le_of_ble_eq_true rfl)
  generalize hS3 : S ++ T1 ++ T2 ++ T3 = S3 at e3 g3
  have f0 := fld_all (sw := [some w, some (.ref q3), none]) rfl g3 F0 f0_ok
  have e4 := rep_disp f0 (Nat.le_of_ble_eq_true rfl)
  have g4 := g3.app [.lst (List.replicate F0.length w)]
  have f1 := fld_all (sw := [some w, some (.ref q3), some (.ref S3.length)]) rfl g4 F1 f1_ok
  have e5 := rep_more (sw := [some w, some (.ref q3), some (.ref S3.length)]) rfl (last_app _ _) f1 (Nat.le_of_ble_eq_true rfl) (Nat.le_of_ble_eq_true rfl)
  generalize hS5 : S3 ++ [WO.lst (List.replicate F0.length w)] ++ [WO.lst (List.replicate F1.length w), .lst (List.replicate (F0.length + F1.length) w)] = S5 at e5
  have hl4 : (S3 ++ [WO.lst (List.replicate F0.length w)]).length = S3.length + 1 := by simp
  rw [hl4] at e5
  have e6 : dlst (dcons (dvar 1) (dcons (dvar 2) dnil)) [some w, some (.ref q3), some (.ref (S3.length + 1 + 1))] S5 = .ok (.ref S5.length) (S5 ++ [.lst [.ref q3, .ref (S3.length + 1 + 1)]]) := ret_two rfl rfl
  have hb : b_law_arguments [some w, none, none] S = .rt (.ref S5.length) (S5 ++ [.lst [.ref q3, .ref (S3.length + 1 + 1)]]) := by
    show sseq (sasg (dlst (mkA cs0)) (gname 1)) (sseq (sasg (dbin addW (dvar 1) (dlst (mkA cs1))) (gname 1)) (sseq (sasg (dbin addW (dvar 1) (dlst (mkA cs2))) (gname 1)) (sseq (sasg (dlst (fldA F0)) (gname 2)) (sseq (sasg (dbin addW (dvar 2) (dlst (fldA F1))) (gname 2)) (sret (dlst (dcons (dvar 1) (dcons (dvar 2) dnil)))))))) [some w, none, none] S = _
    have a1 : ∀ (x y : Option W) (e : DE) (q : Nat) (S S' : Hs), e [some w, x, y] S = .ok (.ref q) S' → sasg e (gname 1) [some w, x, y] S = .nx [some w, some (.ref q), y] S' := fun x y e q S S' he => by rw [sasg_ap, he, R.to_ok, gname_ap]; rfl
    have a2 : ∀ (x y : Option W) (e : DE) (q : Nat) (S S' : Hs), e [some w, x, y] S = .ok (.ref q) S' → sasg e (gname 2) [some w, x, y] S = .nx [some w, x, some (.ref q)] S' := fun x y e q S S' he => by rw [sasg_ap, he, R.to_ok, gname_ap]; rfl
    rw [sseq_ap, a1 _ _ _ _ _ _ e1, RS.seq_nx, sseq_ap, a1 _ _ _ _ _ _ e2, RS.seq_nx, sseq_ap, a1 _ _ _ _ _ _ e3, RS.seq_nx, sseq_ap, a2 _ _ _ _ _ _ e4, RS.seq_nx, sseq_ap, a2 _ _ _ _ _ _ e5, RS.seq_nx, sret_ap, e6, R.to_ok]
  have hS : ∃ Z, S5 = S ++ Z := ⟨T1 ++ T2 ++ T3 ++ [WO.lst (List.replicate F0.length w)] ++ [WO.lst (List.replicate F1.length w), .lst (List.replicate (F0.length + F1.length) w)], by rw [← hS5, ← hS3]; simp only [List.append_assoc]⟩
  obtain ⟨Z, hZ⟩ := hS
  refine ⟨S5.length, q3, S3.length + 1 + 1, Z ++ [.lst [.ref q3, .ref (S3.length + 1 + 1)]], ?_, ?_, ?_, ?_⟩
  · refine (defD_rt (n := 3) (f := b_law_arguments) (ws := [w]) hb).trans ?_
    rw [← List.append_assoc, ← hZ]
    exact trim_fresh (by rw [refIn]; exact decide_eq_false (by rw [hZ]; simp))
  · rw [← List.append_assoc, ← hZ]
    exact last_app _ _
  · rw [← List.append_assoc, ← hZ, ← hS5]
    exact (g4.app _).app _
  · rw [← List.append_assoc, ← hZ, ← hS5]
    refine get_pre ?_
    rw [show S3.length + 1 + 1 = (S3 ++ [WO.lst (List.replicate F0.length w)]).length + 1 by rw [hl4], get_app]
    rfl
theorem law_states_ok (w : W) (S : Hs) : ∃ (q a b : Nat) (T : Hs), den_law_states [w] S = .ok (.ref q) (S ++ T) ∧ (S ++ T)[q]? = some (.lst [.ref a, .ref b]) ∧ Errs (S ++ T) a (ds0 ++ ds1) w ∧ (S ++ T)[b]? = some (.lst (List.replicate 7 w)) := by
  obtain ⟨e1, g1⟩ := errs_disp (sw := [some w, none, none]) (w := w) rfl (cs := ds0) (Nat.le_of_ble_eq_true rfl) S
  rw [List.append_assoc] at e1 g1
  generalize hT1 : excs w ds0 ++ [WO.lst ((refsF S.length ds0.length).map W.ref)] = T1 at e1 g1
  generalize hq1 : (S ++ excs w ds0).length = q1 at e1 g1
  obtain ⟨q3, T3, e3, g3, _⟩ := errs_more (sw := [some w, some (.ref q1), none]) (w := w) rfl rfl (ds := ds1) g1 (Nat.le_of_ble_eq_true rfl) (Nat.le_of_ble_eq_true rfl)
  generalize hS3 : S ++ T1 ++ T3 = S3 at e3 g3
  have f0 := fld_all (sw := [some w, some (.ref q3), none]) rfl g3 E0 e0_ok
  have e4 := rep_disp f0 (Nat.le_of_ble_eq_true rfl)
  have g4 := g3.app [.lst (List.replicate E0.length w)]
  have f1 := fld_all (sw := [some w, some (.ref q3), some (.ref S3.length)]) rfl g4 E1 e1_ok
  have e5 := rep_more (sw := [some w, some (.ref q3), some (.ref S3.length)]) rfl (last_app _ _) f1 (Nat.le_of_ble_eq_true rfl) (Nat.le_of_ble_eq_true rfl)
  generalize hS5 : S3 ++ [WO.lst (List.replicate E0.length w)] ++ [WO.lst (List.replicate E1.length w), .lst (List.replicate (E0.length + E1.length) w)] = S5 at e5
  have hl4 : (S3 ++ [WO.lst (List.replicate E0.length w)]).length = S3.length + 1 := by simp
  rw [hl4] at e5
  have e6 : dlst (dcons (dvar 1) (dcons (dbin addW (dvar 2) (dlst (fldA E1))) dnil)) [some w, some (.ref q3), some (.ref S3.length)] (S3 ++ [WO.lst (List.replicate E0.length w)]) = .ok (.ref S5.length) (S5 ++ [.lst [.ref q3, .ref (S3.length + 1 + 1)]]) := ret_two rfl e5
  have hb : b_law_states [some w, none, none] S = .rt (.ref S5.length) (S5 ++ [.lst [.ref q3, .ref (S3.length + 1 + 1)]]) := by
    show sseq (sasg (dlst (mkA ds0)) (gname 1)) (sseq (sasg (dbin addW (dvar 1) (dlst (mkA ds1))) (gname 1)) (sseq (sasg (dlst (fldA E0)) (gname 2)) (sret (dlst (dcons (dvar 1) (dcons (dbin addW (dvar 2) (dlst (fldA E1))) dnil)))))) [some w, none, none] S = _
    have a1 : ∀ (x y : Option W) (e : DE) (q : Nat) (S S' : Hs), e [some w, x, y] S = .ok (.ref q) S' → sasg e (gname 1) [some w, x, y] S = .nx [some w, some (.ref q), y] S' := fun x y e q S S' he => by rw [sasg_ap, he, R.to_ok, gname_ap]; rfl
    have a2 : ∀ (x y : Option W) (e : DE) (q : Nat) (S S' : Hs), e [some w, x, y] S = .ok (.ref q) S' → sasg e (gname 2) [some w, x, y] S = .nx [some w, x, some (.ref q)] S' := fun x y e q S S' he => by rw [sasg_ap, he, R.to_ok, gname_ap]; rfl
    rw [sseq_ap, a1 _ _ _ _ _ _ e1, RS.seq_nx, sseq_ap, a1 _ _ _ _ _ _ e3, RS.seq_nx, sseq_ap, a2 _ _ _ _ _ _ e4, RS.seq_nx, sret_ap, e6, R.to_ok]
  have hS : ∃ Z, S5 = S ++ Z := ⟨T1 ++ T3 ++ [WO.lst (List.replicate E0.length w)] ++ [WO.lst (List.replicate E1.length w), .lst (List.replicate (E0.length + E1.length) w)], by rw [← hS5, ← hS3]; simp only [List.append_assoc]⟩
  obtain ⟨Z, hZ⟩ := hS
  refine ⟨S5.length, q3, S3.length + 1 + 1, Z ++ [.lst [.ref q3, .ref (S3.length + 1 + 1)]], ?_, ?_, ?_, ?_⟩
  · refine (defD_rt (n := 3) (f := b_law_states) (ws := [w]) hb).trans ?_
    rw [← List.append_assoc, ← hZ]
    exact trim_fresh (by rw [refIn]; exact decide_eq_false (by rw [hZ]; simp))
  · rw [← List.append_assoc, ← hZ]
    exact last_app _ _
  · rw [← List.append_assoc, ← hZ, ← hS5]
    exact (g4.app _).app _
  · rw [← List.append_assoc, ← hZ, ← hS5]
    refine get_pre ?_
    rw [show S3.length + 1 + 1 = (S3 ++ [WO.lst (List.replicate E0.length w)]).length + 1 by rw [hl4], get_app]
    rfl
/-- the field is data -/
structure FieldP (S : Hs) (w : W) (d : PyData) : Prop where
  td : ∀ T, toD (S ++ T) (38 + 1) w = some d
  sh : Shows d 40
theorem FieldP.app {S : Hs} {w : W} {d : PyData} (h : FieldP S w d) (Z : Hs) : FieldP (S ++ Z) w d := ⟨fun T => by rw [List.append_assoc]; exact h.td _, h.sh⟩
theorem rep_toD {S : Hs} {r n : Nat} {w : W} {d : PyData} (h : S[r]? = some (.lst (List.replicate n w))) (hd : toD S (38 + 1) w = some d) : toD S dataDepth (.ref r) = some (.list (List.replicate n d)) := by
  have e : dataDepth = 38 + 1 + 1 := rfl
  have td : toDs (toD S (38 + 1)) (List.replicate n w) = some (List.replicate n d) := by
    have := toDs_all (f := toD S (38 + 1)) (a := fun _ : Nat => w) (d := fun _ => d) (l := List.range n) fun _ _ => hd
    simpa [List.map_const'] using this
  rw [e, toD_lst h, td]; rfl
theorem all_right_ok {g : Nat} (hg : g < 3) {a b n : Nat} {w : W} {d : PyData} {cs : List (Str × Str)} {S : Hs} (hc : cs.length = n) (hn : n ≤ 20) (hall : cs.all (fun p => okC g p.1) = true) (he : Errs S a cs w) (hb : S[b]? = some (.lst (List.replicate n w))) (hf : FieldP S w d) :
    den_law_all_right [.ref a, .ref b, .int (g : Nat), w] S = .ok (.bl true) S := by
  have hz : sizeLine = 16777216 := sizeLine_eq
  have hz0 : 0 ≤ sizeLine := Nat.zero_le _
  have hz1 : 1 ≤ sizeLine := by rw [hz]; decide
  obtain ⟨rs, r1, r2, r3⟩ := he.ex
  -- the texts
  have m1 : dbin mulW (dlst (dcons (dvar 3) dnil)) (dcB lenW (dcons (dvar 0) dnil)) [some (.ref a), some (.ref b), some (.int (g : Nat)), some w, none, none, none] S = .ok (.ref (S.length + 1)) (S ++ [.lst [w], .lst (List.replicate n w)]) := by
    have ln : lenW [.ref a] (S ++ [.lst [w]]) = .ok (.int (n : Nat)) (S ++ [.lst [w]]) := len_lst (get_pre r1) (by rw [List.length_map]; omega)
    have mu : mulW (.ref S.length) (.int (n : Nat)) (S ++ [.lst [w]]) = .ok (.ref (S.length + 1)) (S ++ [.lst [w], .lst (List.replicate n w)]) := by
      have hr : repV (n : Int) [w] = List.replicate n w := by
        unfold repV
        rw [Int.toNat_natCast]
        clear ln hn hc hb
        induction n with
        | zero => rfl
        | succ k ih => rw [List.replicate_succ, List.flatten_cons, List.replicate_succ, ih]; rfl
      unfold mulW
      simp only [get_app0, List.getElem?_cons_zero]
      rw [if_pos ⟨by omega, by omega, by rw [Int.toNat_natCast, hz]; show 1 * n ≤ _; omega⟩, hr]
      simp
    rw [dbin_ap, dlst_ap, dcons_ap, dvar_ap]
    simp only [List.getElem?_cons_succ, List.getElem?_cons_zero, R.bind_ok, dnil_ap, List.length_cons, List.length_nil, if_pos hz1, dcB_ap, dcons_ap, dvar_ap, ln, mu]
  have n1 := ne_reprs (ex := dvar 1) (ey := dbin mulW (dlst (dcons (dvar 3) dnil)) (dcB lenW (dcons (dvar 0) dnil))) (sw := [some (.ref a), some (.ref b), some (.int (g : Nat)), some w, none, none, none]) (S := S) (S1 := S) rfl (rep_toD hb (by have := hf.td []; rwa [List.append_nil] at this)) m1 (rep_toD (by rw [get_app]; rfl) (hf.td _)) (n := 900) ((shows_list (n := 40) (xs := List.replicate n d) fun x m => by rw [(List.mem_replicate.mp m).2]; exact hf.sh).mono (by rw [List.length_replicate]; omega)) (by decide)
  generalize hS1 : S ++ [WO.lst [w], .lst (List.replicate n w)] = S1 at *
  have up1 : ∃ Z, S1 = S ++ Z := ⟨_, hS1.symm⟩
  -- what is due
  have c2 : dlc [5] i_law_all_right_1 g_law_all_right_1 dyes e_law_all_right_1 [some (.ref a), some (.ref b), some (.int (g : Nat)), some w, none, none, none] S1 = .ok (.ref S1.length) (S1 ++ [.lst ([g == 0, g == 1, g == 2].map .bl)]) := by
    refine (dlc_map (i := ⟨rgW 0 3, fun _ => true⟩) (fun x => match x with | .int i => .bl (i == (g : Int)) | _ => .non) ?_ rfl (fun x m => ?_) (by rw [hz]; decide)).trans ?_
    · rw [i_law_all_right_1, diargs_ap]
      simp only [dcons_ap, dcon_ap, R.bind_ok, dnil_ap]
      exact itRange_nat (n := 3) (by decide) _
    · obtain ⟨p, hp, rfl⟩ : ∃ p : Nat, p < 3 ∧ x = .int (p : Nat) := by
        unfold rgW at m
        obtain ⟨p, hp, rfl⟩ := List.mem_map.mp m
        exact ⟨p, List.mem_range.mp hp, by rw [Int.zero_add]⟩
      refine ⟨[some (.ref a), some (.ref b), some (.int (g : Nat)), some w, none, some (.int (p : Nat)), none], by simp [g_law_all_right_1, wipeW], ?_⟩
      unfold e_law_all_right_1
      rw [dbin_ap, dvar_ap]
      simp only [List.getElem?_cons_succ, List.getElem?_cons_zero, R.bind_ok, dvar_ap]
      unfold eqW; rw [eqD_int]
    · congr 3
      have : g = 0 ∨ g = 1 ∨ g = 2 := by omega
      rcases this with rfl | rfl | rfl <;> rfl
  generalize hD : [g == 0, g == 1, g == 2] = D at *
  obtain ⟨Z1, rfl⟩ := up1
  generalize hS2 : S ++ Z1 ++ [WO.lst (D.map W.bl)] = S2 at *
  have up2 : S2 = S ++ (Z1 ++ [WO.lst (D.map W.bl)]) := by rw [← hS2, List.append_assoc]
  have gD : ∀ T, (S2 ++ T)[(S ++ Z1).length]? = some (.lst (D.map .bl)) := fun T => get_pre (by rw [← hS2]; exact last_app _ _)
  have old : ∀ (T : Hs) {k : Nat} {o : WO}, S[k]? = some o → (S2 ++ T)[k]? = some o := fun T k o h => get_pre (by rw [up2]; exact get_pre h)
  -- the items
  have it : ∀ x ∈ rs.map W.ref, ∃ (r : Nat) (p : Str × Str), x = .ref r ∧ okC g p.1 = true ∧ S[r]? = some (.exc p.1 [(p.2, w)]) := fun x m => by
    obtain ⟨r, hr, rfl⟩ := List.mem_map.mp m
    obtain ⟨i, hi⟩ := List.mem_iff_getElem?.mp hr
    have hil := (List.getElem?_eq_some_iff.mp hi).1
    have hp : cs[i]? = some (cs[i]'(by omega)) := List.getElem?_eq_getElem (by omega)
    exact ⟨r, _, rfl, List.all_eq_true.mp hall _ (List.mem_of_getElem? hp), r3 i r _ hi hp⟩
  have gi : ∀ (x6 : Option W) (T : Hs), i_law_all_right_2 [some (.ref a), some (.ref b), some (.int (g : Nat)), some w, some (.ref (S ++ Z1).length), none, x6] (S2 ++ T) = .ok ⟨rs.map .ref, guardOf (.ref a) (rs.map .ref)⟩ (S2 ++ T) := fun x6 T => by
    have ha := old T r1
    rw [i_law_all_right_2, diseq_ap, dvar_ap]
    show itSeq (.ref a) (S2 ++ T) = _
    simp [itSeq, seqW, ha]
  have gd : ∀ T T', guardOf (.ref a) (rs.map .ref) (S2 ++ T ++ T') = true := fun T T' => decide_eq_true (get_pre (old T r1))
  have t1 : ∀ T, ∃ T', dlc [6] i_law_all_right_2 g_law_all_right_2 t_law_all_right_1 e_law_all_right_2 [some (.ref a), some (.ref b), some (.int (g : Nat)), some w, some (.ref (S ++ Z1).length), none, none] (S2 ++ T) = .ok (.ref (S2 ++ T ++ T').length) (S2 ++ T ++ T' ++ [.lst []]) := fun T => by
    obtain ⟨T', e⟩ := compD_none (guard := guardOf (.ref a) (rs.map .ref)) (g := g_law_all_right_2) (tt := t_law_all_right_1) (te := e_law_all_right_2) (sw := wipeW [some (.ref a), some (.ref b), some (.int (g : Nat)), some w, some (.ref (S ++ Z1).length), none, none] [6]) (rs.map .ref) (S2 ++ T) (gd T) (fun x m Y => by
      obtain ⟨r, p, rfl, hok, hr⟩ := it x m
      obtain ⟨q, Y2, e1, e2⟩ := law_bases_ok hok (get_pre (T := Y) (old T hr))
      rw [hD] at e2
      refine ⟨[some (.ref a), some (.ref b), some (.int (g : Nat)), some w, some (.ref (S ++ Z1).length), none, some (.ref r)], Y2 ++ [.lst ((D ++ D).map .bl)], by simp [g_law_all_right_2, wipeW], ?_⟩
      have c := call1 (i := 6) (w := .ref r) (sw := [some (.ref a), some (.ref b), some (.int (g : Nat)), some w, some (.ref (S ++ Z1).length), none, some (.ref r)]) (S := S2 ++ T ++ Y) (g := den_law_bases) (ds := dfl_law_bases) rfl
      have gd1 : (S2 ++ T ++ Y ++ Y2)[(S ++ Z1).length]? = some (.lst (D.map .bl)) := get_pre (get_pre (gD T))
      have ad : addW (.ref (S ++ Z1).length) (.ref (S ++ Z1).length) (S2 ++ T ++ Y ++ Y2) = .ok (.ref (S2 ++ T ++ Y ++ Y2).length) (S2 ++ T ++ Y ++ Y2 ++ [.lst ((D ++ D).map .bl)]) := by
        unfold addW
        simp only [lstOf_at_ gd1]
        rw [if_pos (by rw [← hD, hz]; exact Nat.le_of_ble_eq_true rfl), ← List.map_append]
      have nn := eq_bools_same (S := S2 ++ T ++ Y ++ Y2 ++ [.lst ((D ++ D).map .bl)]) (get_pre e2) (last_app _ _)
      unfold t_law_all_right_1
      rw [dtst_ap, dbin_ap, c, e1]
      simp only [R.bind_ok, dbin_ap, dvar_ap, List.getElem?_cons_succ, List.getElem?_cons_zero, ad, nn]
      rw [List.append_assoc (S2 ++ T ++ Y)])
    refine ⟨T', ?_⟩
    rw [dlc_ap, gi, R.bind_ok, e, R.bind_ok]
  have t2 : ∀ T, ∃ T', dlc [6] i_law_all_right_2 g_law_all_right_2 t_law_all_right_2 e_law_all_right_2 [some (.ref a), some (.ref b), some (.int (g : Nat)), some w, some (.ref (S ++ Z1).length), none, none] (S2 ++ T) = .ok (.ref (S2 ++ T ++ T').length) (S2 ++ T ++ T' ++ [.lst []]) := fun T => by
    obtain ⟨T', e⟩ := compD_none (guard := guardOf (.ref a) (rs.map .ref)) (g := g_law_all_right_2) (tt := t_law_all_right_2) (te := e_law_all_right_2) (sw := wipeW [some (.ref a), some (.ref b), some (.int (g : Nat)), some w, some (.ref (S ++ Z1).length), none, none] [6]) (rs.map .ref) (S2 ++ T) (gd T) (fun x m Y => by
      obtain ⟨r, p, rfl, hok, hr⟩ := it x m
      obtain ⟨q, Y2, e1, e2⟩ := law_kinds_ok hok (get_pre (T := Y) (old T hr))
      refine ⟨[some (.ref a), some (.ref b), some (.int (g : Nat)), some w, some (.ref (S ++ Z1).length), none, some (.ref r)], Y2, by simp [g_law_all_right_2, wipeW], ?_⟩
      have c := call1 (i := 6) (w := .ref r) (sw := [some (.ref a), some (.ref b), some (.int (g : Nat)), some w, some (.ref (S ++ Z1).length), none, some (.ref r)]) (S := S2 ++ T ++ Y) (g := den_law_kinds) (ds := dfl_law_kinds) rfl
      have ty : tyW (S2 ++ T ++ Y ++ Y2) "list" (.ref q) = true := by simp only [tyW, e2]; rfl
      have cn := count_bools e2
      rw [(okC_isa hok).2.2.1] at cn
      have n1 : ∀ S, neW (.int ((1 : Nat) : Int)) (.int 1) S = .ok (.bl false) S := fun S => by unfold neW; rw [eqD_int]; rfl
      unfold t_law_all_right_2
      rw [dtst_ap, dbin_ap, dmeth_ap, c, e1]
      simp only [R.bind_ok, ty, if_true, dcons_ap, dcon_ap, dnil_ap, cn, n1])
    refine ⟨T', ?_⟩
    rw [dlc_ap, gi, R.bind_ok, e, R.bind_ok]
  obtain ⟨T1, e1⟩ := t1 []
  rw [List.append_nil] at e1
  have eq1 := (eq_nils (S := S2 ++ T1 ++ [WO.lst []] ++ [WO.lst []]) (a := (S2 ++ T1).length) (b := (S2 ++ T1 ++ [WO.lst []]).length) (get_pre (last_app _ _)) (last_app _ _)).1
  obtain ⟨T2, e2⟩ := t2 (T1 ++ [WO.lst []] ++ [WO.lst []])
  simp only [← List.append_assoc] at e2
  have eq2 := (eq_nils (S := S2 ++ T1 ++ [WO.lst []] ++ [WO.lst []] ++ T2 ++ [WO.lst []] ++ [WO.lst []]) (a := (S2 ++ T1 ++ [WO.lst []] ++ [WO.lst []] ++ T2).length) (b := (S2 ++ T1 ++ [WO.lst []] ++ [WO.lst []] ++ T2 ++ [WO.lst []]).length) (get_pre (last_app _ _)) (last_app _ _)).2
  have hlt : ∃ Z, S2 ++ T1 ++ [WO.lst []] ++ [WO.lst []] ++ T2 ++ [WO.lst []] ++ [WO.lst []] = S ++ Z := ⟨(Z1 ++ [WO.lst (D.map W.bl)]) ++ T1 ++ [WO.lst []] ++ [WO.lst []] ++ T2 ++ [WO.lst []] ++ [WO.lst []], by rw [up2]; simp only [List.append_assoc]⟩
  obtain ⟨Z, hZ⟩ := hlt
  have nil_ : ∀ sw S, dlst dnil sw S = .ok (.ref S.length) (S ++ [.lst []]) := fun sw S => by rw [dlst_ap, dnil_ap]; simp only [R.bind_ok, List.length_nil, if_pos hz0]
  refine defD_rtP (n := 7) (f := b_law_all_right) (T := Z) ?_ rfl
  show b_law_all_right [some (.ref a), some (.ref b), some (.int (g : Nat)), some w, none, none, none] S = _
  rw [← hZ]
  unfold b_law_all_right
  rw [sseq_ap, sif_ap, dtst_ap, n1]
  simp only [R.bind_ok, R.to_ok, Bool.false_eq_true, if_false, snil_ap, RS.seq_nx]
  rw [sseq_ap, sasg_ap, c2, R.to_ok, gname_ap]
  simp only [List.set_cons_succ, List.set_cons_zero, RS.seq_nx]
  rw [sseq_ap, sif_ap, dtst_ap, dbin_ap, e1]
  simp only [R.bind_ok, nil_, eq1, R.to_ok, Bool.false_eq_true, if_false, snil_ap, RS.seq_nx]
  rw [sret_ap, dbin_ap, e2]
  simp only [R.bind_ok, nil_, eq2, R.to_ok]
end K08

set_option Elab.async false
set_option linter.all false
set_option maxRecDepth 100000
set_option maxHeartbeats 800000
/-! M: the law k08. -/
namespace K08
open PySem DL

def fieldsL (r : Nat) : List W := [.tup [], .tup [.int 3], .tup [.int 1, .str "up"], .int 0, .int (-1), .int 61, .str "both", .non, .str "selection", .tup [.int 0, .int 1, .int 2], .bl true, .ref r]
theorem field_pure {w : W} {d : PyData} (td : ∀ S, toD S (38 + 1) w = some d) (sh : Shows d 40) (S : Hs) : FieldP S w d := ⟨fun T => td _, sh⟩
theorem fields_all {r : Nat} {S : Hs} (h : S[r]? = some (.lst [])) : ∀ w ∈ fieldsL r, ∃ d, FieldP S w d := by
  intro w m
  simp only [fieldsL, List.mem_cons, List.not_mem_nil, or_false] at m
  rcases m with rfl | rfl | rfl | rfl | rfl | rfl | rfl | rfl | rfl | rfl | rfl | rfl
  · exact ⟨.tuple [], field_pure (fun S => by simp) ⟨by decide +kernel, by decide +kernel, by decide +kernel⟩ S⟩
  · exact ⟨.tuple [.int 3], field_pure (fun S => by simp) ⟨by decide +kernel, by decide +kernel, by decide +kernel⟩ S⟩
  · exact ⟨.tuple [.int 1, .str "up"], field_pure (fun S => by simp) ⟨by decide +kernel, by decide +kernel, by decide +kernel⟩ S⟩
  · exact ⟨.int 0, field_pure (fun S => by simp) (shows_int (by decide)) S⟩
  · exact ⟨.int (-1), field_pure (fun S => by simp) (shows_int (by decide)) S⟩
  · exact ⟨.int 61, field_pure (fun S => by simp) (shows_int (by decide)) S⟩
  · exact ⟨.str "both", field_pure (fun S => by simp) ⟨by decide +kernel, by decide +kernel, by decide +kernel⟩ S⟩
  · exact ⟨.none, field_pure (fun S => by simp) shows_none S⟩
  · exact ⟨.str "selection", field_pure (fun S => by simp) ⟨by decide +kernel, by decide +kernel, by decide +kernel⟩ S⟩
  · exact ⟨.tuple [.int 0, .int 1, .int 2], field_pure (fun S => by simp) ⟨by decide +kernel, by decide +kernel, by decide +kernel⟩ S⟩
  · exact ⟨.bool true, field_pure (fun S => by simp) (shows_bool _) S⟩
  · refine ⟨.list [], ⟨fun T => ?_, ⟨by decide +kernel, by decide +kernel, by decide +kernel⟩⟩⟩
    rw [toD_lst (get_pre h)]; rfl
theorem right_call {sw : SW} {S : Hs} {g : Nat} {x y w : W} {e4 e5 : DE} {S1 S2 : Hs} (h4 : e4 sw S = .ok x S1) (h5 : e5 sw S1 = .ok y S2) (h3 : sw[3]? = some (some w)) (hr : den_law_all_right [x, y, .int (g : Nat), w] S2 = .ok (.bl true) S2) :
    sif (dnotT (dtru (dcallK 4 0 [0, 1, 2, 3] (sel [] dfl_law_all_right) den_law_all_right (dcons e4 (dcons e5 (dcons (dcon (.int (g : Nat))) (dcons (dvar 3) dnil)))) dnil))) (sret (dcon (.bl false))) snil sw S = .nx sw S2 := by
  have q : sel [0, 1, 2, 3] ([x, y, W.int (g : Nat), w] ++ [] ++ sel [] dfl_law_all_right) = [x, y, W.int (g : Nat), w] := rfl
  rw [sif_ap, dnotT_ap, dtru_ap, dcallK_ap]
  simp only [dcons_ap, h4, R.bind_ok, h5, dcon_ap, dvar_ap, h3, dnil_ap, List.length_cons, List.length_nil, and_self, if_true, q, hr, truth_bl, Bool.not_true, R.to_ok, Bool.false_eq_true, if_false, snil_ap]
theorem turn_ok {s : Sc} {m : Nat} (hs : s.ok m) (hm : m < 1000000) (B : Hs) (fr : W) (t : Nat) (x3 x4 x5 x6 : Option W) :
    ∃ (s' : Sc) (B' : Hs) (y3 y4 y5 y6 : Option W), s'.ok (m + 1) ∧ l_law_1 [some fr, some (.ref 0), some (.int t), x3, x4, x5, x6] (srcH s ++ B) = .nx [some fr, some (.ref 0), some (.int t), y3, y4, y5, y6] (srcH s' ++ B') := by
  have hz : sizeLine = 16777216 := sizeLine_eq
  have hz0 : 0 ≤ sizeLine := Nat.zero_le _
  have hz1 : 1 ≤ sizeLine := by rw [hz]; decide
  have hz2 : 2 ≤ sizeLine := by rw [hz]; decide
  have hz3 : 3 ≤ sizeLine := by rw [hz]; decide
  have hz12 : 12 ≤ sizeLine := by rw [hz]; decide
  obtain ⟨w, s1, hw, hs1, e1⟩ := pick_lst hs (by omega) (B := B ++ [.lst [], .lst (fieldsL (B.length + 3))]) (r := B.length + 4) (ws := fieldsL (B.length + 3)) (by unfold fieldsL; exact List.cons_ne_nil _ _) (by simp [fieldsL]) (fun s => by rw [show B.length + 4 = B.length + 3 + 1 by omega, s_getB]; rfl)
  obtain ⟨d, hf⟩ := fields_all (r := B.length + 3) (S := srcH s1 ++ (B ++ [.lst [], .lst (fieldsL (B.length + 3))])) (by rw [s_getB0]; rfl) w hw
  have c1 : sasg (dcallK 2 0 [0, 1] (sel [] dfl_law_pick) den_law_pick (dcons (dvar 1) (dcons (dlst (dcons (dtup dnil) (dcons (dtup (dcons (dcon (.int 3)) dnil)) (dcons (dtup (dcons (dcon (.int 1)) (dcons (dcon (.str "up")) dnil))) (dcons (dcon (.int 0)) (dcons (dun negW (dcon (.int 1))) (dcons (dcon (.int 61)) (dcons (dcon (.str "both")) (dcons (dcon .non) (dcons (dcon (.str "selection")) (dcons (dtup (dcons (dcon (.int 0)) (dcons (dcon (.int 1)) (dcons (dcon (.int 2)) dnil)))) (dcons (dcon (.bl true)) (dcons (dlst dnil) dnil))))))))))))) dnil)) dnil) (gname 3)
      [some fr, some (.ref 0), some (.int t), x3, x4, x5, x6] (srcH s ++ B) = .nx [some fr, some (.ref 0), some (.int t), some w, x4, x5, x6] (srcH s1 ++ (B ++ [.lst [], .lst (fieldsL (B.length + 3))])) := by
    have hng : ∀ S, negW (.int 1) S = .ok (.int (-1)) S := fun S => rfl
    have hl1 : (srcH s ++ B).length = B.length + 3 := s_len ..
    have hl2 : (srcH s ++ (B ++ [WO.lst []])).length = B.length + 4 := by rw [s_lenB]; rfl
    have dd : (dlst (dcons (dtup dnil) (dcons (dtup (dcons (dcon (.int 3)) dnil)) (dcons (dtup (dcons (dcon (.int 1)) (dcons (dcon (.str "up")) dnil))) (dcons (dcon (.int 0)) (dcons (dun negW (dcon (.int 1))) (dcons (dcon (.int 61)) (dcons (dcon (.str "both")) (dcons (dcon .non) (dcons (dcon (.str "selection")) (dcons (dtup (dcons (dcon (.int 0)) (dcons (dcon (.int 1)) (dcons (dcon (.int 2)) dnil)))) (dcons (dcon (.bl true)) (dcons (dlst dnil) dnil))))))))))))) [some fr, some (.ref 0), some (.int t), x3, x4, x5, x6] (srcH s ++ B) = .ok (.ref (B.length + 4)) (srcH s ++ (B ++ [.lst [], .lst (fieldsL (B.length + 3))])) := by
      rw [dlst_ap, dcons_ap, dtup_ap, dnil_ap]
      simp only [R.bind_ok, dcons_ap, dcon_ap, dtup_ap, dnil_ap, List.length_cons, List.length_nil, if_pos hz0, if_pos hz1, if_pos hz2, if_pos hz3, dun_ap, hng, dlst_ap, hl1, if_pos hz12, List.append_assoc, hl2]
      rfl
    have cc := (callE (g := den_law_pick) (ds := dfl_law_pick) (i := 1) (w := .ref 0) rfl dd).trans e1
    rw [sasg_ap, cc, R.to_ok, gname_ap]
    rfl
  generalize hB1 : B ++ [WO.lst [], .lst (fieldsL (B.length + 3))] = B1 at *
  generalize hS1 : srcH s1 ++ B1 = S1 at *
  obtain ⟨q2, a2, b2, T2, e2, g2, er2, st2⟩ := law_arguments_ok w S1
  have p2 : sasg (dcallK 1 0 [0] (sel [] dfl_law_arguments) den_law_arguments (dcons (dvar 3) dnil) dnil) (gtupL (ggcons (gname 4) (ggcons (gname 5) ggnil))) [some fr, some (.ref 0), some (.int t), some w, x4, x5, x6] S1 = .nx [some fr, some (.ref 0), some (.int t), some w, some (.ref a2), some (.ref b2), x6] (S1 ++ T2) := by
    rw [sasg_ap, call1 (i := 3) (w := w) rfl, e2, R.to_ok, gtupL_ap, lstOf_at_ g2]
    rfl
  have r2 := right_call (sw := [some fr, some (.ref 0), some (.int t), some w, some (.ref a2), some (.ref b2), x6]) (S := S1 ++ T2) (g := 0) (e4 := dvar 4) (e5 := dvar 5) rfl rfl rfl (all_right_ok (g := 0) (by decide) (cs := cs0 ++ cs1 ++ cs2) (n := 12) rfl (by decide) ok_args er2 st2 (hf.app T2))
  obtain ⟨q3, a3, b3, T3, e3, g3, er3, st3⟩ := law_states_ok w (S1 ++ T2)
  have p3 : sasg (dcallK 1 0 [0] (sel [] dfl_law_states) den_law_states (dcons (dvar 3) dnil) dnil) (gtupL (ggcons (gname 4) (ggcons (gname 5) ggnil))) [some fr, some (.ref 0), some (.int t), some w, some (.ref a2), some (.ref b2), x6] (S1 ++ T2) = .nx [some fr, some (.ref 0), some (.int t), some w, some (.ref a3), some (.ref b3), x6] (S1 ++ T2 ++ T3) := by
    rw [sasg_ap, call1 (i := 3) (w := w) rfl, e3, R.to_ok, gtupL_ap, lstOf_at_ g3]
    rfl
  have r3 := right_call (sw := [some fr, some (.ref 0), some (.int t), some w, some (.ref a3), some (.ref b3), x6]) (S := S1 ++ T2 ++ T3) (g := 1) (e4 := dvar 4) (e5 := dvar 5) rfl rfl rfl (all_right_ok (g := 1) (by decide) (cs := ds0 ++ ds1) (n := 7) rfl (by decide) ok_states er3 st3 ((hf.app T2).app T3))
  generalize hS3 : S1 ++ T2 ++ T3 = S3 at *
  have hf3 : FieldP S3 w d := by rw [← hS3]; exact (hf.app T2).app T3
  have p4 : sasg (dmk "NothingToUndo" "action" (dvar 3)) (gname 6) [some fr, some (.ref 0), some (.int t), some w, some (.ref a3), some (.ref b3), x6] S3 = .nx [some fr, some (.ref 0), some (.int t), some w, some (.ref a3), some (.ref b3), some (.ref S3.length)] (S3 ++ [.exc "NothingToUndo" [("action", w)]]) := by
    rw [sasg_ap, dmk_ap, dvar_ap]
    rfl
  have gx : (S3 ++ [WO.exc "NothingToUndo" [("action", w)]])[S3.length]? = some (.exc "NothingToUndo" [("action", w)]) := last_app _ _
  generalize hS4 : S3 ++ [WO.exc "NothingToUndo" [("action", w)]] = S4 at *
  have hf4 : FieldP S4 w d := by rw [← hS4]; exact hf3.app _
  have l1 : dlst (dcons (dvar 6) dnil) [some fr, some (.ref 0), some (.int t), some w, some (.ref a3), some (.ref b3), some (.ref S3.length)] S4 = .ok (.ref S4.length) (S4 ++ [.lst [.ref S3.length]]) := by
    rw [dlst_ap, dcons_ap, dvar_ap]
    simp only [List.getElem?_cons_succ, List.getElem?_cons_zero, R.bind_ok, dnil_ap, List.length_cons, List.length_nil, if_pos hz1]
  have gx5 : (S4 ++ [WO.lst [W.ref S3.length]])[S3.length]? = some (.exc "NothingToUndo" [("action", w)]) := get_pre gx
  have l2 : dlst (dcons (dun (fldX isf_action "action") (dvar 6)) dnil) [some fr, some (.ref 0), some (.int t), some w, some (.ref a3), some (.ref b3), some (.ref S3.length)] (S4 ++ [.lst [.ref S3.length]]) = .ok (.ref (S4 ++ [WO.lst [W.ref S3.length]]).length) (S4 ++ [.lst [.ref S3.length]] ++ [.lst [w]]) := by
    have ff := fld_one (isf := isf_action) gx5 (by decide +kernel)
    rw [dlst_ap, dcons_ap, dun_ap, dvar_ap]
    simp only [List.getElem?_cons_succ, List.getElem?_cons_zero, R.bind_ok]
    rw [ff]
    simp only [R.bind_ok, dnil_ap, List.length_cons, List.length_nil, if_pos hz1]
  have er4 : Errs (S4 ++ [.lst [.ref S3.length]] ++ [.lst [w]]) S4.length [("NothingToUndo", "action")] w := ⟨[S3.length], get_pre (last_app _ _), rfl, fun i r p e1 e2 => by
    have hi : i = 0 := by
      have := (List.getElem?_eq_some_iff.mp e1).1
      simp at this; omega
    subst hi
    cases e1; cases e2
    exact get_pre gx5⟩
  have r4 := right_call (sw := [some fr, some (.ref 0), some (.int t), some w, some (.ref a3), some (.ref b3), some (.ref S3.length)]) (S := S4) (g := 2) (e4 := dlst (dcons (dvar 6) dnil)) (e5 := dlst (dcons (dun (fldX isf_action "action") (dvar 6)) dnil)) l1 l2 rfl (all_right_ok (g := 2) (by decide) (cs := [("NothingToUndo", "action")]) (n := 1) rfl (by decide) (by rw [List.all_cons, ok_undo]; rfl) er4 (last_app _ _) ((hf4.app _).app _))
  have hend : ∃ B', S4 ++ [WO.lst [W.ref S3.length]] ++ [.lst [w]] = srcH s1 ++ B' := ⟨B1 ++ T2 ++ T3 ++ [WO.exc "NothingToUndo" [("action", w)]] ++ [WO.lst [W.ref S3.length]] ++ [.lst [w]], by rw [← hS4, ← hS3, ← hS1]; simp only [List.append_assoc]⟩
  obtain ⟨B', hB'⟩ := hend
  refine ⟨s1, B', some w, some (.ref a3), some (.ref b3), some (.ref S3.length), hs1, ?_⟩
  rw [← hB']
  unfold l_law_1
  rw [sseq_ap, c1, RS.seq_nx, sseq_ap, p2, RS.seq_nx, sseq_ap]
  have r2' : sif (dnotT (dtru (dcallK 4 0 [0, 1, 2, 3] (sel [] dfl_law_all_right) den_law_all_right (dcons (dvar 4) (dcons (dvar 5) (dcons (dcon (.int 0)) (dcons (dvar 3) dnil)))) dnil))) (sret (dcon (.bl false))) snil [some fr, some (.ref 0), some (.int t), some w, some (.ref a2), some (.ref b2), x6] (S1 ++ T2) = _ := r2
  rw [r2', RS.seq_nx, sseq_ap, p3, RS.seq_nx, sseq_ap]
  have r3' : sif (dnotT (dtru (dcallK 4 0 [0, 1, 2, 3] (sel [] dfl_law_all_right) den_law_all_right (dcons (dvar 4) (dcons (dvar 5) (dcons (dcon (.int 1)) (dcons (dvar 3) dnil)))) dnil))) (sret (dcon (.bl false))) snil [some fr, some (.ref 0), some (.int t), some w, some (.ref a3), some (.ref b3), x6] S3 = _ := r3
  rw [r3', RS.seq_nx, sseq_ap, p4, RS.seq_nx]
  exact r4
theorem law_ok (ns : List Int) (h : ns.length ≤ 63) : ∃ S, den_law [.fro (ns.map .int)] [] = .ok (.bl true) S := by
  have hst := source_ok ns h
  have hs0 : (Sc.mk ns.length (ns ++ [(ns.length : Int)]) 0 0 0).ok 0 := ⟨by simp, by simp; omega, Int.le_refl _, Nat.le_refl _⟩
  generalize Sc.mk ns.length (ns ++ [(ns.length : Int)]) 0 0 0 = s0 at *
  obtain ⟨sw', S', e, q⟩ := forD_inv (guard := fun _ => true) (g := g_law_1) (body := l_law_1)
    (fun k sw S => ∃ (x2 x3 x4 x5 x6 : Option W) (s' : Sc) (B' : Hs), sw = [some (.fro (ns.map .int)), some (.ref 0), x2, x3, x4, x5, x6] ∧ S = srcH s' ++ B' ∧ s'.ok (1 * k))
    (rgW 0 3) 0 [some (.fro (ns.map .int)), some (.ref 0), none, none, none, none, none] (srcH s0 ++ []) ⟨_, _, _, _, _, s0, [], rfl, rfl, hs0⟩
    (fun i w sw S hi hI => by
      obtain ⟨x2, x3, x4, x5, x6, s', B', rfl, rfl, hs'⟩ := hI
      obtain ⟨hi3, rfl⟩ := rgW_at hi
      rw [Nat.zero_add] at hs' ⊢
      obtain ⟨s3, B3, y3, y4, y5, y6, hs3, e⟩ := turn_ok hs' (by omega) B' (.fro (ns.map .int)) i x3 x4 x5 x6
      exact ⟨rfl, _, _, rfl, _, _, .inl e, _, _, _, _, _, s3, B3, rfl, rfl, by rw [Nat.mul_add]; exact hs3⟩)
    (fun _ _ _ => rfl)
  rw [List.append_nil] at e
  refine ⟨[], ?_⟩
  refine defD_rtP (n := 7) (f := b_law) (T := S') ?_ rfl
  show b_law [some (.fro (ns.map .int)), none, none, none, none, none, none] [] = .rt (.bl true) ([] ++ S')
  have c1 : dcallK 1 0 [0] (sel [] dfl_law_source) den_law_source (dcons (dvar 0) dnil) dnil [some (.fro (ns.map .int)), none, none, none, none, none, none] [] = _ := (call1 (i := 0) rfl).trans hst
  have hi : ∀ sw S, i_law_1 sw S = .ok ⟨rgW 0 3, fun _ => true⟩ S := fun sw S => by
    rw [i_law_1, diargs_ap]
    simp only [dcons_ap, dcon_ap, R.bind_ok, dnil_ap]
    exact itRange_nat (n := 3) (by decide) _
  unfold b_law
  rw [sseq_ap, sasg_ap, c1, R.to_ok, gname_ap]
  simp only [List.set_cons_succ, List.set_cons_zero, RS.seq_nx]
  rw [sseq_ap, sfor_ap, hi, R.to_ok]
  simp only []
  rw [e, RS.seq_nx, sret_ap, dcon_ap, R.to_ok, List.nil_append]
end K08

set_option Elab.async false
set_option linter.all false
set_option maxRecDepth 100000
/-! G_k08: the defs of the law k08 keep what D_k08 says, printed by gen.py. -/
namespace K08
open PySem PySem.Spec PyProof.Rows L2 DL

def top (i : Nat) : Stmt := PySem.Challenge.pw_dialforest_k08_errors_by_hand.main.body.getD i (.Pass ⟨0, 0, 0, 0⟩)
abbrev s_law_source : Stmt := top 25
abbrev s_law_draw : Stmt := top 26
abbrev s_law_pick : Stmt := top 27
abbrev s_law_arguments : Stmt := top 28
abbrev s_law_states : Stmt := top 29
abbrev s_law_kinds : Stmt := top 30
abbrev s_law_bases : Stmt := top 31
abbrev s_law_all_right : Stmt := top 32
abbrev s_law : Stmt := top 33
abbrev si_InvalidSelection : Stmt := (C8.clsBody (top 7)).getD 0 (.Pass ⟨0, 0, 0, 0⟩)
abbrev si_InvalidRun : Stmt := (C8.clsBody (top 6)).getD 0 (.Pass ⟨0, 0, 0, 0⟩)
abbrev si_InvalidLabel : Stmt := (C8.clsBody (top 5)).getD 0 (.Pass ⟨0, 0, 0, 0⟩)
abbrev si_InvalidForest : Stmt := (C8.clsBody (top 4)).getD 0 (.Pass ⟨0, 0, 0, 0⟩)
abbrev si_InvalidOrder : Stmt := (C8.clsBody (top 11)).getD 0 (.Pass ⟨0, 0, 0, 0⟩)
abbrev si_InvalidTable : Stmt := (C8.clsBody (top 10)).getD 0 (.Pass ⟨0, 0, 0, 0⟩)
abbrev si_InvalidPrices : Stmt := (C8.clsBody (top 9)).getD 0 (.Pass ⟨0, 0, 0, 0⟩)
abbrev si_InvalidNumbers : Stmt := (C8.clsBody (top 8)).getD 0 (.Pass ⟨0, 0, 0, 0⟩)
abbrev si_TooLarge : Stmt := (C8.clsBody (top 15)).getD 0 (.Pass ⟨0, 0, 0, 0⟩)
abbrev si_InvalidEdit : Stmt := (C8.clsBody (top 14)).getD 0 (.Pass ⟨0, 0, 0, 0⟩)
abbrev si_InvalidRank : Stmt := (C8.clsBody (top 13)).getD 0 (.Pass ⟨0, 0, 0, 0⟩)
abbrev si_InvalidText : Stmt := (C8.clsBody (top 12)).getD 0 (.Pass ⟨0, 0, 0, 0⟩)
abbrev si_NotChild : Stmt := (C8.clsBody (top 20)).getD 0 (.Pass ⟨0, 0, 0, 0⟩)
abbrev si_NotRoot : Stmt := (C8.clsBody (top 19)).getD 0 (.Pass ⟨0, 0, 0, 0⟩)
abbrev si_Unreachable : Stmt := (C8.clsBody (top 18)).getD 0 (.Pass ⟨0, 0, 0, 0⟩)
abbrev si_NothingRemains : Stmt := (C8.clsBody (top 17)).getD 0 (.Pass ⟨0, 0, 0, 0⟩)
abbrev si_NotRemovable : Stmt := (C8.clsBody (top 16)).getD 0 (.Pass ⟨0, 0, 0, 0⟩)
abbrev si_NotClearing : Stmt := (C8.clsBody (top 22)).getD 0 (.Pass ⟨0, 0, 0, 0⟩)
abbrev si_WouldLoop : Stmt := (C8.clsBody (top 21)).getD 0 (.Pass ⟨0, 0, 0, 0⟩)
abbrev si_NothingToUndo : Stmt := (C8.clsBody (top 23)).getD 0 (.Pass ⟨0, 0, 0, 0⟩)
/-- what the head finds -/
structure Fs (K : PySem.W.Frag) (mg : Str → Option Value) (cl : Cla) : Prop where
  f_LookupError : mg "LookupError" = none
  f_RuntimeError : mg "RuntimeError" = none
  f_ValueError : mg "ValueError" = none
  f_isinstance : mg "isinstance" = none
  f_len : mg "len" = none
  f_range : mg "range" = none
  f_repr : mg "repr" = none
  d_law_source : DefF K mg "_law_source" s_law_source ([] : List Str) dfl_law_source
  d_law_draw : DefF K mg "_law_draw" s_law_draw ([] : List Str) dfl_law_draw
  d_law_pick : DefF K mg "_law_pick" s_law_pick ([] : List Str) dfl_law_pick
  d_law_arguments : DefF K mg "_law_arguments" s_law_arguments ([] : List Str) dfl_law_arguments
  d_law_states : DefF K mg "_law_states" s_law_states ([] : List Str) dfl_law_states
  d_law_kinds : DefF K mg "_law_kinds" s_law_kinds ([] : List Str) dfl_law_kinds
  d_law_bases : DefF K mg "_law_bases" s_law_bases ([] : List Str) dfl_law_bases
  d_law_all_right : DefF K mg "_law_all_right" s_law_all_right ([] : List Str) dfl_law_all_right
  d_law : DefF K mg "law" s_law ([] : List Str) dfl_law
  x_InvalidSelection : ExcF K mg "InvalidSelection" "DialError" "name" "InvalidSelection.__init__" si_InvalidSelection (cl "InvalidSelection") (cl "DialError")
  x_InvalidRun : ExcF K mg "InvalidRun" "DialError" "position" "InvalidRun.__init__" si_InvalidRun (cl "InvalidRun") (cl "DialError")
  x_InvalidLabel : ExcF K mg "InvalidLabel" "DialError" "label" "InvalidLabel.__init__" si_InvalidLabel (cl "InvalidLabel") (cl "DialError")
  x_InvalidForest : ExcF K mg "InvalidForest" "DialError" "path" "InvalidForest.__init__" si_InvalidForest (cl "InvalidForest") (cl "DialError")
  x_InvalidOrder : ExcF K mg "InvalidOrder" "DialError" "order" "InvalidOrder.__init__" si_InvalidOrder (cl "InvalidOrder") (cl "DialError")
  x_InvalidTable : ExcF K mg "InvalidTable" "DialError" "label" "InvalidTable.__init__" si_InvalidTable (cl "InvalidTable") (cl "DialError")
  x_InvalidPrices : ExcF K mg "InvalidPrices" "DialError" "path" "InvalidPrices.__init__" si_InvalidPrices (cl "InvalidPrices") (cl "DialError")
  x_InvalidNumbers : ExcF K mg "InvalidNumbers" "DialError" "path" "InvalidNumbers.__init__" si_InvalidNumbers (cl "InvalidNumbers") (cl "DialError")
  x_TooLarge : ExcF K mg "TooLarge" "DialError" "limit" "TooLarge.__init__" si_TooLarge (cl "TooLarge") (cl "DialError")
  x_InvalidEdit : ExcF K mg "InvalidEdit" "DialError" "path" "InvalidEdit.__init__" si_InvalidEdit (cl "InvalidEdit") (cl "DialError")
  x_InvalidRank : ExcF K mg "InvalidRank" "DialError" "rank" "InvalidRank.__init__" si_InvalidRank (cl "InvalidRank") (cl "DialError")
  x_InvalidText : ExcF K mg "InvalidText" "DialError" "line" "InvalidText.__init__" si_InvalidText (cl "InvalidText") (cl "DialError")
  x_NotChild : ExcFT .re K mg "NotChild" "DialStateError" "label" "NotChild.__init__" si_NotChild (cl "NotChild") (cl "DialStateError")
  x_NotRoot : ExcFT .re K mg "NotRoot" "DialStateError" "label" "NotRoot.__init__" si_NotRoot (cl "NotRoot") (cl "DialStateError")
  x_Unreachable : ExcFT .re K mg "Unreachable" "DialStateError" "reason" "Unreachable.__init__" si_Unreachable (cl "Unreachable") (cl "DialStateError")
  x_NothingRemains : ExcFT .re K mg "NothingRemains" "DialStateError" "length" "NothingRemains.__init__" si_NothingRemains (cl "NothingRemains") (cl "DialStateError")
  x_NotRemovable : ExcFT .re K mg "NotRemovable" "DialStateError" "label" "NotRemovable.__init__" si_NotRemovable (cl "NotRemovable") (cl "DialStateError")
  x_NotClearing : ExcFT .re K mg "NotClearing" "DialStateError" "length" "NotClearing.__init__" si_NotClearing (cl "NotClearing") (cl "DialStateError")
  x_WouldLoop : ExcFT .re K mg "WouldLoop" "DialStateError" "label" "WouldLoop.__init__" si_WouldLoop (cl "WouldLoop") (cl "DialStateError")
  x_NothingToUndo : ExcFT .le K mg "NothingToUndo" "DialLookupError" "action" "NothingToUndo.__init__" si_NothingToUndo (cl "NothingToUndo") (cl "DialLookupError")
  e_InvalidSelection : ExcC K (cl "InvalidSelection")
  e_InvalidRun : ExcC K (cl "InvalidRun")
  e_InvalidLabel : ExcC K (cl "InvalidLabel")
  e_InvalidForest : ExcC K (cl "InvalidForest")
  e_InvalidOrder : ExcC K (cl "InvalidOrder")
  e_InvalidTable : ExcC K (cl "InvalidTable")
  e_InvalidPrices : ExcC K (cl "InvalidPrices")
  e_InvalidNumbers : ExcC K (cl "InvalidNumbers")
  e_TooLarge : ExcC K (cl "TooLarge")
  e_InvalidEdit : ExcC K (cl "InvalidEdit")
  e_InvalidRank : ExcC K (cl "InvalidRank")
  e_InvalidText : ExcC K (cl "InvalidText")
  e_NotChild : ExcC K (cl "NotChild")
  e_NotRoot : ExcC K (cl "NotRoot")
  e_Unreachable : ExcC K (cl "Unreachable")
  e_NothingRemains : ExcC K (cl "NothingRemains")
  e_NotRemovable : ExcC K (cl "NotRemovable")
  e_NotClearing : ExcC K (cl "NotClearing")
  e_WouldLoop : ExcC K (cl "WouldLoop")
  e_NothingToUndo : ExcC K (cl "NothingToUndo")
  g_InvalidRun : mg "InvalidRun" = some (.ref (cl "InvalidRun"))
  g_InvalidLabel : mg "InvalidLabel" = some (.ref (cl "InvalidLabel"))
  g_InvalidForest : mg "InvalidForest" = some (.ref (cl "InvalidForest"))
  g_InvalidNumbers : mg "InvalidNumbers" = some (.ref (cl "InvalidNumbers"))
  g_InvalidSelection : mg "InvalidSelection" = some (.ref (cl "InvalidSelection"))
  g_InvalidOrder : mg "InvalidOrder" = some (.ref (cl "InvalidOrder"))
  g_InvalidTable : mg "InvalidTable" = some (.ref (cl "InvalidTable"))
  g_InvalidPrices : mg "InvalidPrices" = some (.ref (cl "InvalidPrices"))
  g_InvalidEdit : mg "InvalidEdit" = some (.ref (cl "InvalidEdit"))
  g_InvalidRank : mg "InvalidRank" = some (.ref (cl "InvalidRank"))
  g_InvalidText : mg "InvalidText" = some (.ref (cl "InvalidText"))
  g_NothingRemains : mg "NothingRemains" = some (.ref (cl "NothingRemains"))
  g_NotRemovable : mg "NotRemovable" = some (.ref (cl "NotRemovable"))
  g_TooLarge : mg "TooLarge" = some (.ref (cl "TooLarge"))
  g_NotChild : mg "NotChild" = some (.ref (cl "NotChild"))
  g_NotRoot : mg "NotRoot" = some (.ref (cl "NotRoot"))
  g_Unreachable : mg "Unreachable" = some (.ref (cl "Unreachable"))
  g_NothingToUndo : mg "NothingToUndo" = some (.ref (cl "NothingToUndo"))
  g_NotClearing : mg "NotClearing" = some (.ref (cl "NotClearing"))
  g_WouldLoop : mg "WouldLoop" = some (.ref (cl "WouldLoop"))
  g_DialLookupError : mg "DialLookupError" = some (.ref (cl "DialLookupError"))
  g_DialStateError : mg "DialStateError" = some (.ref (cl "DialStateError"))
  g_DialError : mg "DialError" = some (.ref (cl "DialError"))
  k_InvalidSelection_InvalidRun : PySem.W.kitOne K (.ref (cl "InvalidSelection")) (.ref (cl "InvalidRun")) = some false
  k_InvalidRun_InvalidRun : PySem.W.kitOne K (.ref (cl "InvalidRun")) (.ref (cl "InvalidRun")) = some true
  k_InvalidLabel_InvalidRun : PySem.W.kitOne K (.ref (cl "InvalidLabel")) (.ref (cl "InvalidRun")) = some false
  k_InvalidForest_InvalidRun : PySem.W.kitOne K (.ref (cl "InvalidForest")) (.ref (cl "InvalidRun")) = some false
  k_InvalidOrder_InvalidRun : PySem.W.kitOne K (.ref (cl "InvalidOrder")) (.ref (cl "InvalidRun")) = some false
  k_InvalidTable_InvalidRun : PySem.W.kitOne K (.ref (cl "InvalidTable")) (.ref (cl "InvalidRun")) = some false
  k_InvalidPrices_InvalidRun : PySem.W.kitOne K (.ref (cl "InvalidPrices")) (.ref (cl "InvalidRun")) = some false
  k_InvalidNumbers_InvalidRun : PySem.W.kitOne K (.ref (cl "InvalidNumbers")) (.ref (cl "InvalidRun")) = some false
  k_TooLarge_InvalidRun : PySem.W.kitOne K (.ref (cl "TooLarge")) (.ref (cl "InvalidRun")) = some false
  k_InvalidEdit_InvalidRun : PySem.W.kitOne K (.ref (cl "InvalidEdit")) (.ref (cl "InvalidRun")) = some false
  k_InvalidRank_InvalidRun : PySem.W.kitOne K (.ref (cl "InvalidRank")) (.ref (cl "InvalidRun")) = some false
  k_InvalidText_InvalidRun : PySem.W.kitOne K (.ref (cl "InvalidText")) (.ref (cl "InvalidRun")) = some false
  k_NotChild_InvalidRun : PySem.W.kitOne K (.ref (cl "NotChild")) (.ref (cl "InvalidRun")) = some false
  k_NotRoot_InvalidRun : PySem.W.kitOne K (.ref (cl "NotRoot")) (.ref (cl "InvalidRun")) = some false
  k_Unreachable_InvalidRun : PySem.W.kitOne K (.ref (cl "Unreachable")) (.ref (cl "InvalidRun")) = some false
  k_NothingRemains_InvalidRun : PySem.W.kitOne K (.ref (cl "NothingRemains")) (.ref (cl "InvalidRun")) = some false
  k_NotRemovable_InvalidRun : PySem.W.kitOne K (.ref (cl "NotRemovable")) (.ref (cl "InvalidRun")) = some false
  k_NotClearing_InvalidRun : PySem.W.kitOne K (.ref (cl "NotClearing")) (.ref (cl "InvalidRun")) = some false
  k_WouldLoop_InvalidRun : PySem.W.kitOne K (.ref (cl "WouldLoop")) (.ref (cl "InvalidRun")) = some false
  k_NothingToUndo_InvalidRun : PySem.W.kitOne K (.ref (cl "NothingToUndo")) (.ref (cl "InvalidRun")) = some false
  k_InvalidSelection_InvalidLabel : PySem.W.kitOne K (.ref (cl "InvalidSelection")) (.ref (cl "InvalidLabel")) = some false
  k_InvalidRun_InvalidLabel : PySem.W.kitOne K (.ref (cl "InvalidRun")) (.ref (cl "InvalidLabel")) = some false
  k_InvalidLabel_InvalidLabel : PySem.W.kitOne K (.ref (cl "InvalidLabel")) (.ref (cl "InvalidLabel")) = some true
  k_InvalidForest_InvalidLabel : PySem.W.kitOne K (.ref (cl "InvalidForest")) (.ref (cl "InvalidLabel")) = some false
  k_InvalidOrder_InvalidLabel : PySem.W.kitOne K (.ref (cl "InvalidOrder")) (.ref (cl "InvalidLabel")) = some false
  k_InvalidTable_InvalidLabel : PySem.W.kitOne K (.ref (cl "InvalidTable")) (.ref (cl "InvalidLabel")) = some false
  k_InvalidPrices_InvalidLabel : PySem.W.kitOne K (.ref (cl "InvalidPrices")) (.ref (cl "InvalidLabel")) = some false
  k_InvalidNumbers_InvalidLabel : PySem.W.kitOne K (.ref (cl "InvalidNumbers")) (.ref (cl "InvalidLabel")) = some false
  k_TooLarge_InvalidLabel : PySem.W.kitOne K (.ref (cl "TooLarge")) (.ref (cl "InvalidLabel")) = some false
  k_InvalidEdit_InvalidLabel : PySem.W.kitOne K (.ref (cl "InvalidEdit")) (.ref (cl "InvalidLabel")) = some false
  k_InvalidRank_InvalidLabel : PySem.W.kitOne K (.ref (cl "InvalidRank")) (.ref (cl "InvalidLabel")) = some false
  k_InvalidText_InvalidLabel : PySem.W.kitOne K (.ref (cl "InvalidText")) (.ref (cl "InvalidLabel")) = some false
  k_NotChild_InvalidLabel : PySem.W.kitOne K (.ref (cl "NotChild")) (.ref (cl "InvalidLabel")) = some false
  k_NotRoot_InvalidLabel : PySem.W.kitOne K (.ref (cl "NotRoot")) (.ref (cl "InvalidLabel")) = some false
  k_Unreachable_InvalidLabel : PySem.W.kitOne K (.ref (cl "Unreachable")) (.ref (cl "InvalidLabel")) = some false
  k_NothingRemains_InvalidLabel : PySem.W.kitOne K (.ref (cl "NothingRemains")) (.ref (cl "InvalidLabel")) = some false
  k_NotRemovable_InvalidLabel : PySem.W.kitOne K (.ref (cl "NotRemovable")) (.ref (cl "InvalidLabel")) = some false
  k_NotClearing_InvalidLabel : PySem.W.kitOne K (.ref (cl "NotClearing")) (.ref (cl "InvalidLabel")) = some false
  k_WouldLoop_InvalidLabel : PySem.W.kitOne K (.ref (cl "WouldLoop")) (.ref (cl "InvalidLabel")) = some false
  k_NothingToUndo_InvalidLabel : PySem.W.kitOne K (.ref (cl "NothingToUndo")) (.ref (cl "InvalidLabel")) = some false
  k_InvalidSelection_InvalidForest : PySem.W.kitOne K (.ref (cl "InvalidSelection")) (.ref (cl "InvalidForest")) = some false
  k_InvalidRun_InvalidForest : PySem.W.kitOne K (.ref (cl "InvalidRun")) (.ref (cl "InvalidForest")) = some false
  k_InvalidLabel_InvalidForest : PySem.W.kitOne K (.ref (cl "InvalidLabel")) (.ref (cl "InvalidForest")) = some false
  k_InvalidForest_InvalidForest : PySem.W.kitOne K (.ref (cl "InvalidForest")) (.ref (cl "InvalidForest")) = some true
  k_InvalidOrder_InvalidForest : PySem.W.kitOne K (.ref (cl "InvalidOrder")) (.ref (cl "InvalidForest")) = some false
  k_InvalidTable_InvalidForest : PySem.W.kitOne K (.ref (cl "InvalidTable")) (.ref (cl "InvalidForest")) = some false
  k_InvalidPrices_InvalidForest : PySem.W.kitOne K (.ref (cl "InvalidPrices")) (.ref (cl "InvalidForest")) = some false
  k_InvalidNumbers_InvalidForest : PySem.W.kitOne K (.ref (cl "InvalidNumbers")) (.ref (cl "InvalidForest")) = some false
  k_TooLarge_InvalidForest : PySem.W.kitOne K (.ref (cl "TooLarge")) (.ref (cl "InvalidForest")) = some false
  k_InvalidEdit_InvalidForest : PySem.W.kitOne K (.ref (cl "InvalidEdit")) (.ref (cl "InvalidForest")) = some false
  k_InvalidRank_InvalidForest : PySem.W.kitOne K (.ref (cl "InvalidRank")) (.ref (cl "InvalidForest")) = some false
  k_InvalidText_InvalidForest : PySem.W.kitOne K (.ref (cl "InvalidText")) (.ref (cl "InvalidForest")) = some false
  k_NotChild_InvalidForest : PySem.W.kitOne K (.ref (cl "NotChild")) (.ref (cl "InvalidForest")) = some false
  k_NotRoot_InvalidForest : PySem.W.kitOne K (.ref (cl "NotRoot")) (.ref (cl "InvalidForest")) = some false
  k_Unreachable_InvalidForest : PySem.W.kitOne K (.ref (cl "Unreachable")) (.ref (cl "InvalidForest")) = some false
  k_NothingRemains_InvalidForest : PySem.W.kitOne K (.ref (cl "NothingRemains")) (.ref (cl "InvalidForest")) = some false
  k_NotRemovable_InvalidForest : PySem.W.kitOne K (.ref (cl "NotRemovable")) (.ref (cl "InvalidForest")) = some false
  k_NotClearing_InvalidForest : PySem.W.kitOne K (.ref (cl "NotClearing")) (.ref (cl "InvalidForest")) = some false
  k_WouldLoop_InvalidForest : PySem.W.kitOne K (.ref (cl "WouldLoop")) (.ref (cl "InvalidForest")) = some false
  k_NothingToUndo_InvalidForest : PySem.W.kitOne K (.ref (cl "NothingToUndo")) (.ref (cl "InvalidForest")) = some false
  k_InvalidSelection_InvalidNumbers : PySem.W.kitOne K (.ref (cl "InvalidSelection")) (.ref (cl "InvalidNumbers")) = some false
  k_InvalidRun_InvalidNumbers : PySem.W.kitOne K (.ref (cl "InvalidRun")) (.ref (cl "InvalidNumbers")) = some false
  k_InvalidLabel_InvalidNumbers : PySem.W.kitOne K (.ref (cl "InvalidLabel")) (.ref (cl "InvalidNumbers")) = some false
  k_InvalidForest_InvalidNumbers : PySem.W.kitOne K (.ref (cl "InvalidForest")) (.ref (cl "InvalidNumbers")) = some false
  k_InvalidOrder_InvalidNumbers : PySem.W.kitOne K (.ref (cl "InvalidOrder")) (.ref (cl "InvalidNumbers")) = some false
  k_InvalidTable_InvalidNumbers : PySem.W.kitOne K (.ref (cl "InvalidTable")) (.ref (cl "InvalidNumbers")) = some false
  k_InvalidPrices_InvalidNumbers : PySem.W.kitOne K (.ref (cl "InvalidPrices")) (.ref (cl "InvalidNumbers")) = some false
  k_InvalidNumbers_InvalidNumbers : PySem.W.kitOne K (.ref (cl "InvalidNumbers")) (.ref (cl "InvalidNumbers")) = some true
  k_TooLarge_InvalidNumbers : PySem.W.kitOne K (.ref (cl "TooLarge")) (.ref (cl "InvalidNumbers")) = some false
  k_InvalidEdit_InvalidNumbers : PySem.W.kitOne K (.ref (cl "InvalidEdit")) (.ref (cl "InvalidNumbers")) = some false
  k_InvalidRank_InvalidNumbers : PySem.W.kitOne K (.ref (cl "InvalidRank")) (.ref (cl "InvalidNumbers")) = some false
  k_InvalidText_InvalidNumbers : PySem.W.kitOne K (.ref (cl "InvalidText")) (.ref (cl "InvalidNumbers")) = some false
  k_NotChild_InvalidNumbers : PySem.W.kitOne K (.ref (cl "NotChild")) (.ref (cl "InvalidNumbers")) = some false
  k_NotRoot_InvalidNumbers : PySem.W.kitOne K (.ref (cl "NotRoot")) (.ref (cl "InvalidNumbers")) = some false
  k_Unreachable_InvalidNumbers : PySem.W.kitOne K (.ref (cl "Unreachable")) (.ref (cl "InvalidNumbers")) = some false
  k_NothingRemains_InvalidNumbers : PySem.W.kitOne K (.ref (cl "NothingRemains")) (.ref (cl "InvalidNumbers")) = some false
  k_NotRemovable_InvalidNumbers : PySem.W.kitOne K (.ref (cl "NotRemovable")) (.ref (cl "InvalidNumbers")) = some false
  k_NotClearing_InvalidNumbers : PySem.W.kitOne K (.ref (cl "NotClearing")) (.ref (cl "InvalidNumbers")) = some false
  k_WouldLoop_InvalidNumbers : PySem.W.kitOne K (.ref (cl "WouldLoop")) (.ref (cl "InvalidNumbers")) = some false
  k_NothingToUndo_InvalidNumbers : PySem.W.kitOne K (.ref (cl "NothingToUndo")) (.ref (cl "InvalidNumbers")) = some false
  k_InvalidSelection_InvalidSelection : PySem.W.kitOne K (.ref (cl "InvalidSelection")) (.ref (cl "InvalidSelection")) = some true
  k_InvalidRun_InvalidSelection : PySem.W.kitOne K (.ref (cl "InvalidRun")) (.ref (cl "InvalidSelection")) = some false
  k_InvalidLabel_InvalidSelection : PySem.W.kitOne K (.ref (cl "InvalidLabel")) (.ref (cl "InvalidSelection")) = some false
  k_InvalidForest_InvalidSelection : PySem.W.kitOne K (.ref (cl "InvalidForest")) (.ref (cl "InvalidSelection")) = some false
  k_InvalidOrder_InvalidSelection : PySem.W.kitOne K (.ref (cl "InvalidOrder")) (.ref (cl "InvalidSelection")) = some false
  k_InvalidTable_InvalidSelection : PySem.W.kitOne K (.ref (cl "InvalidTable")) (.ref (cl "InvalidSelection")) = some false
  k_InvalidPrices_InvalidSelection : PySem.W.kitOne K (.ref (cl "InvalidPrices")) (.ref (cl "InvalidSelection")) = some false
  k_InvalidNumbers_InvalidSelection : PySem.W.kitOne K (.ref (cl "InvalidNumbers")) (.ref (cl "InvalidSelection")) = some false
  k_TooLarge_InvalidSelection : PySem.W.kitOne K (.ref (cl "TooLarge")) (.ref (cl "InvalidSelection")) = some false
  k_InvalidEdit_InvalidSelection : PySem.W.kitOne K (.ref (cl "InvalidEdit")) (.ref (cl "InvalidSelection")) = some false
  k_InvalidRank_InvalidSelection : PySem.W.kitOne K (.ref (cl "InvalidRank")) (.ref (cl "InvalidSelection")) = some false
  k_InvalidText_InvalidSelection : PySem.W.kitOne K (.ref (cl "InvalidText")) (.ref (cl "InvalidSelection")) = some false
  k_NotChild_InvalidSelection : PySem.W.kitOne K (.ref (cl "NotChild")) (.ref (cl "InvalidSelection")) = some false
  k_NotRoot_InvalidSelection : PySem.W.kitOne K (.ref (cl "NotRoot")) (.ref (cl "InvalidSelection")) = some false
  k_Unreachable_InvalidSelection : PySem.W.kitOne K (.ref (cl "Unreachable")) (.ref (cl "InvalidSelection")) = some false
  k_NothingRemains_InvalidSelection : PySem.W.kitOne K (.ref (cl "NothingRemains")) (.ref (cl "InvalidSelection")) = some false
  k_NotRemovable_InvalidSelection : PySem.W.kitOne K (.ref (cl "NotRemovable")) (.ref (cl "InvalidSelection")) = some false
  k_NotClearing_InvalidSelection : PySem.W.kitOne K (.ref (cl "NotClearing")) (.ref (cl "InvalidSelection")) = some false
  k_WouldLoop_InvalidSelection : PySem.W.kitOne K (.ref (cl "WouldLoop")) (.ref (cl "InvalidSelection")) = some false
  k_NothingToUndo_InvalidSelection : PySem.W.kitOne K (.ref (cl "NothingToUndo")) (.ref (cl "InvalidSelection")) = some false
  k_InvalidSelection_InvalidOrder : PySem.W.kitOne K (.ref (cl "InvalidSelection")) (.ref (cl "InvalidOrder")) = some false
  k_InvalidRun_InvalidOrder : PySem.W.kitOne K (.ref (cl "InvalidRun")) (.ref (cl "InvalidOrder")) = some false
  k_InvalidLabel_InvalidOrder : PySem.W.kitOne K (.ref (cl "InvalidLabel")) (.ref (cl "InvalidOrder")) = some false
  k_InvalidForest_InvalidOrder : PySem.W.kitOne K (.ref (cl "InvalidForest")) (.ref (cl "InvalidOrder")) = some false
  k_InvalidOrder_InvalidOrder : PySem.W.kitOne K (.ref (cl "InvalidOrder")) (.ref (cl "InvalidOrder")) = some true
  k_InvalidTable_InvalidOrder : PySem.W.kitOne K (.ref (cl "InvalidTable")) (.ref (cl "InvalidOrder")) = some false
  k_InvalidPrices_InvalidOrder : PySem.W.kitOne K (.ref (cl "InvalidPrices")) (.ref (cl "InvalidOrder")) = some false
  k_InvalidNumbers_InvalidOrder : PySem.W.kitOne K (.ref (cl "InvalidNumbers")) (.ref (cl "InvalidOrder")) = some false
  k_TooLarge_InvalidOrder : PySem.W.kitOne K (.ref (cl "TooLarge")) (.ref (cl "InvalidOrder")) = some false
  k_InvalidEdit_InvalidOrder : PySem.W.kitOne K (.ref (cl "InvalidEdit")) (.ref (cl "InvalidOrder")) = some false
  k_InvalidRank_InvalidOrder : PySem.W.kitOne K (.ref (cl "InvalidRank")) (.ref (cl "InvalidOrder")) = some false
  k_InvalidText_InvalidOrder : PySem.W.kitOne K (.ref (cl "InvalidText")) (.ref (cl "InvalidOrder")) = some false
  k_NotChild_InvalidOrder : PySem.W.kitOne K (.ref (cl "NotChild")) (.ref (cl "InvalidOrder")) = some false
  k_NotRoot_InvalidOrder : PySem.W.kitOne K (.ref (cl "NotRoot")) (.ref (cl "InvalidOrder")) = some false
  k_Unreachable_InvalidOrder : PySem.W.kitOne K (.ref (cl "Unreachable")) (.ref (cl "InvalidOrder")) = some false
  k_NothingRemains_InvalidOrder : PySem.W.kitOne K (.ref (cl "NothingRemains")) (.ref (cl "InvalidOrder")) = some false
  k_NotRemovable_InvalidOrder : PySem.W.kitOne K (.ref (cl "NotRemovable")) (.ref (cl "InvalidOrder")) = some false
  k_NotClearing_InvalidOrder : PySem.W.kitOne K (.ref (cl "NotClearing")) (.ref (cl "InvalidOrder")) = some false
  k_WouldLoop_InvalidOrder : PySem.W.kitOne K (.ref (cl "WouldLoop")) (.ref (cl "InvalidOrder")) = some false
  k_NothingToUndo_InvalidOrder : PySem.W.kitOne K (.ref (cl "NothingToUndo")) (.ref (cl "InvalidOrder")) = some false
  k_InvalidSelection_InvalidTable : PySem.W.kitOne K (.ref (cl "InvalidSelection")) (.ref (cl "InvalidTable")) = some false
  k_InvalidRun_InvalidTable : PySem.W.kitOne K (.ref (cl "InvalidRun")) (.ref (cl "InvalidTable")) = some false
  k_InvalidLabel_InvalidTable : PySem.W.kitOne K (.ref (cl "InvalidLabel")) (.ref (cl "InvalidTable")) = some false
  k_InvalidForest_InvalidTable : PySem.W.kitOne K (.ref (cl "InvalidForest")) (.ref (cl "InvalidTable")) = some false
  k_InvalidOrder_InvalidTable : PySem.W.kitOne K (.ref (cl "InvalidOrder")) (.ref (cl "InvalidTable")) = some false
  k_InvalidTable_InvalidTable : PySem.W.kitOne K (.ref (cl "InvalidTable")) (.ref (cl "InvalidTable")) = some true
  k_InvalidPrices_InvalidTable : PySem.W.kitOne K (.ref (cl "InvalidPrices")) (.ref (cl "InvalidTable")) = some false
  k_InvalidNumbers_InvalidTable : PySem.W.kitOne K (.ref (cl "InvalidNumbers")) (.ref (cl "InvalidTable")) = some false
  k_TooLarge_InvalidTable : PySem.W.kitOne K (.ref (cl "TooLarge")) (.ref (cl "InvalidTable")) = some false
  k_InvalidEdit_InvalidTable : PySem.W.kitOne K (.ref (cl "InvalidEdit")) (.ref (cl "InvalidTable")) = some false
  k_InvalidRank_InvalidTable : PySem.W.kitOne K (.ref (cl "InvalidRank")) (.ref (cl "InvalidTable")) = some false
  k_InvalidText_InvalidTable : PySem.W.kitOne K (.ref (cl "InvalidText")) (.ref (cl "InvalidTable")) = some false
  k_NotChild_InvalidTable : PySem.W.kitOne K (.ref (cl "NotChild")) (.ref (cl "InvalidTable")) = some false
  k_NotRoot_InvalidTable : PySem.W.kitOne K (.ref (cl "NotRoot")) (.ref (cl "InvalidTable")) = some false
  k_Unreachable_InvalidTable : PySem.W.kitOne K (.ref (cl "Unreachable")) (.ref (cl "InvalidTable")) = some false
  k_NothingRemains_InvalidTable : PySem.W.kitOne K (.ref (cl "NothingRemains")) (.ref (cl "InvalidTable")) = some false
  k_NotRemovable_InvalidTable : PySem.W.kitOne K (.ref (cl "NotRemovable")) (.ref (cl "InvalidTable")) = some false
  k_NotClearing_InvalidTable : PySem.W.kitOne K (.ref (cl "NotClearing")) (.ref (cl "InvalidTable")) = some false
  k_WouldLoop_InvalidTable : PySem.W.kitOne K (.ref (cl "WouldLoop")) (.ref (cl "InvalidTable")) = some false
  k_NothingToUndo_InvalidTable : PySem.W.kitOne K (.ref (cl "NothingToUndo")) (.ref (cl "InvalidTable")) = some false
  k_InvalidSelection_InvalidPrices : PySem.W.kitOne K (.ref (cl "InvalidSelection")) (.ref (cl "InvalidPrices")) = some false
  k_InvalidRun_InvalidPrices : PySem.W.kitOne K (.ref (cl "InvalidRun")) (.ref (cl "InvalidPrices")) = some false
  k_InvalidLabel_InvalidPrices : PySem.W.kitOne K (.ref (cl "InvalidLabel")) (.ref (cl "InvalidPrices")) = some false
  k_InvalidForest_InvalidPrices : PySem.W.kitOne K (.ref (cl "InvalidForest")) (.ref (cl "InvalidPrices")) = some false
  k_InvalidOrder_InvalidPrices : PySem.W.kitOne K (.ref (cl "InvalidOrder")) (.ref (cl "InvalidPrices")) = some false
  k_InvalidTable_InvalidPrices : PySem.W.kitOne K (.ref (cl "InvalidTable")) (.ref (cl "InvalidPrices")) = some false
  k_InvalidPrices_InvalidPrices : PySem.W.kitOne K (.ref (cl "InvalidPrices")) (.ref (cl "InvalidPrices")) = some true
  k_InvalidNumbers_InvalidPrices : PySem.W.kitOne K (.ref (cl "InvalidNumbers")) (.ref (cl "InvalidPrices")) = some false
  k_TooLarge_InvalidPrices : PySem.W.kitOne K (.ref (cl "TooLarge")) (.ref (cl "InvalidPrices")) = some false
  k_InvalidEdit_InvalidPrices : PySem.W.kitOne K (.ref (cl "InvalidEdit")) (.ref (cl "InvalidPrices")) = some false
  k_InvalidRank_InvalidPrices : PySem.W.kitOne K (.ref (cl "InvalidRank")) (.ref (cl "InvalidPrices")) = some false
  k_InvalidText_InvalidPrices : PySem.W.kitOne K (.ref (cl "InvalidText")) (.ref (cl "InvalidPrices")) = some false
  k_NotChild_InvalidPrices : PySem.W.kitOne K (.ref (cl "NotChild")) (.ref (cl "InvalidPrices")) = some false
  k_NotRoot_InvalidPrices : PySem.W.kitOne K (.ref (cl "NotRoot")) (.ref (cl "InvalidPrices")) = some false
  k_Unreachable_InvalidPrices : PySem.W.kitOne K (.ref (cl "Unreachable")) (.ref (cl "InvalidPrices")) = some false
  k_NothingRemains_InvalidPrices : PySem.W.kitOne K (.ref (cl "NothingRemains")) (.ref (cl "InvalidPrices")) = some false
  k_NotRemovable_InvalidPrices : PySem.W.kitOne K (.ref (cl "NotRemovable")) (.ref (cl "InvalidPrices")) = some false
  k_NotClearing_InvalidPrices : PySem.W.kitOne K (.ref (cl "NotClearing")) (.ref (cl "InvalidPrices")) = some false
  k_WouldLoop_InvalidPrices : PySem.W.kitOne K (.ref (cl "WouldLoop")) (.ref (cl "InvalidPrices")) = some false
  k_NothingToUndo_InvalidPrices : PySem.W.kitOne K (.ref (cl "NothingToUndo")) (.ref (cl "InvalidPrices")) = some false
  k_InvalidSelection_InvalidEdit : PySem.W.kitOne K (.ref (cl "InvalidSelection")) (.ref (cl "InvalidEdit")) = some false
  k_InvalidRun_InvalidEdit : PySem.W.kitOne K (.ref (cl "InvalidRun")) (.ref (cl "InvalidEdit")) = some false
  k_InvalidLabel_InvalidEdit : PySem.W.kitOne K (.ref (cl "InvalidLabel")) (.ref (cl "InvalidEdit")) = some false
  k_InvalidForest_InvalidEdit : PySem.W.kitOne K (.ref (cl "InvalidForest")) (.ref (cl "InvalidEdit")) = some false
  k_InvalidOrder_InvalidEdit : PySem.W.kitOne K (.ref (cl "InvalidOrder")) (.ref (cl "InvalidEdit")) = some false
  k_InvalidTable_InvalidEdit : PySem.W.kitOne K (.ref (cl "InvalidTable")) (.ref (cl "InvalidEdit")) = some false
  k_InvalidPrices_InvalidEdit : PySem.W.kitOne K (.ref (cl "InvalidPrices")) (.ref (cl "InvalidEdit")) = some false
  k_InvalidNumbers_InvalidEdit : PySem.W.kitOne K (.ref (cl "InvalidNumbers")) (.ref (cl "InvalidEdit")) = some false
  k_TooLarge_InvalidEdit : PySem.W.kitOne K (.ref (cl "TooLarge")) (.ref (cl "InvalidEdit")) = some false
  k_InvalidEdit_InvalidEdit : PySem.W.kitOne K (.ref (cl "InvalidEdit")) (.ref (cl "InvalidEdit")) = some true
  k_InvalidRank_InvalidEdit : PySem.W.kitOne K (.ref (cl "InvalidRank")) (.ref (cl "InvalidEdit")) = some false
  k_InvalidText_InvalidEdit : PySem.W.kitOne K (.ref (cl "InvalidText")) (.ref (cl "InvalidEdit")) = some false
  k_NotChild_InvalidEdit : PySem.W.kitOne K (.ref (cl "NotChild")) (.ref (cl "InvalidEdit")) = some false
  k_NotRoot_InvalidEdit : PySem.W.kitOne K (.ref (cl "NotRoot")) (.ref (cl "InvalidEdit")) = some false
  k_Unreachable_InvalidEdit : PySem.W.kitOne K (.ref (cl "Unreachable")) (.ref (cl "InvalidEdit")) = some false
  k_NothingRemains_InvalidEdit : PySem.W.kitOne K (.ref (cl "NothingRemains")) (.ref (cl "InvalidEdit")) = some false
  k_NotRemovable_InvalidEdit : PySem.W.kitOne K (.ref (cl "NotRemovable")) (.ref (cl "InvalidEdit")) = some false
  k_NotClearing_InvalidEdit : PySem.W.kitOne K (.ref (cl "NotClearing")) (.ref (cl "InvalidEdit")) = some false
  k_WouldLoop_InvalidEdit : PySem.W.kitOne K (.ref (cl "WouldLoop")) (.ref (cl "InvalidEdit")) = some false
  k_NothingToUndo_InvalidEdit : PySem.W.kitOne K (.ref (cl "NothingToUndo")) (.ref (cl "InvalidEdit")) = some false
  k_InvalidSelection_InvalidRank : PySem.W.kitOne K (.ref (cl "InvalidSelection")) (.ref (cl "InvalidRank")) = some false
  k_InvalidRun_InvalidRank : PySem.W.kitOne K (.ref (cl "InvalidRun")) (.ref (cl "InvalidRank")) = some false
  k_InvalidLabel_InvalidRank : PySem.W.kitOne K (.ref (cl "InvalidLabel")) (.ref (cl "InvalidRank")) = some false
  k_InvalidForest_InvalidRank : PySem.W.kitOne K (.ref (cl "InvalidForest")) (.ref (cl "InvalidRank")) = some false
  k_InvalidOrder_InvalidRank : PySem.W.kitOne K (.ref (cl "InvalidOrder")) (.ref (cl "InvalidRank")) = some false
  k_InvalidTable_InvalidRank : PySem.W.kitOne K (.ref (cl "InvalidTable")) (.ref (cl "InvalidRank")) = some false
  k_InvalidPrices_InvalidRank : PySem.W.kitOne K (.ref (cl "InvalidPrices")) (.ref (cl "InvalidRank")) = some false
  k_InvalidNumbers_InvalidRank : PySem.W.kitOne K (.ref (cl "InvalidNumbers")) (.ref (cl "InvalidRank")) = some false
  k_TooLarge_InvalidRank : PySem.W.kitOne K (.ref (cl "TooLarge")) (.ref (cl "InvalidRank")) = some false
  k_InvalidEdit_InvalidRank : PySem.W.kitOne K (.ref (cl "InvalidEdit")) (.ref (cl "InvalidRank")) = some false
  k_InvalidRank_InvalidRank : PySem.W.kitOne K (.ref (cl "InvalidRank")) (.ref (cl "InvalidRank")) = some true
  k_InvalidText_InvalidRank : PySem.W.kitOne K (.ref (cl "InvalidText")) (.ref (cl "InvalidRank")) = some false
  k_NotChild_InvalidRank : PySem.W.kitOne K (.ref (cl "NotChild")) (.ref (cl "InvalidRank")) = some false
  k_NotRoot_InvalidRank : PySem.W.kitOne K (.ref (cl "NotRoot")) (.ref (cl "InvalidRank")) = some false
  k_Unreachable_InvalidRank : PySem.W.kitOne K (.ref (cl "Unreachable")) (.ref (cl "InvalidRank")) = some false
  k_NothingRemains_InvalidRank : PySem.W.kitOne K (.ref (cl "NothingRemains")) (.ref (cl "InvalidRank")) = some false
  k_NotRemovable_InvalidRank : PySem.W.kitOne K (.ref (cl "NotRemovable")) (.ref (cl "InvalidRank")) = some false
  k_NotClearing_InvalidRank : PySem.W.kitOne K (.ref (cl "NotClearing")) (.ref (cl "InvalidRank")) = some false
  k_WouldLoop_InvalidRank : PySem.W.kitOne K (.ref (cl "WouldLoop")) (.ref (cl "InvalidRank")) = some false
  k_NothingToUndo_InvalidRank : PySem.W.kitOne K (.ref (cl "NothingToUndo")) (.ref (cl "InvalidRank")) = some false
  k_InvalidSelection_InvalidText : PySem.W.kitOne K (.ref (cl "InvalidSelection")) (.ref (cl "InvalidText")) = some false
  k_InvalidRun_InvalidText : PySem.W.kitOne K (.ref (cl "InvalidRun")) (.ref (cl "InvalidText")) = some false
  k_InvalidLabel_InvalidText : PySem.W.kitOne K (.ref (cl "InvalidLabel")) (.ref (cl "InvalidText")) = some false
  k_InvalidForest_InvalidText : PySem.W.kitOne K (.ref (cl "InvalidForest")) (.ref (cl "InvalidText")) = some false
  k_InvalidOrder_InvalidText : PySem.W.kitOne K (.ref (cl "InvalidOrder")) (.ref (cl "InvalidText")) = some false
  k_InvalidTable_InvalidText : PySem.W.kitOne K (.ref (cl "InvalidTable")) (.ref (cl "InvalidText")) = some false
  k_InvalidPrices_InvalidText : PySem.W.kitOne K (.ref (cl "InvalidPrices")) (.ref (cl "InvalidText")) = some false
  k_InvalidNumbers_InvalidText : PySem.W.kitOne K (.ref (cl "InvalidNumbers")) (.ref (cl "InvalidText")) = some false
  k_TooLarge_InvalidText : PySem.W.kitOne K (.ref (cl "TooLarge")) (.ref (cl "InvalidText")) = some false
  k_InvalidEdit_InvalidText : PySem.W.kitOne K (.ref (cl "InvalidEdit")) (.ref (cl "InvalidText")) = some false
  k_InvalidRank_InvalidText : PySem.W.kitOne K (.ref (cl "InvalidRank")) (.ref (cl "InvalidText")) = some false
  k_InvalidText_InvalidText : PySem.W.kitOne K (.ref (cl "InvalidText")) (.ref (cl "InvalidText")) = some true
  k_NotChild_InvalidText : PySem.W.kitOne K (.ref (cl "NotChild")) (.ref (cl "InvalidText")) = some false
  k_NotRoot_InvalidText : PySem.W.kitOne K (.ref (cl "NotRoot")) (.ref (cl "InvalidText")) = some false
  k_Unreachable_InvalidText : PySem.W.kitOne K (.ref (cl "Unreachable")) (.ref (cl "InvalidText")) = some false
  k_NothingRemains_InvalidText : PySem.W.kitOne K (.ref (cl "NothingRemains")) (.ref (cl "InvalidText")) = some false
  k_NotRemovable_InvalidText : PySem.W.kitOne K (.ref (cl "NotRemovable")) (.ref (cl "InvalidText")) = some false
  k_NotClearing_InvalidText : PySem.W.kitOne K (.ref (cl "NotClearing")) (.ref (cl "InvalidText")) = some false
  k_WouldLoop_InvalidText : PySem.W.kitOne K (.ref (cl "WouldLoop")) (.ref (cl "InvalidText")) = some false
  k_NothingToUndo_InvalidText : PySem.W.kitOne K (.ref (cl "NothingToUndo")) (.ref (cl "InvalidText")) = some false
  k_InvalidSelection_NothingRemains : PySem.W.kitOne K (.ref (cl "InvalidSelection")) (.ref (cl "NothingRemains")) = some false
  k_InvalidRun_NothingRemains : PySem.W.kitOne K (.ref (cl "InvalidRun")) (.ref (cl "NothingRemains")) = some false
  k_InvalidLabel_NothingRemains : PySem.W.kitOne K (.ref (cl "InvalidLabel")) (.ref (cl "NothingRemains")) = some false
  k_InvalidForest_NothingRemains : PySem.W.kitOne K (.ref (cl "InvalidForest")) (.ref (cl "NothingRemains")) = some false
  k_InvalidOrder_NothingRemains : PySem.W.kitOne K (.ref (cl "InvalidOrder")) (.ref (cl "NothingRemains")) = some false
  k_InvalidTable_NothingRemains : PySem.W.kitOne K (.ref (cl "InvalidTable")) (.ref (cl "NothingRemains")) = some false
  k_InvalidPrices_NothingRemains : PySem.W.kitOne K (.ref (cl "InvalidPrices")) (.ref (cl "NothingRemains")) = some false
  k_InvalidNumbers_NothingRemains : PySem.W.kitOne K (.ref (cl "InvalidNumbers")) (.ref (cl "NothingRemains")) = some false
  k_TooLarge_NothingRemains : PySem.W.kitOne K (.ref (cl "TooLarge")) (.ref (cl "NothingRemains")) = some false
  k_InvalidEdit_NothingRemains : PySem.W.kitOne K (.ref (cl "InvalidEdit")) (.ref (cl "NothingRemains")) = some false
  k_InvalidRank_NothingRemains : PySem.W.kitOne K (.ref (cl "InvalidRank")) (.ref (cl "NothingRemains")) = some false
  k_InvalidText_NothingRemains : PySem.W.kitOne K (.ref (cl "InvalidText")) (.ref (cl "NothingRemains")) = some false
  k_NotChild_NothingRemains : PySem.W.kitOne K (.ref (cl "NotChild")) (.ref (cl "NothingRemains")) = some false
  k_NotRoot_NothingRemains : PySem.W.kitOne K (.ref (cl "NotRoot")) (.ref (cl "NothingRemains")) = some false
  k_Unreachable_NothingRemains : PySem.W.kitOne K (.ref (cl "Unreachable")) (.ref (cl "NothingRemains")) = some false
  k_NothingRemains_NothingRemains : PySem.W.kitOne K (.ref (cl "NothingRemains")) (.ref (cl "NothingRemains")) = some true
  k_NotRemovable_NothingRemains : PySem.W.kitOne K (.ref (cl "NotRemovable")) (.ref (cl "NothingRemains")) = some false
  k_NotClearing_NothingRemains : PySem.W.kitOne K (.ref (cl "NotClearing")) (.ref (cl "NothingRemains")) = some false
  k_WouldLoop_NothingRemains : PySem.W.kitOne K (.ref (cl "WouldLoop")) (.ref (cl "NothingRemains")) = some false
  k_NothingToUndo_NothingRemains : PySem.W.kitOne K (.ref (cl "NothingToUndo")) (.ref (cl "NothingRemains")) = some false
  k_InvalidSelection_NotRemovable : PySem.W.kitOne K (.ref (cl "InvalidSelection")) (.ref (cl "NotRemovable")) = some false
  k_InvalidRun_NotRemovable : PySem.W.kitOne K (.ref (cl "InvalidRun")) (.ref (cl "NotRemovable")) = some false
  k_InvalidLabel_NotRemovable : PySem.W.kitOne K (.ref (cl "InvalidLabel")) (.ref (cl "NotRemovable")) = some false
  k_InvalidForest_NotRemovable : PySem.W.kitOne K (.ref (cl "InvalidForest")) (.ref (cl "NotRemovable")) = some false
  k_InvalidOrder_NotRemovable : PySem.W.kitOne K (.ref (cl "InvalidOrder")) (.ref (cl "NotRemovable")) = some false
  k_InvalidTable_NotRemovable : PySem.W.kitOne K (.ref (cl "InvalidTable")) (.ref (cl "NotRemovable")) = some false
  k_InvalidPrices_NotRemovable : PySem.W.kitOne K (.ref (cl "InvalidPrices")) (.ref (cl "NotRemovable")) = some false
  k_InvalidNumbers_NotRemovable : PySem.W.kitOne K (.ref (cl "InvalidNumbers")) (.ref (cl "NotRemovable")) = some false
  k_TooLarge_NotRemovable : PySem.W.kitOne K (.ref (cl "TooLarge")) (.ref (cl "NotRemovable")) = some false
  k_InvalidEdit_NotRemovable : PySem.W.kitOne K (.ref (cl "InvalidEdit")) (.ref (cl "NotRemovable")) = some false
  k_InvalidRank_NotRemovable : PySem.W.kitOne K (.ref (cl "InvalidRank")) (.ref (cl "NotRemovable")) = some false
  k_InvalidText_NotRemovable : PySem.W.kitOne K (.ref (cl "InvalidText")) (.ref (cl "NotRemovable")) = some false
  k_NotChild_NotRemovable : PySem.W.kitOne K (.ref (cl "NotChild")) (.ref (cl "NotRemovable")) = some false
  k_NotRoot_NotRemovable : PySem.W.kitOne K (.ref (cl "NotRoot")) (.ref (cl "NotRemovable")) = some false
  k_Unreachable_NotRemovable : PySem.W.kitOne K (.ref (cl "Unreachable")) (.ref (cl "NotRemovable")) = some false
  k_NothingRemains_NotRemovable : PySem.W.kitOne K (.ref (cl "NothingRemains")) (.ref (cl "NotRemovable")) = some false
  k_NotRemovable_NotRemovable : PySem.W.kitOne K (.ref (cl "NotRemovable")) (.ref (cl "NotRemovable")) = some true
  k_NotClearing_NotRemovable : PySem.W.kitOne K (.ref (cl "NotClearing")) (.ref (cl "NotRemovable")) = some false
  k_WouldLoop_NotRemovable : PySem.W.kitOne K (.ref (cl "WouldLoop")) (.ref (cl "NotRemovable")) = some false
  k_NothingToUndo_NotRemovable : PySem.W.kitOne K (.ref (cl "NothingToUndo")) (.ref (cl "NotRemovable")) = some false
  k_InvalidSelection_TooLarge : PySem.W.kitOne K (.ref (cl "InvalidSelection")) (.ref (cl "TooLarge")) = some false
  k_InvalidRun_TooLarge : PySem.W.kitOne K (.ref (cl "InvalidRun")) (.ref (cl "TooLarge")) = some false
  k_InvalidLabel_TooLarge : PySem.W.kitOne K (.ref (cl "InvalidLabel")) (.ref (cl "TooLarge")) = some false
  k_InvalidForest_TooLarge : PySem.W.kitOne K (.ref (cl "InvalidForest")) (.ref (cl "TooLarge")) = some false
  k_InvalidOrder_TooLarge : PySem.W.kitOne K (.ref (cl "InvalidOrder")) (.ref (cl "TooLarge")) = some false
  k_InvalidTable_TooLarge : PySem.W.kitOne K (.ref (cl "InvalidTable")) (.ref (cl "TooLarge")) = some false
  k_InvalidPrices_TooLarge : PySem.W.kitOne K (.ref (cl "InvalidPrices")) (.ref (cl "TooLarge")) = some false
  k_InvalidNumbers_TooLarge : PySem.W.kitOne K (.ref (cl "InvalidNumbers")) (.ref (cl "TooLarge")) = some false
  k_TooLarge_TooLarge : PySem.W.kitOne K (.ref (cl "TooLarge")) (.ref (cl "TooLarge")) = some true
  k_InvalidEdit_TooLarge : PySem.W.kitOne K (.ref (cl "InvalidEdit")) (.ref (cl "TooLarge")) = some false
  k_InvalidRank_TooLarge : PySem.W.kitOne K (.ref (cl "InvalidRank")) (.ref (cl "TooLarge")) = some false
  k_InvalidText_TooLarge : PySem.W.kitOne K (.ref (cl "InvalidText")) (.ref (cl "TooLarge")) = some false
  k_NotChild_TooLarge : PySem.W.kitOne K (.ref (cl "NotChild")) (.ref (cl "TooLarge")) = some false
  k_NotRoot_TooLarge : PySem.W.kitOne K (.ref (cl "NotRoot")) (.ref (cl "TooLarge")) = some false
  k_Unreachable_TooLarge : PySem.W.kitOne K (.ref (cl "Unreachable")) (.ref (cl "TooLarge")) = some false
  k_NothingRemains_TooLarge : PySem.W.kitOne K (.ref (cl "NothingRemains")) (.ref (cl "TooLarge")) = some false
  k_NotRemovable_TooLarge : PySem.W.kitOne K (.ref (cl "NotRemovable")) (.ref (cl "TooLarge")) = some false
  k_NotClearing_TooLarge : PySem.W.kitOne K (.ref (cl "NotClearing")) (.ref (cl "TooLarge")) = some false
  k_WouldLoop_TooLarge : PySem.W.kitOne K (.ref (cl "WouldLoop")) (.ref (cl "TooLarge")) = some false
  k_NothingToUndo_TooLarge : PySem.W.kitOne K (.ref (cl "NothingToUndo")) (.ref (cl "TooLarge")) = some false
  k_InvalidSelection_NotChild : PySem.W.kitOne K (.ref (cl "InvalidSelection")) (.ref (cl "NotChild")) = some false
  k_InvalidRun_NotChild : PySem.W.kitOne K (.ref (cl "InvalidRun")) (.ref (cl "NotChild")) = some false
  k_InvalidLabel_NotChild : PySem.W.kitOne K (.ref (cl "InvalidLabel")) (.ref (cl "NotChild")) = some false
  k_InvalidForest_NotChild : PySem.W.kitOne K (.ref (cl "InvalidForest")) (.ref (cl "NotChild")) = some false
  k_InvalidOrder_NotChild : PySem.W.kitOne K (.ref (cl "InvalidOrder")) (.ref (cl "NotChild")) = some false
  k_InvalidTable_NotChild : PySem.W.kitOne K (.ref (cl "InvalidTable")) (.ref (cl "NotChild")) = some false
  k_InvalidPrices_NotChild : PySem.W.kitOne K (.ref (cl "InvalidPrices")) (.ref (cl "NotChild")) = some false
  k_InvalidNumbers_NotChild : PySem.W.kitOne K (.ref (cl "InvalidNumbers")) (.ref (cl "NotChild")) = some false
  k_TooLarge_NotChild : PySem.W.kitOne K (.ref (cl "TooLarge")) (.ref (cl "NotChild")) = some false
  k_InvalidEdit_NotChild : PySem.W.kitOne K (.ref (cl "InvalidEdit")) (.ref (cl "NotChild")) = some false
  k_InvalidRank_NotChild : PySem.W.kitOne K (.ref (cl "InvalidRank")) (.ref (cl "NotChild")) = some false
  k_InvalidText_NotChild : PySem.W.kitOne K (.ref (cl "InvalidText")) (.ref (cl "NotChild")) = some false
  k_NotChild_NotChild : PySem.W.kitOne K (.ref (cl "NotChild")) (.ref (cl "NotChild")) = some true
  k_NotRoot_NotChild : PySem.W.kitOne K (.ref (cl "NotRoot")) (.ref (cl "NotChild")) = some false
  k_Unreachable_NotChild : PySem.W.kitOne K (.ref (cl "Unreachable")) (.ref (cl "NotChild")) = some false
  k_NothingRemains_NotChild : PySem.W.kitOne K (.ref (cl "NothingRemains")) (.ref (cl "NotChild")) = some false
  k_NotRemovable_NotChild : PySem.W.kitOne K (.ref (cl "NotRemovable")) (.ref (cl "NotChild")) = some false
  k_NotClearing_NotChild : PySem.W.kitOne K (.ref (cl "NotClearing")) (.ref (cl "NotChild")) = some false
  k_WouldLoop_NotChild : PySem.W.kitOne K (.ref (cl "WouldLoop")) (.ref (cl "NotChild")) = some false
  k_NothingToUndo_NotChild : PySem.W.kitOne K (.ref (cl "NothingToUndo")) (.ref (cl "NotChild")) = some false
  k_InvalidSelection_NotRoot : PySem.W.kitOne K (.ref (cl "InvalidSelection")) (.ref (cl "NotRoot")) = some false
  k_InvalidRun_NotRoot : PySem.W.kitOne K (.ref (cl "InvalidRun")) (.ref (cl "NotRoot")) = some false
  k_InvalidLabel_NotRoot : PySem.W.kitOne K (.ref (cl "InvalidLabel")) (.ref (cl "NotRoot")) = some false
  k_InvalidForest_NotRoot : PySem.W.kitOne K (.ref (cl "InvalidForest")) (.ref (cl "NotRoot")) = some false
  k_InvalidOrder_NotRoot : PySem.W.kitOne K (.ref (cl "InvalidOrder")) (.ref (cl "NotRoot")) = some false
  k_InvalidTable_NotRoot : PySem.W.kitOne K (.ref (cl "InvalidTable")) (.ref (cl "NotRoot")) = some false
  k_InvalidPrices_NotRoot : PySem.W.kitOne K (.ref (cl "InvalidPrices")) (.ref (cl "NotRoot")) = some false
  k_InvalidNumbers_NotRoot : PySem.W.kitOne K (.ref (cl "InvalidNumbers")) (.ref (cl "NotRoot")) = some false
  k_TooLarge_NotRoot : PySem.W.kitOne K (.ref (cl "TooLarge")) (.ref (cl "NotRoot")) = some false
  k_InvalidEdit_NotRoot : PySem.W.kitOne K (.ref (cl "InvalidEdit")) (.ref (cl "NotRoot")) = some false
  k_InvalidRank_NotRoot : PySem.W.kitOne K (.ref (cl "InvalidRank")) (.ref (cl "NotRoot")) = some false
  k_InvalidText_NotRoot : PySem.W.kitOne K (.ref (cl "InvalidText")) (.ref (cl "NotRoot")) = some false
  k_NotChild_NotRoot : PySem.W.kitOne K (.ref (cl "NotChild")) (.ref (cl "NotRoot")) = some false
  k_NotRoot_NotRoot : PySem.W.kitOne K (.ref (cl "NotRoot")) (.ref (cl "NotRoot")) = some true
  k_Unreachable_NotRoot : PySem.W.kitOne K (.ref (cl "Unreachable")) (.ref (cl "NotRoot")) = some false
  k_NothingRemains_NotRoot : PySem.W.kitOne K (.ref (cl "NothingRemains")) (.ref (cl "NotRoot")) = some false
  k_NotRemovable_NotRoot : PySem.W.kitOne K (.ref (cl "NotRemovable")) (.ref (cl "NotRoot")) = some false
  k_NotClearing_NotRoot : PySem.W.kitOne K (.ref (cl "NotClearing")) (.ref (cl "NotRoot")) = some false
  k_WouldLoop_NotRoot : PySem.W.kitOne K (.ref (cl "WouldLoop")) (.ref (cl "NotRoot")) = some false
  k_NothingToUndo_NotRoot : PySem.W.kitOne K (.ref (cl "NothingToUndo")) (.ref (cl "NotRoot")) = some false
  k_InvalidSelection_Unreachable : PySem.W.kitOne K (.ref (cl "InvalidSelection")) (.ref (cl "Unreachable")) = some false
  k_InvalidRun_Unreachable : PySem.W.kitOne K (.ref (cl "InvalidRun")) (.ref (cl "Unreachable")) = some false
  k_InvalidLabel_Unreachable : PySem.W.kitOne K (.ref (cl "InvalidLabel")) (.ref (cl "Unreachable")) = some false
  k_InvalidForest_Unreachable : PySem.W.kitOne K (.ref (cl "InvalidForest")) (.ref (cl "Unreachable")) = some false
  k_InvalidOrder_Unreachable : PySem.W.kitOne K (.ref (cl "InvalidOrder")) (.ref (cl "Unreachable")) = some false
  k_InvalidTable_Unreachable : PySem.W.kitOne K (.ref (cl "InvalidTable")) (.ref (cl "Unreachable")) = some false
  k_InvalidPrices_Unreachable : PySem.W.kitOne K (.ref (cl "InvalidPrices")) (.ref (cl "Unreachable")) = some false
  k_InvalidNumbers_Unreachable : PySem.W.kitOne K (.ref (cl "InvalidNumbers")) (.ref (cl "Unreachable")) = some false
  k_TooLarge_Unreachable : PySem.W.kitOne K (.ref (cl "TooLarge")) (.ref (cl "Unreachable")) = some false
  k_InvalidEdit_Unreachable : PySem.W.kitOne K (.ref (cl "InvalidEdit")) (.ref (cl "Unreachable")) = some false
  k_InvalidRank_Unreachable : PySem.W.kitOne K (.ref (cl "InvalidRank")) (.ref (cl "Unreachable")) = some false
  k_InvalidText_Unreachable : PySem.W.kitOne K (.ref (cl "InvalidText")) (.ref (cl "Unreachable")) = some false
  k_NotChild_Unreachable : PySem.W.kitOne K (.ref (cl "NotChild")) (.ref (cl "Unreachable")) = some false
  k_NotRoot_Unreachable : PySem.W.kitOne K (.ref (cl "NotRoot")) (.ref (cl "Unreachable")) = some false
  k_Unreachable_Unreachable : PySem.W.kitOne K (.ref (cl "Unreachable")) (.ref (cl "Unreachable")) = some true
  k_NothingRemains_Unreachable : PySem.W.kitOne K (.ref (cl "NothingRemains")) (.ref (cl "Unreachable")) = some false
  k_NotRemovable_Unreachable : PySem.W.kitOne K (.ref (cl "NotRemovable")) (.ref (cl "Unreachable")) = some false
  k_NotClearing_Unreachable : PySem.W.kitOne K (.ref (cl "NotClearing")) (.ref (cl "Unreachable")) = some false
  k_WouldLoop_Unreachable : PySem.W.kitOne K (.ref (cl "WouldLoop")) (.ref (cl "Unreachable")) = some false
  k_NothingToUndo_Unreachable : PySem.W.kitOne K (.ref (cl "NothingToUndo")) (.ref (cl "Unreachable")) = some false
  k_InvalidSelection_NothingToUndo : PySem.W.kitOne K (.ref (cl "InvalidSelection")) (.ref (cl "NothingToUndo")) = some false
  k_InvalidRun_NothingToUndo : PySem.W.kitOne K (.ref (cl "InvalidRun")) (.ref (cl "NothingToUndo")) = some false
  k_InvalidLabel_NothingToUndo : PySem.W.kitOne K (.ref (cl "InvalidLabel")) (.ref (cl "NothingToUndo")) = some false
  k_InvalidForest_NothingToUndo : PySem.W.kitOne K (.ref (cl "InvalidForest")) (.ref (cl "NothingToUndo")) = some false
  k_InvalidOrder_NothingToUndo : PySem.W.kitOne K (.ref (cl "InvalidOrder")) (.ref (cl "NothingToUndo")) = some false
  k_InvalidTable_NothingToUndo : PySem.W.kitOne K (.ref (cl "InvalidTable")) (.ref (cl "NothingToUndo")) = some false
  k_InvalidPrices_NothingToUndo : PySem.W.kitOne K (.ref (cl "InvalidPrices")) (.ref (cl "NothingToUndo")) = some false
  k_InvalidNumbers_NothingToUndo : PySem.W.kitOne K (.ref (cl "InvalidNumbers")) (.ref (cl "NothingToUndo")) = some false
  k_TooLarge_NothingToUndo : PySem.W.kitOne K (.ref (cl "TooLarge")) (.ref (cl "NothingToUndo")) = some false
  k_InvalidEdit_NothingToUndo : PySem.W.kitOne K (.ref (cl "InvalidEdit")) (.ref (cl "NothingToUndo")) = some false
  k_InvalidRank_NothingToUndo : PySem.W.kitOne K (.ref (cl "InvalidRank")) (.ref (cl "NothingToUndo")) = some false
  k_InvalidText_NothingToUndo : PySem.W.kitOne K (.ref (cl "InvalidText")) (.ref (cl "NothingToUndo")) = some false
  k_NotChild_NothingToUndo : PySem.W.kitOne K (.ref (cl "NotChild")) (.ref (cl "NothingToUndo")) = some false
  k_NotRoot_NothingToUndo : PySem.W.kitOne K (.ref (cl "NotRoot")) (.ref (cl "NothingToUndo")) = some false
  k_Unreachable_NothingToUndo : PySem.W.kitOne K (.ref (cl "Unreachable")) (.ref (cl "NothingToUndo")) = some false
  k_NothingRemains_NothingToUndo : PySem.W.kitOne K (.ref (cl "NothingRemains")) (.ref (cl "NothingToUndo")) = some false
  k_NotRemovable_NothingToUndo : PySem.W.kitOne K (.ref (cl "NotRemovable")) (.ref (cl "NothingToUndo")) = some false
  k_NotClearing_NothingToUndo : PySem.W.kitOne K (.ref (cl "NotClearing")) (.ref (cl "NothingToUndo")) = some false
  k_WouldLoop_NothingToUndo : PySem.W.kitOne K (.ref (cl "WouldLoop")) (.ref (cl "NothingToUndo")) = some false
  k_NothingToUndo_NothingToUndo : PySem.W.kitOne K (.ref (cl "NothingToUndo")) (.ref (cl "NothingToUndo")) = some true
  k_InvalidSelection_NotClearing : PySem.W.kitOne K (.ref (cl "InvalidSelection")) (.ref (cl "NotClearing")) = some false
  k_InvalidRun_NotClearing : PySem.W.kitOne K (.ref (cl "InvalidRun")) (.ref (cl "NotClearing")) = some false
  k_InvalidLabel_NotClearing : PySem.W.kitOne K (.ref (cl "InvalidLabel")) (.ref (cl "NotClearing")) = some false
  k_InvalidForest_NotClearing : PySem.W.kitOne K (.ref (cl "InvalidForest")) (.ref (cl "NotClearing")) = some false
  k_InvalidOrder_NotClearing : PySem.W.kitOne K (.ref (cl "InvalidOrder")) (.ref (cl "NotClearing")) = some false
  k_InvalidTable_NotClearing : PySem.W.kitOne K (.ref (cl "InvalidTable")) (.ref (cl "NotClearing")) = some false
  k_InvalidPrices_NotClearing : PySem.W.kitOne K (.ref (cl "InvalidPrices")) (.ref (cl "NotClearing")) = some false
  k_InvalidNumbers_NotClearing : PySem.W.kitOne K (.ref (cl "InvalidNumbers")) (.ref (cl "NotClearing")) = some false
  k_TooLarge_NotClearing : PySem.W.kitOne K (.ref (cl "TooLarge")) (.ref (cl "NotClearing")) = some false
  k_InvalidEdit_NotClearing : PySem.W.kitOne K (.ref (cl "InvalidEdit")) (.ref (cl "NotClearing")) = some false
  k_InvalidRank_NotClearing : PySem.W.kitOne K (.ref (cl "InvalidRank")) (.ref (cl "NotClearing")) = some false
  k_InvalidText_NotClearing : PySem.W.kitOne K (.ref (cl "InvalidText")) (.ref (cl "NotClearing")) = some false
  k_NotChild_NotClearing : PySem.W.kitOne K (.ref (cl "NotChild")) (.ref (cl "NotClearing")) = some false
  k_NotRoot_NotClearing : PySem.W.kitOne K (.ref (cl "NotRoot")) (.ref (cl "NotClearing")) = some false
  k_Unreachable_NotClearing : PySem.W.kitOne K (.ref (cl "Unreachable")) (.ref (cl "NotClearing")) = some false
  k_NothingRemains_NotClearing : PySem.W.kitOne K (.ref (cl "NothingRemains")) (.ref (cl "NotClearing")) = some false
  k_NotRemovable_NotClearing : PySem.W.kitOne K (.ref (cl "NotRemovable")) (.ref (cl "NotClearing")) = some false
  k_NotClearing_NotClearing : PySem.W.kitOne K (.ref (cl "NotClearing")) (.ref (cl "NotClearing")) = some true
  k_WouldLoop_NotClearing : PySem.W.kitOne K (.ref (cl "WouldLoop")) (.ref (cl "NotClearing")) = some false
  k_NothingToUndo_NotClearing : PySem.W.kitOne K (.ref (cl "NothingToUndo")) (.ref (cl "NotClearing")) = some false
  k_InvalidSelection_WouldLoop : PySem.W.kitOne K (.ref (cl "InvalidSelection")) (.ref (cl "WouldLoop")) = some false
  k_InvalidRun_WouldLoop : PySem.W.kitOne K (.ref (cl "InvalidRun")) (.ref (cl "WouldLoop")) = some false
  k_InvalidLabel_WouldLoop : PySem.W.kitOne K (.ref (cl "InvalidLabel")) (.ref (cl "WouldLoop")) = some false
  k_InvalidForest_WouldLoop : PySem.W.kitOne K (.ref (cl "InvalidForest")) (.ref (cl "WouldLoop")) = some false
  k_InvalidOrder_WouldLoop : PySem.W.kitOne K (.ref (cl "InvalidOrder")) (.ref (cl "WouldLoop")) = some false
  k_InvalidTable_WouldLoop : PySem.W.kitOne K (.ref (cl "InvalidTable")) (.ref (cl "WouldLoop")) = some false
  k_InvalidPrices_WouldLoop : PySem.W.kitOne K (.ref (cl "InvalidPrices")) (.ref (cl "WouldLoop")) = some false
  k_InvalidNumbers_WouldLoop : PySem.W.kitOne K (.ref (cl "InvalidNumbers")) (.ref (cl "WouldLoop")) = some false
  k_TooLarge_WouldLoop : PySem.W.kitOne K (.ref (cl "TooLarge")) (.ref (cl "WouldLoop")) = some false
  k_InvalidEdit_WouldLoop : PySem.W.kitOne K (.ref (cl "InvalidEdit")) (.ref (cl "WouldLoop")) = some false
  k_InvalidRank_WouldLoop : PySem.W.kitOne K (.ref (cl "InvalidRank")) (.ref (cl "WouldLoop")) = some false
  k_InvalidText_WouldLoop : PySem.W.kitOne K (.ref (cl "InvalidText")) (.ref (cl "WouldLoop")) = some false
  k_NotChild_WouldLoop : PySem.W.kitOne K (.ref (cl "NotChild")) (.ref (cl "WouldLoop")) = some false
  k_NotRoot_WouldLoop : PySem.W.kitOne K (.ref (cl "NotRoot")) (.ref (cl "WouldLoop")) = some false
  k_Unreachable_WouldLoop : PySem.W.kitOne K (.ref (cl "Unreachable")) (.ref (cl "WouldLoop")) = some false
  k_NothingRemains_WouldLoop : PySem.W.kitOne K (.ref (cl "NothingRemains")) (.ref (cl "WouldLoop")) = some false
  k_NotRemovable_WouldLoop : PySem.W.kitOne K (.ref (cl "NotRemovable")) (.ref (cl "WouldLoop")) = some false
  k_NotClearing_WouldLoop : PySem.W.kitOne K (.ref (cl "NotClearing")) (.ref (cl "WouldLoop")) = some false
  k_WouldLoop_WouldLoop : PySem.W.kitOne K (.ref (cl "WouldLoop")) (.ref (cl "WouldLoop")) = some true
  k_NothingToUndo_WouldLoop : PySem.W.kitOne K (.ref (cl "NothingToUndo")) (.ref (cl "WouldLoop")) = some false
  k_InvalidSelection_DialLookupError : PySem.W.kitOne K (.ref (cl "InvalidSelection")) (.ref (cl "DialLookupError")) = some false
  k_InvalidRun_DialLookupError : PySem.W.kitOne K (.ref (cl "InvalidRun")) (.ref (cl "DialLookupError")) = some false
  k_InvalidLabel_DialLookupError : PySem.W.kitOne K (.ref (cl "InvalidLabel")) (.ref (cl "DialLookupError")) = some false
  k_InvalidForest_DialLookupError : PySem.W.kitOne K (.ref (cl "InvalidForest")) (.ref (cl "DialLookupError")) = some false
  k_InvalidOrder_DialLookupError : PySem.W.kitOne K (.ref (cl "InvalidOrder")) (.ref (cl "DialLookupError")) = some false
  k_InvalidTable_DialLookupError : PySem.W.kitOne K (.ref (cl "InvalidTable")) (.ref (cl "DialLookupError")) = some false
  k_InvalidPrices_DialLookupError : PySem.W.kitOne K (.ref (cl "InvalidPrices")) (.ref (cl "DialLookupError")) = some false
  k_InvalidNumbers_DialLookupError : PySem.W.kitOne K (.ref (cl "InvalidNumbers")) (.ref (cl "DialLookupError")) = some false
  k_TooLarge_DialLookupError : PySem.W.kitOne K (.ref (cl "TooLarge")) (.ref (cl "DialLookupError")) = some false
  k_InvalidEdit_DialLookupError : PySem.W.kitOne K (.ref (cl "InvalidEdit")) (.ref (cl "DialLookupError")) = some false
  k_InvalidRank_DialLookupError : PySem.W.kitOne K (.ref (cl "InvalidRank")) (.ref (cl "DialLookupError")) = some false
  k_InvalidText_DialLookupError : PySem.W.kitOne K (.ref (cl "InvalidText")) (.ref (cl "DialLookupError")) = some false
  k_NotChild_DialLookupError : PySem.W.kitOne K (.ref (cl "NotChild")) (.ref (cl "DialLookupError")) = some false
  k_NotRoot_DialLookupError : PySem.W.kitOne K (.ref (cl "NotRoot")) (.ref (cl "DialLookupError")) = some false
  k_Unreachable_DialLookupError : PySem.W.kitOne K (.ref (cl "Unreachable")) (.ref (cl "DialLookupError")) = some false
  k_NothingRemains_DialLookupError : PySem.W.kitOne K (.ref (cl "NothingRemains")) (.ref (cl "DialLookupError")) = some false
  k_NotRemovable_DialLookupError : PySem.W.kitOne K (.ref (cl "NotRemovable")) (.ref (cl "DialLookupError")) = some false
  k_NotClearing_DialLookupError : PySem.W.kitOne K (.ref (cl "NotClearing")) (.ref (cl "DialLookupError")) = some false
  k_WouldLoop_DialLookupError : PySem.W.kitOne K (.ref (cl "WouldLoop")) (.ref (cl "DialLookupError")) = some false
  k_NothingToUndo_DialLookupError : PySem.W.kitOne K (.ref (cl "NothingToUndo")) (.ref (cl "DialLookupError")) = some true
  k_InvalidSelection_DialStateError : PySem.W.kitOne K (.ref (cl "InvalidSelection")) (.ref (cl "DialStateError")) = some false
  k_InvalidRun_DialStateError : PySem.W.kitOne K (.ref (cl "InvalidRun")) (.ref (cl "DialStateError")) = some false
  k_InvalidLabel_DialStateError : PySem.W.kitOne K (.ref (cl "InvalidLabel")) (.ref (cl "DialStateError")) = some false
  k_InvalidForest_DialStateError : PySem.W.kitOne K (.ref (cl "InvalidForest")) (.ref (cl "DialStateError")) = some false
  k_InvalidOrder_DialStateError : PySem.W.kitOne K (.ref (cl "InvalidOrder")) (.ref (cl "DialStateError")) = some false
  k_InvalidTable_DialStateError : PySem.W.kitOne K (.ref (cl "InvalidTable")) (.ref (cl "DialStateError")) = some false
  k_InvalidPrices_DialStateError : PySem.W.kitOne K (.ref (cl "InvalidPrices")) (.ref (cl "DialStateError")) = some false
  k_InvalidNumbers_DialStateError : PySem.W.kitOne K (.ref (cl "InvalidNumbers")) (.ref (cl "DialStateError")) = some false
  k_TooLarge_DialStateError : PySem.W.kitOne K (.ref (cl "TooLarge")) (.ref (cl "DialStateError")) = some false
  k_InvalidEdit_DialStateError : PySem.W.kitOne K (.ref (cl "InvalidEdit")) (.ref (cl "DialStateError")) = some false
  k_InvalidRank_DialStateError : PySem.W.kitOne K (.ref (cl "InvalidRank")) (.ref (cl "DialStateError")) = some false
  k_InvalidText_DialStateError : PySem.W.kitOne K (.ref (cl "InvalidText")) (.ref (cl "DialStateError")) = some false
  k_NotChild_DialStateError : PySem.W.kitOne K (.ref (cl "NotChild")) (.ref (cl "DialStateError")) = some true
  k_NotRoot_DialStateError : PySem.W.kitOne K (.ref (cl "NotRoot")) (.ref (cl "DialStateError")) = some true
  k_Unreachable_DialStateError : PySem.W.kitOne K (.ref (cl "Unreachable")) (.ref (cl "DialStateError")) = some true
  k_NothingRemains_DialStateError : PySem.W.kitOne K (.ref (cl "NothingRemains")) (.ref (cl "DialStateError")) = some true
  k_NotRemovable_DialStateError : PySem.W.kitOne K (.ref (cl "NotRemovable")) (.ref (cl "DialStateError")) = some true
  k_NotClearing_DialStateError : PySem.W.kitOne K (.ref (cl "NotClearing")) (.ref (cl "DialStateError")) = some true
  k_WouldLoop_DialStateError : PySem.W.kitOne K (.ref (cl "WouldLoop")) (.ref (cl "DialStateError")) = some true
  k_NothingToUndo_DialStateError : PySem.W.kitOne K (.ref (cl "NothingToUndo")) (.ref (cl "DialStateError")) = some false
  k_InvalidSelection_DialError : PySem.W.kitOne K (.ref (cl "InvalidSelection")) (.ref (cl "DialError")) = some true
  k_InvalidRun_DialError : PySem.W.kitOne K (.ref (cl "InvalidRun")) (.ref (cl "DialError")) = some true
  k_InvalidLabel_DialError : PySem.W.kitOne K (.ref (cl "InvalidLabel")) (.ref (cl "DialError")) = some true
  k_InvalidForest_DialError : PySem.W.kitOne K (.ref (cl "InvalidForest")) (.ref (cl "DialError")) = some true
  k_InvalidOrder_DialError : PySem.W.kitOne K (.ref (cl "InvalidOrder")) (.ref (cl "DialError")) = some true
  k_InvalidTable_DialError : PySem.W.kitOne K (.ref (cl "InvalidTable")) (.ref (cl "DialError")) = some true
  k_InvalidPrices_DialError : PySem.W.kitOne K (.ref (cl "InvalidPrices")) (.ref (cl "DialError")) = some true
  k_InvalidNumbers_DialError : PySem.W.kitOne K (.ref (cl "InvalidNumbers")) (.ref (cl "DialError")) = some true
  k_TooLarge_DialError : PySem.W.kitOne K (.ref (cl "TooLarge")) (.ref (cl "DialError")) = some true
  k_InvalidEdit_DialError : PySem.W.kitOne K (.ref (cl "InvalidEdit")) (.ref (cl "DialError")) = some true
  k_InvalidRank_DialError : PySem.W.kitOne K (.ref (cl "InvalidRank")) (.ref (cl "DialError")) = some true
  k_InvalidText_DialError : PySem.W.kitOne K (.ref (cl "InvalidText")) (.ref (cl "DialError")) = some true
  k_NotChild_DialError : PySem.W.kitOne K (.ref (cl "NotChild")) (.ref (cl "DialError")) = some false
  k_NotRoot_DialError : PySem.W.kitOne K (.ref (cl "NotRoot")) (.ref (cl "DialError")) = some false
  k_Unreachable_DialError : PySem.W.kitOne K (.ref (cl "Unreachable")) (.ref (cl "DialError")) = some false
  k_NothingRemains_DialError : PySem.W.kitOne K (.ref (cl "NothingRemains")) (.ref (cl "DialError")) = some false
  k_NotRemovable_DialError : PySem.W.kitOne K (.ref (cl "NotRemovable")) (.ref (cl "DialError")) = some false
  k_NotClearing_DialError : PySem.W.kitOne K (.ref (cl "NotClearing")) (.ref (cl "DialError")) = some false
  k_WouldLoop_DialError : PySem.W.kitOne K (.ref (cl "WouldLoop")) (.ref (cl "DialError")) = some false
  k_NothingToUndo_DialError : PySem.W.kitOne K (.ref (cl "NothingToUndo")) (.ref (cl "DialError")) = some false
  k_InvalidSelection_LookupError : PySem.W.kitOne K (.ref (cl "InvalidSelection")) (.type "LookupError") = some false
  k_InvalidRun_LookupError : PySem.W.kitOne K (.ref (cl "InvalidRun")) (.type "LookupError") = some false
  k_InvalidLabel_LookupError : PySem.W.kitOne K (.ref (cl "InvalidLabel")) (.type "LookupError") = some false
  k_InvalidForest_LookupError : PySem.W.kitOne K (.ref (cl "InvalidForest")) (.type "LookupError") = some false
  k_InvalidOrder_LookupError : PySem.W.kitOne K (.ref (cl "InvalidOrder")) (.type "LookupError") = some false
  k_InvalidTable_LookupError : PySem.W.kitOne K (.ref (cl "InvalidTable")) (.type "LookupError") = some false
  k_InvalidPrices_LookupError : PySem.W.kitOne K (.ref (cl "InvalidPrices")) (.type "LookupError") = some false
  k_InvalidNumbers_LookupError : PySem.W.kitOne K (.ref (cl "InvalidNumbers")) (.type "LookupError") = some false
  k_TooLarge_LookupError : PySem.W.kitOne K (.ref (cl "TooLarge")) (.type "LookupError") = some false
  k_InvalidEdit_LookupError : PySem.W.kitOne K (.ref (cl "InvalidEdit")) (.type "LookupError") = some false
  k_InvalidRank_LookupError : PySem.W.kitOne K (.ref (cl "InvalidRank")) (.type "LookupError") = some false
  k_InvalidText_LookupError : PySem.W.kitOne K (.ref (cl "InvalidText")) (.type "LookupError") = some false
  k_NotChild_LookupError : PySem.W.kitOne K (.ref (cl "NotChild")) (.type "LookupError") = some false
  k_NotRoot_LookupError : PySem.W.kitOne K (.ref (cl "NotRoot")) (.type "LookupError") = some false
  k_Unreachable_LookupError : PySem.W.kitOne K (.ref (cl "Unreachable")) (.type "LookupError") = some false
  k_NothingRemains_LookupError : PySem.W.kitOne K (.ref (cl "NothingRemains")) (.type "LookupError") = some false
  k_NotRemovable_LookupError : PySem.W.kitOne K (.ref (cl "NotRemovable")) (.type "LookupError") = some false
  k_NotClearing_LookupError : PySem.W.kitOne K (.ref (cl "NotClearing")) (.type "LookupError") = some false
  k_WouldLoop_LookupError : PySem.W.kitOne K (.ref (cl "WouldLoop")) (.type "LookupError") = some false
  k_NothingToUndo_LookupError : PySem.W.kitOne K (.ref (cl "NothingToUndo")) (.type "LookupError") = some true
  k_InvalidSelection_RuntimeError : PySem.W.kitOne K (.ref (cl "InvalidSelection")) (.type "RuntimeError") = some false
  k_InvalidRun_RuntimeError : PySem.W.kitOne K (.ref (cl "InvalidRun")) (.type "RuntimeError") = some false
  k_InvalidLabel_RuntimeError : PySem.W.kitOne K (.ref (cl "InvalidLabel")) (.type "RuntimeError") = some false
  k_InvalidForest_RuntimeError : PySem.W.kitOne K (.ref (cl "InvalidForest")) (.type "RuntimeError") = some false
  k_InvalidOrder_RuntimeError : PySem.W.kitOne K (.ref (cl "InvalidOrder")) (.type "RuntimeError") = some false
  k_InvalidTable_RuntimeError : PySem.W.kitOne K (.ref (cl "InvalidTable")) (.type "RuntimeError") = some false
  k_InvalidPrices_RuntimeError : PySem.W.kitOne K (.ref (cl "InvalidPrices")) (.type "RuntimeError") = some false
  k_InvalidNumbers_RuntimeError : PySem.W.kitOne K (.ref (cl "InvalidNumbers")) (.type "RuntimeError") = some false
  k_TooLarge_RuntimeError : PySem.W.kitOne K (.ref (cl "TooLarge")) (.type "RuntimeError") = some false
  k_InvalidEdit_RuntimeError : PySem.W.kitOne K (.ref (cl "InvalidEdit")) (.type "RuntimeError") = some false
  k_InvalidRank_RuntimeError : PySem.W.kitOne K (.ref (cl "InvalidRank")) (.type "RuntimeError") = some false
  k_InvalidText_RuntimeError : PySem.W.kitOne K (.ref (cl "InvalidText")) (.type "RuntimeError") = some false
  k_NotChild_RuntimeError : PySem.W.kitOne K (.ref (cl "NotChild")) (.type "RuntimeError") = some true
  k_NotRoot_RuntimeError : PySem.W.kitOne K (.ref (cl "NotRoot")) (.type "RuntimeError") = some true
  k_Unreachable_RuntimeError : PySem.W.kitOne K (.ref (cl "Unreachable")) (.type "RuntimeError") = some true
  k_NothingRemains_RuntimeError : PySem.W.kitOne K (.ref (cl "NothingRemains")) (.type "RuntimeError") = some true
  k_NotRemovable_RuntimeError : PySem.W.kitOne K (.ref (cl "NotRemovable")) (.type "RuntimeError") = some true
  k_NotClearing_RuntimeError : PySem.W.kitOne K (.ref (cl "NotClearing")) (.type "RuntimeError") = some true
  k_WouldLoop_RuntimeError : PySem.W.kitOne K (.ref (cl "WouldLoop")) (.type "RuntimeError") = some true
  k_NothingToUndo_RuntimeError : PySem.W.kitOne K (.ref (cl "NothingToUndo")) (.type "RuntimeError") = some false
  k_InvalidSelection_ValueError : PySem.W.kitOne K (.ref (cl "InvalidSelection")) (.type "ValueError") = some true
  k_InvalidRun_ValueError : PySem.W.kitOne K (.ref (cl "InvalidRun")) (.type "ValueError") = some true
  k_InvalidLabel_ValueError : PySem.W.kitOne K (.ref (cl "InvalidLabel")) (.type "ValueError") = some true
  k_InvalidForest_ValueError : PySem.W.kitOne K (.ref (cl "InvalidForest")) (.type "ValueError") = some true
  k_InvalidOrder_ValueError : PySem.W.kitOne K (.ref (cl "InvalidOrder")) (.type "ValueError") = some true
  k_InvalidTable_ValueError : PySem.W.kitOne K (.ref (cl "InvalidTable")) (.type "ValueError") = some true
  k_InvalidPrices_ValueError : PySem.W.kitOne K (.ref (cl "InvalidPrices")) (.type "ValueError") = some true
  k_InvalidNumbers_ValueError : PySem.W.kitOne K (.ref (cl "InvalidNumbers")) (.type "ValueError") = some true
  k_TooLarge_ValueError : PySem.W.kitOne K (.ref (cl "TooLarge")) (.type "ValueError") = some true
  k_InvalidEdit_ValueError : PySem.W.kitOne K (.ref (cl "InvalidEdit")) (.type "ValueError") = some true
  k_InvalidRank_ValueError : PySem.W.kitOne K (.ref (cl "InvalidRank")) (.type "ValueError") = some true
  k_InvalidText_ValueError : PySem.W.kitOne K (.ref (cl "InvalidText")) (.type "ValueError") = some true
  k_NotChild_ValueError : PySem.W.kitOne K (.ref (cl "NotChild")) (.type "ValueError") = some false
  k_NotRoot_ValueError : PySem.W.kitOne K (.ref (cl "NotRoot")) (.type "ValueError") = some false
  k_Unreachable_ValueError : PySem.W.kitOne K (.ref (cl "Unreachable")) (.type "ValueError") = some false
  k_NothingRemains_ValueError : PySem.W.kitOne K (.ref (cl "NothingRemains")) (.type "ValueError") = some false
  k_NotRemovable_ValueError : PySem.W.kitOne K (.ref (cl "NotRemovable")) (.type "ValueError") = some false
  k_NotClearing_ValueError : PySem.W.kitOne K (.ref (cl "NotClearing")) (.type "ValueError") = some false
  k_WouldLoop_ValueError : PySem.W.kitOne K (.ref (cl "WouldLoop")) (.type "ValueError") = some false
  k_NothingToUndo_ValueError : PySem.W.kitOne K (.ref (cl "NothingToUndo")) (.type "ValueError") = some false
  sm : smB K = true
structure Fb (K : PySem.W.Frag) (mg : Str → Option Value) (cl : Cla) (base : Heap) : Prop extends Fs K mg cl where
theorem bn_law_draw_2 : BindA "_law_draw" (["source", "limit"] : List Str) ([] : List Str) s_law_draw 2 ([] : List Str) [] [0, 1] := .inl ⟨rfl, fun us ws h1 h2 => match us, ws, h1, h2 with | [u0, u1], [], _, _ => rfl, fun kV doc pm an cdv ct us ws h1 h2 => match us, ws, h1, h2 with | [u0, u1], [], _, _ => rfl⟩
theorem bn_law_bases_1 : BindA "_law_bases" (["error"] : List Str) ([] : List Str) s_law_bases 1 ([] : List Str) [] [0] := .inl ⟨rfl, fun us ws h1 h2 => match us, ws, h1, h2 with | [u0], [], _, _ => rfl, fun kV doc pm an cdv ct us ws h1 h2 => match us, ws, h1, h2 with | [u0], [], _, _ => rfl⟩
theorem bn_law_kinds_1 : BindA "_law_kinds" (["error"] : List Str) ([] : List Str) s_law_kinds 1 ([] : List Str) [] [0] := .inl ⟨rfl, fun us ws h1 h2 => match us, ws, h1, h2 with | [u0], [], _, _ => rfl, fun kV doc pm an cdv ct us ws h1 h2 => match us, ws, h1, h2 with | [u0], [], _, _ => rfl⟩
theorem bn_law_source_1 : BindA "_law_source" (["script"] : List Str) ([] : List Str) s_law_source 1 ([] : List Str) [] [0] := .inl ⟨rfl, fun us ws h1 h2 => match us, ws, h1, h2 with | [u0], [], _, _ => rfl, fun kV doc pm an cdv ct us ws h1 h2 => match us, ws, h1, h2 with | [u0], [], _, _ => rfl⟩
theorem bn_law_pick_2 : BindA "_law_pick" (["source", "items"] : List Str) ([] : List Str) s_law_pick 2 ([] : List Str) [] [0, 1] := .inl ⟨rfl, fun us ws h1 h2 => match us, ws, h1, h2 with | [u0, u1], [], _, _ => rfl, fun kV doc pm an cdv ct us ws h1 h2 => match us, ws, h1, h2 with | [u0, u1], [], _, _ => rfl⟩
theorem bn_law_arguments_1 : BindA "_law_arguments" (["field"] : List Str) ([] : List Str) s_law_arguments 1 ([] : List Str) [] [0] := .inl ⟨rfl, fun us ws h1 h2 => match us, ws, h1, h2 with | [u0], [], _, _ => rfl, fun kV doc pm an cdv ct us ws h1 h2 => match us, ws, h1, h2 with | [u0], [], _, _ => rfl⟩
theorem bn_law_all_right_4 : BindA "_law_all_right" (["errors", "stored", "first", "field"] : List Str) ([] : List Str) s_law_all_right 4 ([] : List Str) [] [0, 1, 2, 3] := .inl ⟨rfl, fun us ws h1 h2 => match us, ws, h1, h2 with | [u0, u1, u2, u3], [], _, _ => rfl, fun kV doc pm an cdv ct us ws h1 h2 => match us, ws, h1, h2 with | [u0, u1, u2, u3], [], _, _ => rfl⟩
theorem bn_law_states_1 : BindA "_law_states" (["field"] : List Str) ([] : List Str) s_law_states 1 ([] : List Str) [] [0] := .inl ⟨rfl, fun us ws h1 h2 => match us, ws, h1, h2 with | [u0], [], _, _ => rfl, fun kV doc pm an cdv ct us ws h1 h2 => match us, ws, h1, h2 with | [u0], [], _, _ => rfl⟩
section
variable {P : Program} {w : World} {K : PySem.W.Frag} {mg : Str → Option Value} {base : Heap} {cl : Cla}
theorem sci_InvalidSelection : FnScope (["self", "name"] : List Str) (["self", "name"] : List Str) (defScope si_InvalidSelection) := ⟨rfl, rfl, rfl, by decide +kernel, rfl, by decide +kernel, by decide +kernel⟩
theorem u_InvalidSelection (F : Fb K mg cl base) : ExcU P w K mg base "InvalidSelection" "name" (cl "InvalidSelection") := by
  obtain ⟨fI, fd, h1, h2, FD⟩ := F.x_InvalidSelection.ini
  refine ⟨F.x_InvalidSelection.cls, F.x_InvalidSelection.oex, F.x_InvalidSelection.nof, fI, fd, h1, h2, exc_init (x := "the selection is invalid") FD sci_InvalidSelection (fun cdv A outer s H E => ?_), FD.bindsN (fun _ _ _ _ _ _ us hl => match us, hl with | [_, _], _ => rfl)⟩
  exact pss_cons (ps_expr (pe_oinit (by rfl) F.x_InvalidSelection.bas F.x_InvalidSelection.bc (pa_cons (pe_var (i := 0) rfl (.inl rfl)) (pa_cons pe_str pa_nil)))) (pss_one (ps_ost (pe_var (i := 0) rfl (.inl rfl)) (pe_var (i := 1) rfl (.inl rfl))))
theorem sci_InvalidRun : FnScope (["self", "position"] : List Str) (["self", "position"] : List Str) (defScope si_InvalidRun) := ⟨rfl, rfl, rfl, by decide +kernel, rfl, by decide +kernel, by decide +kernel⟩
theorem u_InvalidRun (F : Fb K mg cl base) : ExcU P w K mg base "InvalidRun" "position" (cl "InvalidRun") := by
  obtain ⟨fI, fd, h1, h2, FD⟩ := F.x_InvalidRun.ini
  refine ⟨F.x_InvalidRun.cls, F.x_InvalidRun.oex, F.x_InvalidRun.nof, fI, fd, h1, h2, exc_init (x := "the value is not a run") FD sci_InvalidRun (fun cdv A outer s H E => ?_), FD.bindsN (fun _ _ _ _ _ _ us hl => match us, hl with | [_, _], _ => rfl)⟩
  exact pss_cons (ps_expr (pe_oinit (by rfl) F.x_InvalidRun.bas F.x_InvalidRun.bc (pa_cons (pe_var (i := 0) rfl (.inl rfl)) (pa_cons pe_str pa_nil)))) (pss_one (ps_ost (pe_var (i := 0) rfl (.inl rfl)) (pe_var (i := 1) rfl (.inl rfl))))
theorem sci_InvalidLabel : FnScope (["self", "label"] : List Str) (["self", "label"] : List Str) (defScope si_InvalidLabel) := ⟨rfl, rfl, rfl, by decide +kernel, rfl, by decide +kernel, by decide +kernel⟩
theorem u_InvalidLabel (F : Fb K mg cl base) : ExcU P w K mg base "InvalidLabel" "label" (cl "InvalidLabel") := by
  obtain ⟨fI, fd, h1, h2, FD⟩ := F.x_InvalidLabel.ini
  refine ⟨F.x_InvalidLabel.cls, F.x_InvalidLabel.oex, F.x_InvalidLabel.nof, fI, fd, h1, h2, exc_init (x := "the value is not a label") FD sci_InvalidLabel (fun cdv A outer s H E => ?_), FD.bindsN (fun _ _ _ _ _ _ us hl => match us, hl with | [_, _], _ => rfl)⟩
  exact pss_cons (ps_expr (pe_oinit (by rfl) F.x_InvalidLabel.bas F.x_InvalidLabel.bc (pa_cons (pe_var (i := 0) rfl (.inl rfl)) (pa_cons pe_str pa_nil)))) (pss_one (ps_ost (pe_var (i := 0) rfl (.inl rfl)) (pe_var (i := 1) rfl (.inl rfl))))
theorem sci_InvalidForest : FnScope (["self", "path"] : List Str) (["self", "path"] : List Str) (defScope si_InvalidForest) := ⟨rfl, rfl, rfl, by decide +kernel, rfl, by decide +kernel, by decide +kernel⟩
theorem u_InvalidForest (F : Fb K mg cl base) : ExcU P w K mg base "InvalidForest" "path" (cl "InvalidForest") := by
  obtain ⟨fI, fd, h1, h2, FD⟩ := F.x_InvalidForest.ini
  refine ⟨F.x_InvalidForest.cls, F.x_InvalidForest.oex, F.x_InvalidForest.nof, fI, fd, h1, h2, exc_init (x := "the value is not a forest") FD sci_InvalidForest (fun cdv A outer s H E => ?_), FD.bindsN (fun _ _ _ _ _ _ us hl => match us, hl with | [_, _], _ => rfl)⟩
  exact pss_cons (ps_expr (pe_oinit (by rfl) F.x_InvalidForest.bas F.x_InvalidForest.bc (pa_cons (pe_var (i := 0) rfl (.inl rfl)) (pa_cons pe_str pa_nil)))) (pss_one (ps_ost (pe_var (i := 0) rfl (.inl rfl)) (pe_var (i := 1) rfl (.inl rfl))))
theorem sci_InvalidOrder : FnScope (["self", "order"] : List Str) (["self", "order"] : List Str) (defScope si_InvalidOrder) := ⟨rfl, rfl, rfl, by decide +kernel, rfl, by decide +kernel, by decide +kernel⟩
theorem u_InvalidOrder (F : Fb K mg cl base) : ExcU P w K mg base "InvalidOrder" "order" (cl "InvalidOrder") := by
  obtain ⟨fI, fd, h1, h2, FD⟩ := F.x_InvalidOrder.ini
  refine ⟨F.x_InvalidOrder.cls, F.x_InvalidOrder.oex, F.x_InvalidOrder.nof, fI, fd, h1, h2, exc_init (x := "the order does not contain every label once") FD sci_InvalidOrder (fun cdv A outer s H E => ?_), FD.bindsN (fun _ _ _ _ _ _ us hl => match us, hl with | [_, _], _ => rfl)⟩
  exact pss_cons (ps_expr (pe_oinit (by rfl) F.x_InvalidOrder.bas F.x_InvalidOrder.bc (pa_cons (pe_var (i := 0) rfl (.inl rfl)) (pa_cons pe_str pa_nil)))) (pss_one (ps_ost (pe_var (i := 0) rfl (.inl rfl)) (pe_var (i := 1) rfl (.inl rfl))))
theorem sci_InvalidTable : FnScope (["self", "label"] : List Str) (["self", "label"] : List Str) (defScope si_InvalidTable) := ⟨rfl, rfl, rfl, by decide +kernel, rfl, by decide +kernel, by decide +kernel⟩
theorem u_InvalidTable (F : Fb K mg cl base) : ExcU P w K mg base "InvalidTable" "label" (cl "InvalidTable") := by
  obtain ⟨fI, fd, h1, h2, FD⟩ := F.x_InvalidTable.ini
  refine ⟨F.x_InvalidTable.cls, F.x_InvalidTable.oex, F.x_InvalidTable.nof, fI, fd, h1, h2, exc_init (x := "the table is wrong") FD sci_InvalidTable (fun cdv A outer s H E => ?_), FD.bindsN (fun _ _ _ _ _ _ us hl => match us, hl with | [_, _], _ => rfl)⟩
  exact pss_cons (ps_expr (pe_oinit (by rfl) F.x_InvalidTable.bas F.x_InvalidTable.bc (pa_cons (pe_var (i := 0) rfl (.inl rfl)) (pa_cons pe_str pa_nil)))) (pss_one (ps_ost (pe_var (i := 0) rfl (.inl rfl)) (pe_var (i := 1) rfl (.inl rfl))))
theorem sci_InvalidPrices : FnScope (["self", "path"] : List Str) (["self", "path"] : List Str) (defScope si_InvalidPrices) := ⟨rfl, rfl, rfl, by decide +kernel, rfl, by decide +kernel, by decide +kernel⟩
theorem u_InvalidPrices (F : Fb K mg cl base) : ExcU P w K mg base "InvalidPrices" "path" (cl "InvalidPrices") := by
  obtain ⟨fI, fd, h1, h2, FD⟩ := F.x_InvalidPrices.ini
  refine ⟨F.x_InvalidPrices.cls, F.x_InvalidPrices.oex, F.x_InvalidPrices.nof, fI, fd, h1, h2, exc_init (x := "the prices are invalid") FD sci_InvalidPrices (fun cdv A outer s H E => ?_), FD.bindsN (fun _ _ _ _ _ _ us hl => match us, hl with | [_, _], _ => rfl)⟩
  exact pss_cons (ps_expr (pe_oinit (by rfl) F.x_InvalidPrices.bas F.x_InvalidPrices.bc (pa_cons (pe_var (i := 0) rfl (.inl rfl)) (pa_cons pe_str pa_nil)))) (pss_one (ps_ost (pe_var (i := 0) rfl (.inl rfl)) (pe_var (i := 1) rfl (.inl rfl))))
theorem sci_InvalidNumbers : FnScope (["self", "path"] : List Str) (["self", "path"] : List Str) (defScope si_InvalidNumbers) := ⟨rfl, rfl, rfl, by decide +kernel, rfl, by decide +kernel, by decide +kernel⟩
theorem u_InvalidNumbers (F : Fb K mg cl base) : ExcU P w K mg base "InvalidNumbers" "path" (cl "InvalidNumbers") := by
  obtain ⟨fI, fd, h1, h2, FD⟩ := F.x_InvalidNumbers.ini
  refine ⟨F.x_InvalidNumbers.cls, F.x_InvalidNumbers.oex, F.x_InvalidNumbers.nof, fI, fd, h1, h2, exc_init (x := "the numbers are invalid") FD sci_InvalidNumbers (fun cdv A outer s H E => ?_), FD.bindsN (fun _ _ _ _ _ _ us hl => match us, hl with | [_, _], _ => rfl)⟩
  exact pss_cons (ps_expr (pe_oinit (by rfl) F.x_InvalidNumbers.bas F.x_InvalidNumbers.bc (pa_cons (pe_var (i := 0) rfl (.inl rfl)) (pa_cons pe_str pa_nil)))) (pss_one (ps_ost (pe_var (i := 0) rfl (.inl rfl)) (pe_var (i := 1) rfl (.inl rfl))))
theorem sci_TooLarge : FnScope (["self", "limit"] : List Str) (["self", "limit"] : List Str) (defScope si_TooLarge) := ⟨rfl, rfl, rfl, by decide +kernel, rfl, by decide +kernel, by decide +kernel⟩
theorem u_TooLarge (F : Fb K mg cl base) : ExcU P w K mg base "TooLarge" "limit" (cl "TooLarge") := by
  obtain ⟨fI, fd, h1, h2, FD⟩ := F.x_TooLarge.ini
  refine ⟨F.x_TooLarge.cls, F.x_TooLarge.oex, F.x_TooLarge.nof, fI, fd, h1, h2, exc_init (x := "the forest has too many nodes") FD sci_TooLarge (fun cdv A outer s H E => ?_), FD.bindsN (fun _ _ _ _ _ _ us hl => match us, hl with | [_, _], _ => rfl)⟩
  exact pss_cons (ps_expr (pe_oinit (by rfl) F.x_TooLarge.bas F.x_TooLarge.bc (pa_cons (pe_var (i := 0) rfl (.inl rfl)) (pa_cons pe_str pa_nil)))) (pss_one (ps_ost (pe_var (i := 0) rfl (.inl rfl)) (pe_var (i := 1) rfl (.inl rfl))))
theorem sci_InvalidEdit : FnScope (["self", "path"] : List Str) (["self", "path"] : List Str) (defScope si_InvalidEdit) := ⟨rfl, rfl, rfl, by decide +kernel, rfl, by decide +kernel, by decide +kernel⟩
theorem u_InvalidEdit (F : Fb K mg cl base) : ExcU P w K mg base "InvalidEdit" "path" (cl "InvalidEdit") := by
  obtain ⟨fI, fd, h1, h2, FD⟩ := F.x_InvalidEdit.ini
  refine ⟨F.x_InvalidEdit.cls, F.x_InvalidEdit.oex, F.x_InvalidEdit.nof, fI, fd, h1, h2, exc_init (x := "the edit is invalid") FD sci_InvalidEdit (fun cdv A outer s H E => ?_), FD.bindsN (fun _ _ _ _ _ _ us hl => match us, hl with | [_, _], _ => rfl)⟩
  exact pss_cons (ps_expr (pe_oinit (by rfl) F.x_InvalidEdit.bas F.x_InvalidEdit.bc (pa_cons (pe_var (i := 0) rfl (.inl rfl)) (pa_cons pe_str pa_nil)))) (pss_one (ps_ost (pe_var (i := 0) rfl (.inl rfl)) (pe_var (i := 1) rfl (.inl rfl))))
theorem sci_InvalidRank : FnScope (["self", "rank"] : List Str) (["self", "rank"] : List Str) (defScope si_InvalidRank) := ⟨rfl, rfl, rfl, by decide +kernel, rfl, by decide +kernel, by decide +kernel⟩
theorem u_InvalidRank (F : Fb K mg cl base) : ExcU P w K mg base "InvalidRank" "rank" (cl "InvalidRank") := by
  obtain ⟨fI, fd, h1, h2, FD⟩ := F.x_InvalidRank.ini
  refine ⟨F.x_InvalidRank.cls, F.x_InvalidRank.oex, F.x_InvalidRank.nof, fI, fd, h1, h2, exc_init (x := "no clearing run has this rank") FD sci_InvalidRank (fun cdv A outer s H E => ?_), FD.bindsN (fun _ _ _ _ _ _ us hl => match us, hl with | [_, _], _ => rfl)⟩
  exact pss_cons (ps_expr (pe_oinit (by rfl) F.x_InvalidRank.bas F.x_InvalidRank.bc (pa_cons (pe_var (i := 0) rfl (.inl rfl)) (pa_cons pe_str pa_nil)))) (pss_one (ps_ost (pe_var (i := 0) rfl (.inl rfl)) (pe_var (i := 1) rfl (.inl rfl))))
theorem sci_InvalidText : FnScope (["self", "line"] : List Str) (["self", "line"] : List Str) (defScope si_InvalidText) := ⟨rfl, rfl, rfl, by decide +kernel, rfl, by decide +kernel, by decide +kernel⟩
theorem u_InvalidText (F : Fb K mg cl base) : ExcU P w K mg base "InvalidText" "line" (cl "InvalidText") := by
  obtain ⟨fI, fd, h1, h2, FD⟩ := F.x_InvalidText.ini
  refine ⟨F.x_InvalidText.cls, F.x_InvalidText.oex, F.x_InvalidText.nof, fI, fd, h1, h2, exc_init (x := "the text does not describe a forest") FD sci_InvalidText (fun cdv A outer s H E => ?_), FD.bindsN (fun _ _ _ _ _ _ us hl => match us, hl with | [_, _], _ => rfl)⟩
  exact pss_cons (ps_expr (pe_oinit (by rfl) F.x_InvalidText.bas F.x_InvalidText.bc (pa_cons (pe_var (i := 0) rfl (.inl rfl)) (pa_cons pe_str pa_nil)))) (pss_one (ps_ost (pe_var (i := 0) rfl (.inl rfl)) (pe_var (i := 1) rfl (.inl rfl))))
theorem sci_NotChild : FnScope (["self", "label"] : List Str) (["self", "label"] : List Str) (defScope si_NotChild) := ⟨rfl, rfl, rfl, by decide +kernel, rfl, by decide +kernel, by decide +kernel⟩
theorem u_NotChild (F : Fb K mg cl base) : ExcUT .re P w K mg base "NotChild" "label" (cl "NotChild") := by
  obtain ⟨fI, fd, h1, h2, FD⟩ := F.x_NotChild.ini
  refine ⟨F.x_NotChild.cls, F.x_NotChild.oex, F.x_NotChild.nof, fI, fd, h1, h2, exc_initT (x := "the node has no parent") FD sci_NotChild (fun cdv A outer s H E => ?_), FD.bindsN (fun _ _ _ _ _ _ us hl => match us, hl with | [_, _], _ => rfl)⟩
  exact pss_cons (ps_expr (pe_oinitT (by rfl) F.x_NotChild.bas F.x_NotChild.bc (pa_cons (pe_var (i := 0) rfl (.inl rfl)) (pa_cons pe_str pa_nil)))) (pss_one (ps_ostT (pe_var (i := 0) rfl (.inl rfl)) (pe_var (i := 1) rfl (.inl rfl))))
theorem sci_NotRoot : FnScope (["self", "label"] : List Str) (["self", "label"] : List Str) (defScope si_NotRoot) := ⟨rfl, rfl, rfl, by decide +kernel, rfl, by decide +kernel, by decide +kernel⟩
theorem u_NotRoot (F : Fb K mg cl base) : ExcUT .re P w K mg base "NotRoot" "label" (cl "NotRoot") := by
  obtain ⟨fI, fd, h1, h2, FD⟩ := F.x_NotRoot.ini
  refine ⟨F.x_NotRoot.cls, F.x_NotRoot.oex, F.x_NotRoot.nof, fI, fd, h1, h2, exc_initT (x := "the node already has a parent") FD sci_NotRoot (fun cdv A outer s H E => ?_), FD.bindsN (fun _ _ _ _ _ _ us hl => match us, hl with | [_, _], _ => rfl)⟩
  exact pss_cons (ps_expr (pe_oinitT (by rfl) F.x_NotRoot.bas F.x_NotRoot.bc (pa_cons (pe_var (i := 0) rfl (.inl rfl)) (pa_cons pe_str pa_nil)))) (pss_one (ps_ostT (pe_var (i := 0) rfl (.inl rfl)) (pe_var (i := 1) rfl (.inl rfl))))
theorem sci_Unreachable : FnScope (["self", "reason"] : List Str) (["self", "reason"] : List Str) (defScope si_Unreachable) := ⟨rfl, rfl, rfl, by decide +kernel, rfl, by decide +kernel, by decide +kernel⟩
theorem u_Unreachable (F : Fb K mg cl base) : ExcUT .re P w K mg base "Unreachable" "reason" (cl "Unreachable") := by
  obtain ⟨fI, fd, h1, h2, FD⟩ := F.x_Unreachable.ini
  refine ⟨F.x_Unreachable.cls, F.x_Unreachable.oex, F.x_Unreachable.nof, fI, fd, h1, h2, exc_initT (x := "no run meets the conditions") FD sci_Unreachable (fun cdv A outer s H E => ?_), FD.bindsN (fun _ _ _ _ _ _ us hl => match us, hl with | [_, _], _ => rfl)⟩
  exact pss_cons (ps_expr (pe_oinitT (by rfl) F.x_Unreachable.bas F.x_Unreachable.bc (pa_cons (pe_var (i := 0) rfl (.inl rfl)) (pa_cons pe_str pa_nil)))) (pss_one (ps_ostT (pe_var (i := 0) rfl (.inl rfl)) (pe_var (i := 1) rfl (.inl rfl))))
theorem sci_NothingRemains : FnScope (["self", "length"] : List Str) (["self", "length"] : List Str) (defScope si_NothingRemains) := ⟨rfl, rfl, rfl, by decide +kernel, rfl, by decide +kernel, by decide +kernel⟩
theorem u_NothingRemains (F : Fb K mg cl base) : ExcUT .re P w K mg base "NothingRemains" "length" (cl "NothingRemains") := by
  obtain ⟨fI, fd, h1, h2, FD⟩ := F.x_NothingRemains.ini
  refine ⟨F.x_NothingRemains.cls, F.x_NothingRemains.oex, F.x_NothingRemains.nof, fI, fd, h1, h2, exc_initT (x := "no node remains after the run") FD sci_NothingRemains (fun cdv A outer s H E => ?_), FD.bindsN (fun _ _ _ _ _ _ us hl => match us, hl with | [_, _], _ => rfl)⟩
  exact pss_cons (ps_expr (pe_oinitT (by rfl) F.x_NothingRemains.bas F.x_NothingRemains.bc (pa_cons (pe_var (i := 0) rfl (.inl rfl)) (pa_cons pe_str pa_nil)))) (pss_one (ps_ostT (pe_var (i := 0) rfl (.inl rfl)) (pe_var (i := 1) rfl (.inl rfl))))
theorem sci_NotRemovable : FnScope (["self", "label"] : List Str) (["self", "label"] : List Str) (defScope si_NotRemovable) := ⟨rfl, rfl, rfl, by decide +kernel, rfl, by decide +kernel, by decide +kernel⟩
theorem u_NotRemovable (F : Fb K mg cl base) : ExcUT .re P w K mg base "NotRemovable" "label" (cl "NotRemovable") := by
  obtain ⟨fI, fd, h1, h2, FD⟩ := F.x_NotRemovable.ini
  refine ⟨F.x_NotRemovable.cls, F.x_NotRemovable.oex, F.x_NotRemovable.nof, fI, fd, h1, h2, exc_initT (x := "the node cannot be removed now") FD sci_NotRemovable (fun cdv A outer s H E => ?_), FD.bindsN (fun _ _ _ _ _ _ us hl => match us, hl with | [_, _], _ => rfl)⟩
  exact pss_cons (ps_expr (pe_oinitT (by rfl) F.x_NotRemovable.bas F.x_NotRemovable.bc (pa_cons (pe_var (i := 0) rfl (.inl rfl)) (pa_cons pe_str pa_nil)))) (pss_one (ps_ostT (pe_var (i := 0) rfl (.inl rfl)) (pe_var (i := 1) rfl (.inl rfl))))
theorem sci_NotClearing : FnScope (["self", "length"] : List Str) (["self", "length"] : List Str) (defScope si_NotClearing) := ⟨rfl, rfl, rfl, by decide +kernel, rfl, by decide +kernel, by decide +kernel⟩
theorem u_NotClearing (F : Fb K mg cl base) : ExcUT .re P w K mg base "NotClearing" "length" (cl "NotClearing") := by
  obtain ⟨fI, fd, h1, h2, FD⟩ := F.x_NotClearing.ini
  refine ⟨F.x_NotClearing.cls, F.x_NotClearing.oex, F.x_NotClearing.nof, fI, fd, h1, h2, exc_initT (x := "the run does not clear the forest") FD sci_NotClearing (fun cdv A outer s H E => ?_), FD.bindsN (fun _ _ _ _ _ _ us hl => match us, hl with | [_, _], _ => rfl)⟩
  exact pss_cons (ps_expr (pe_oinitT (by rfl) F.x_NotClearing.bas F.x_NotClearing.bc (pa_cons (pe_var (i := 0) rfl (.inl rfl)) (pa_cons pe_str pa_nil)))) (pss_one (ps_ostT (pe_var (i := 0) rfl (.inl rfl)) (pe_var (i := 1) rfl (.inl rfl))))
theorem sci_WouldLoop : FnScope (["self", "label"] : List Str) (["self", "label"] : List Str) (defScope si_WouldLoop) := ⟨rfl, rfl, rfl, by decide +kernel, rfl, by decide +kernel, by decide +kernel⟩
theorem u_WouldLoop (F : Fb K mg cl base) : ExcUT .re P w K mg base "WouldLoop" "label" (cl "WouldLoop") := by
  obtain ⟨fI, fd, h1, h2, FD⟩ := F.x_WouldLoop.ini
  refine ⟨F.x_WouldLoop.cls, F.x_WouldLoop.oex, F.x_WouldLoop.nof, fI, fd, h1, h2, exc_initT (x := "the link would close a loop") FD sci_WouldLoop (fun cdv A outer s H E => ?_), FD.bindsN (fun _ _ _ _ _ _ us hl => match us, hl with | [_, _], _ => rfl)⟩
  exact pss_cons (ps_expr (pe_oinitT (by rfl) F.x_WouldLoop.bas F.x_WouldLoop.bc (pa_cons (pe_var (i := 0) rfl (.inl rfl)) (pa_cons pe_str pa_nil)))) (pss_one (ps_ostT (pe_var (i := 0) rfl (.inl rfl)) (pe_var (i := 1) rfl (.inl rfl))))
theorem sci_NothingToUndo : FnScope (["self", "action"] : List Str) (["self", "action"] : List Str) (defScope si_NothingToUndo) := ⟨rfl, rfl, rfl, by decide +kernel, rfl, by decide +kernel, by decide +kernel⟩
theorem u_NothingToUndo (F : Fb K mg cl base) : ExcUT .le P w K mg base "NothingToUndo" "action" (cl "NothingToUndo") := by
  obtain ⟨fI, fd, h1, h2, FD⟩ := F.x_NothingToUndo.ini
  refine ⟨F.x_NothingToUndo.cls, F.x_NothingToUndo.oex, F.x_NothingToUndo.nof, fI, fd, h1, h2, exc_initT (x := "there is nothing to undo") FD sci_NothingToUndo (fun cdv A outer s H E => ?_), FD.bindsN (fun _ _ _ _ _ _ us hl => match us, hl with | [_, _], _ => rfl)⟩
  exact pss_cons (ps_expr (pe_oinitT (by rfl) F.x_NothingToUndo.bas F.x_NothingToUndo.bc (pa_cons (pe_var (i := 0) rfl (.inl rfl)) (pa_cons pe_str pa_nil)))) (pss_one (ps_ostT (pe_var (i := 0) rfl (.inl rfl)) (pe_var (i := 1) rfl (.inl rfl))))
theorem hisa_InvalidRun (F : Fb K mg cl base) : ∀ (C : Str) (b : Bool), isa_InvalidRun C = some b → ExcC K (cl C) ∧ PySem.W.kitOne K (.ref (cl C)) (.ref (cl "InvalidRun")) = some b := by
  intro C b h
  unfold isa_InvalidRun at h
  by_cases e : C = "InvalidSelection"
  · subst e; rw [if_pos rfl] at h; cases h; exact ⟨F.e_InvalidSelection, F.k_InvalidSelection_InvalidRun⟩
  rw [if_neg e] at h
  by_cases e : C = "InvalidRun"
  · subst e; rw [if_pos rfl] at h; cases h; exact ⟨F.e_InvalidRun, F.k_InvalidRun_InvalidRun⟩
  rw [if_neg e] at h
  by_cases e : C = "InvalidLabel"
  · subst e; rw [if_pos rfl] at h; cases h; exact ⟨F.e_InvalidLabel, F.k_InvalidLabel_InvalidRun⟩
  rw [if_neg e] at h
  by_cases e : C = "InvalidForest"
  · subst e; rw [if_pos rfl] at h; cases h; exact ⟨F.e_InvalidForest, F.k_InvalidForest_InvalidRun⟩
  rw [if_neg e] at h
  by_cases e : C = "InvalidOrder"
  · subst e; rw [if_pos rfl] at h; cases h; exact ⟨F.e_InvalidOrder, F.k_InvalidOrder_InvalidRun⟩
  rw [if_neg e] at h
  by_cases e : C = "InvalidTable"
  · subst e; rw [if_pos rfl] at h; cases h; exact ⟨F.e_InvalidTable, F.k_InvalidTable_InvalidRun⟩
  rw [if_neg e] at h
  by_cases e : C = "InvalidPrices"
  · subst e; rw [if_pos rfl] at h; cases h; exact ⟨F.e_InvalidPrices, F.k_InvalidPrices_InvalidRun⟩
  rw [if_neg e] at h
  by_cases e : C = "InvalidNumbers"
  · subst e; rw [if_pos rfl] at h; cases h; exact ⟨F.e_InvalidNumbers, F.k_InvalidNumbers_InvalidRun⟩
  rw [if_neg e] at h
  by_cases e : C = "TooLarge"
  · subst e; rw [if_pos rfl] at h; cases h; exact ⟨F.e_TooLarge, F.k_TooLarge_InvalidRun⟩
  rw [if_neg e] at h
  by_cases e : C = "InvalidEdit"
  · subst e; rw [if_pos rfl] at h; cases h; exact ⟨F.e_InvalidEdit, F.k_InvalidEdit_InvalidRun⟩
  rw [if_neg e] at h
  by_cases e : C = "InvalidRank"
  · subst e; rw [if_pos rfl] at h; cases h; exact ⟨F.e_InvalidRank, F.k_InvalidRank_InvalidRun⟩
  rw [if_neg e] at h
  by_cases e : C = "InvalidText"
  · subst e; rw [if_pos rfl] at h; cases h; exact ⟨F.e_InvalidText, F.k_InvalidText_InvalidRun⟩
  rw [if_neg e] at h
  by_cases e : C = "NotChild"
  · subst e; rw [if_pos rfl] at h; cases h; exact ⟨F.e_NotChild, F.k_NotChild_InvalidRun⟩
  rw [if_neg e] at h
  by_cases e : C = "NotRoot"
  · subst e; rw [if_pos rfl] at h; cases h; exact ⟨F.e_NotRoot, F.k_NotRoot_InvalidRun⟩
  rw [if_neg e] at h
  by_cases e : C = "Unreachable"
  · subst e; rw [if_pos rfl] at h; cases h; exact ⟨F.e_Unreachable, F.k_Unreachable_InvalidRun⟩
  rw [if_neg e] at h
  by_cases e : C = "NothingRemains"
  · subst e; rw [if_pos rfl] at h; cases h; exact ⟨F.e_NothingRemains, F.k_NothingRemains_InvalidRun⟩
  rw [if_neg e] at h
  by_cases e : C = "NotRemovable"
  · subst e; rw [if_pos rfl] at h; cases h; exact ⟨F.e_NotRemovable, F.k_NotRemovable_InvalidRun⟩
  rw [if_neg e] at h
  by_cases e : C = "NotClearing"
  · subst e; rw [if_pos rfl] at h; cases h; exact ⟨F.e_NotClearing, F.k_NotClearing_InvalidRun⟩
  rw [if_neg e] at h
  by_cases e : C = "WouldLoop"
  · subst e; rw [if_pos rfl] at h; cases h; exact ⟨F.e_WouldLoop, F.k_WouldLoop_InvalidRun⟩
  rw [if_neg e] at h
  by_cases e : C = "NothingToUndo"
  · subst e; rw [if_pos rfl] at h; cases h; exact ⟨F.e_NothingToUndo, F.k_NothingToUndo_InvalidRun⟩
  rw [if_neg e] at h
  cases h
theorem hisa_InvalidLabel (F : Fb K mg cl base) : ∀ (C : Str) (b : Bool), isa_InvalidLabel C = some b → ExcC K (cl C) ∧ PySem.W.kitOne K (.ref (cl C)) (.ref (cl "InvalidLabel")) = some b := by
  intro C b h
  unfold isa_InvalidLabel at h
  by_cases e : C = "InvalidSelection"
  · subst e; rw [if_pos rfl] at h; cases h; exact ⟨F.e_InvalidSelection, F.k_InvalidSelection_InvalidLabel⟩
  rw [if_neg e] at h
  by_cases e : C = "InvalidRun"
  · subst e; rw [if_pos rfl] at h; cases h; exact ⟨F.e_InvalidRun, F.k_InvalidRun_InvalidLabel⟩
  rw [if_neg e] at h
  by_cases e : C = "InvalidLabel"
  · subst e; rw [if_pos rfl] at h; cases h; exact ⟨F.e_InvalidLabel, F.k_InvalidLabel_InvalidLabel⟩
  rw [if_neg e] at h
  by_cases e : C = "InvalidForest"
  · subst e; rw [if_pos rfl] at h; cases h; exact ⟨F.e_InvalidForest, F.k_InvalidForest_InvalidLabel⟩
  rw [if_neg e] at h
  by_cases e : C = "InvalidOrder"
  · subst e; rw [if_pos rfl] at h; cases h; exact ⟨F.e_InvalidOrder, F.k_InvalidOrder_InvalidLabel⟩
  rw [if_neg e] at h
  by_cases e : C = "InvalidTable"
  · subst e; rw [if_pos rfl] at h; cases h; exact ⟨F.e_InvalidTable, F.k_InvalidTable_InvalidLabel⟩
  rw [if_neg e] at h
  by_cases e : C = "InvalidPrices"
  · subst e; rw [if_pos rfl] at h; cases h; exact ⟨F.e_InvalidPrices, F.k_InvalidPrices_InvalidLabel⟩
  rw [if_neg e] at h
  by_cases e : C = "InvalidNumbers"
  · subst e; rw [if_pos rfl] at h; cases h; exact ⟨F.e_InvalidNumbers, F.k_InvalidNumbers_InvalidLabel⟩
  rw [if_neg e] at h
  by_cases e : C = "TooLarge"
  · subst e; rw [if_pos rfl] at h; cases h; exact ⟨F.e_TooLarge, F.k_TooLarge_InvalidLabel⟩
  rw [if_neg e] at h
  by_cases e : C = "InvalidEdit"
  · subst e; rw [if_pos rfl] at h; cases h; exact ⟨F.e_InvalidEdit, F.k_InvalidEdit_InvalidLabel⟩
  rw [if_neg e] at h
  by_cases e : C = "InvalidRank"
  · subst e; rw [if_pos rfl] at h; cases h; exact ⟨F.e_InvalidRank, F.k_InvalidRank_InvalidLabel⟩
  rw [if_neg e] at h
  by_cases e : C = "InvalidText"
  · subst e; rw [if_pos rfl] at h; cases h; exact ⟨F.e_InvalidText, F.k_InvalidText_InvalidLabel⟩
  rw [if_neg e] at h
  by_cases e : C = "NotChild"
  · subst e; rw [if_pos rfl] at h; cases h; exact ⟨F.e_NotChild, F.k_NotChild_InvalidLabel⟩
  rw [if_neg e] at h
  by_cases e : C = "NotRoot"
  · subst e; rw [if_pos rfl] at h; cases h; exact ⟨F.e_NotRoot, F.k_NotRoot_InvalidLabel⟩
  rw [if_neg e] at h
  by_cases e : C = "Unreachable"
  · subst e; rw [if_pos rfl] at h; cases h; exact ⟨F.e_Unreachable, F.k_Unreachable_InvalidLabel⟩
  rw [if_neg e] at h
  by_cases e : C = "NothingRemains"
  · subst e; rw [if_pos rfl] at h; cases h; exact ⟨F.e_NothingRemains, F.k_NothingRemains_InvalidLabel⟩
  rw [if_neg e] at h
  by_cases e : C = "NotRemovable"
  · subst e; rw [if_pos rfl] at h; cases h; exact ⟨F.e_NotRemovable, F.k_NotRemovable_InvalidLabel⟩
  rw [if_neg e] at h
  by_cases e : C = "NotClearing"
  · subst e; rw [if_pos rfl] at h; cases h; exact ⟨F.e_NotClearing, F.k_NotClearing_InvalidLabel⟩
  rw [if_neg e] at h
  by_cases e : C = "WouldLoop"
  · subst e; rw [if_pos rfl] at h; cases h; exact ⟨F.e_WouldLoop, F.k_WouldLoop_InvalidLabel⟩
  rw [if_neg e] at h
  by_cases e : C = "NothingToUndo"
  · subst e; rw [if_pos rfl] at h; cases h; exact ⟨F.e_NothingToUndo, F.k_NothingToUndo_InvalidLabel⟩
  rw [if_neg e] at h
  cases h
theorem hisa_InvalidForest (F : Fb K mg cl base) : ∀ (C : Str) (b : Bool), isa_InvalidForest C = some b → ExcC K (cl C) ∧ PySem.W.kitOne K (.ref (cl C)) (.ref (cl "InvalidForest")) = some b := by
  intro C b h
  unfold isa_InvalidForest at h
  by_cases e : C = "InvalidSelection"
  · subst e; rw [if_pos rfl] at h; cases h; exact ⟨F.e_InvalidSelection, F.k_InvalidSelection_InvalidForest⟩
  rw [if_neg e] at h
  by_cases e : C = "InvalidRun"
  · subst e; rw [if_pos rfl] at h; cases h; exact ⟨F.e_InvalidRun, F.k_InvalidRun_InvalidForest⟩
  rw [if_neg e] at h
  by_cases e : C = "InvalidLabel"
  · subst e; rw [if_pos rfl] at h; cases h; exact ⟨F.e_InvalidLabel, F.k_InvalidLabel_InvalidForest⟩
  rw [if_neg e] at h
  by_cases e : C = "InvalidForest"
  · subst e; rw [if_pos rfl] at h; cases h; exact ⟨F.e_InvalidForest, F.k_InvalidForest_InvalidForest⟩
  rw [if_neg e] at h
  by_cases e : C = "InvalidOrder"
  · subst e; rw [if_pos rfl] at h; cases h; exact ⟨F.e_InvalidOrder, F.k_InvalidOrder_InvalidForest⟩
  rw [if_neg e] at h
  by_cases e : C = "InvalidTable"
  · subst e; rw [if_pos rfl] at h; cases h; exact ⟨F.e_InvalidTable, F.k_InvalidTable_InvalidForest⟩
  rw [if_neg e] at h
  by_cases e : C = "InvalidPrices"
  · subst e; rw [if_pos rfl] at h; cases h; exact ⟨F.e_InvalidPrices, F.k_InvalidPrices_InvalidForest⟩
  rw [if_neg e] at h
  by_cases e : C = "InvalidNumbers"
  · subst e; rw [if_pos rfl] at h; cases h; exact ⟨F.e_InvalidNumbers, F.k_InvalidNumbers_InvalidForest⟩
  rw [if_neg e] at h
  by_cases e : C = "TooLarge"
  · subst e; rw [if_pos rfl] at h; cases h; exact ⟨F.e_TooLarge, F.k_TooLarge_InvalidForest⟩
  rw [if_neg e] at h
  by_cases e : C = "InvalidEdit"
  · subst e; rw [if_pos rfl] at h; cases h; exact ⟨F.e_InvalidEdit, F.k_InvalidEdit_InvalidForest⟩
  rw [if_neg e] at h
  by_cases e : C = "InvalidRank"
  · subst e; rw [if_pos rfl] at h; cases h; exact ⟨F.e_InvalidRank, F.k_InvalidRank_InvalidForest⟩
  rw [if_neg e] at h
  by_cases e : C = "InvalidText"
  · subst e; rw [if_pos rfl] at h; cases h; exact ⟨F.e_InvalidText, F.k_InvalidText_InvalidForest⟩
  rw [if_neg e] at h
  by_cases e : C = "NotChild"
  · subst e; rw [if_pos rfl] at h; cases h; exact ⟨F.e_NotChild, F.k_NotChild_InvalidForest⟩
  rw [if_neg e] at h
  by_cases e : C = "NotRoot"
  · subst e; rw [if_pos rfl] at h; cases h; exact ⟨F.e_NotRoot, F.k_NotRoot_InvalidForest⟩
  rw [if_neg e] at h
  by_cases e : C = "Unreachable"
  · subst e; rw [if_pos rfl] at h; cases h; exact ⟨F.e_Unreachable, F.k_Unreachable_InvalidForest⟩
  rw [if_neg e] at h
  by_cases e : C = "NothingRemains"
  · subst e; rw [if_pos rfl] at h; cases h; exact ⟨F.e_NothingRemains, F.k_NothingRemains_InvalidForest⟩
  rw [if_neg e] at h
  by_cases e : C = "NotRemovable"
  · subst e; rw [if_pos rfl] at h; cases h; exact ⟨F.e_NotRemovable, F.k_NotRemovable_InvalidForest⟩
  rw [if_neg e] at h
  by_cases e : C = "NotClearing"
  · subst e; rw [if_pos rfl] at h; cases h; exact ⟨F.e_NotClearing, F.k_NotClearing_InvalidForest⟩
  rw [if_neg e] at h
  by_cases e : C = "WouldLoop"
  · subst e; rw [if_pos rfl] at h; cases h; exact ⟨F.e_WouldLoop, F.k_WouldLoop_InvalidForest⟩
  rw [if_neg e] at h
  by_cases e : C = "NothingToUndo"
  · subst e; rw [if_pos rfl] at h; cases h; exact ⟨F.e_NothingToUndo, F.k_NothingToUndo_InvalidForest⟩
  rw [if_neg e] at h
  cases h
theorem hisa_InvalidNumbers (F : Fb K mg cl base) : ∀ (C : Str) (b : Bool), isa_InvalidNumbers C = some b → ExcC K (cl C) ∧ PySem.W.kitOne K (.ref (cl C)) (.ref (cl "InvalidNumbers")) = some b := by
  intro C b h
  unfold isa_InvalidNumbers at h
  by_cases e : C = "InvalidSelection"
  · subst e; rw [if_pos rfl] at h; cases h; exact ⟨F.e_InvalidSelection, F.k_InvalidSelection_InvalidNumbers⟩
  rw [if_neg e] at h
  by_cases e : C = "InvalidRun"
  · subst e; rw [if_pos rfl] at h; cases h; exact ⟨F.e_InvalidRun, F.k_InvalidRun_InvalidNumbers⟩
  rw [if_neg e] at h
  by_cases e : C = "InvalidLabel"
  · subst e; rw [if_pos rfl] at h; cases h; exact ⟨F.e_InvalidLabel, F.k_InvalidLabel_InvalidNumbers⟩
  rw [if_neg e] at h
  by_cases e : C = "InvalidForest"
  · subst e; rw [if_pos rfl] at h; cases h; exact ⟨F.e_InvalidForest, F.k_InvalidForest_InvalidNumbers⟩
  rw [if_neg e] at h
  by_cases e : C = "InvalidOrder"
  · subst e; rw [if_pos rfl] at h; cases h; exact ⟨F.e_InvalidOrder, F.k_InvalidOrder_InvalidNumbers⟩
  rw [if_neg e] at h
  by_cases e : C = "InvalidTable"
  · subst e; rw [if_pos rfl] at h; cases h; exact ⟨F.e_InvalidTable, F.k_InvalidTable_InvalidNumbers⟩
  rw [if_neg e] at h
  by_cases e : C = "InvalidPrices"
  · subst e; rw [if_pos rfl] at h; cases h; exact ⟨F.e_InvalidPrices, F.k_InvalidPrices_InvalidNumbers⟩
  rw [if_neg e] at h
  by_cases e : C = "InvalidNumbers"
  · subst e; rw [if_pos rfl] at h; cases h; exact ⟨F.e_InvalidNumbers, F.k_InvalidNumbers_InvalidNumbers⟩
  rw [if_neg e] at h
  by_cases e : C = "TooLarge"
  · subst e; rw [if_pos rfl] at h; cases h; exact ⟨F.e_TooLarge, F.k_TooLarge_InvalidNumbers⟩
  rw [if_neg e] at h
  by_cases e : C = "InvalidEdit"
  · subst e; rw [if_pos rfl] at h; cases h; exact ⟨F.e_InvalidEdit, F.k_InvalidEdit_InvalidNumbers⟩
  rw [if_neg e] at h
  by_cases e : C = "InvalidRank"
  · subst e; rw [if_pos rfl] at h; cases h; exact ⟨F.e_InvalidRank, F.k_InvalidRank_InvalidNumbers⟩
  rw [if_neg e] at h
  by_cases e : C = "InvalidText"
  · subst e; rw [if_pos rfl] at h; cases h; exact ⟨F.e_InvalidText, F.k_InvalidText_InvalidNumbers⟩
  rw [if_neg e] at h
  by_cases e : C = "NotChild"
  · subst e; rw [if_pos rfl] at h; cases h; exact ⟨F.e_NotChild, F.k_NotChild_InvalidNumbers⟩
  rw [if_neg e] at h
  by_cases e : C = "NotRoot"
  · subst e; rw [if_pos rfl] at h; cases h; exact ⟨F.e_NotRoot, F.k_NotRoot_InvalidNumbers⟩
  rw [if_neg e] at h
  by_cases e : C = "Unreachable"
  · subst e; rw [if_pos rfl] at h; cases h; exact ⟨F.e_Unreachable, F.k_Unreachable_InvalidNumbers⟩
  rw [if_neg e] at h
  by_cases e : C = "NothingRemains"
  · subst e; rw [if_pos rfl] at h; cases h; exact ⟨F.e_NothingRemains, F.k_NothingRemains_InvalidNumbers⟩
  rw [if_neg e] at h
  by_cases e : C = "NotRemovable"
  · subst e; rw [if_pos rfl] at h; cases h; exact ⟨F.e_NotRemovable, F.k_NotRemovable_InvalidNumbers⟩
  rw [if_neg e] at h
  by_cases e : C = "NotClearing"
  · subst e; rw [if_pos rfl] at h; cases h; exact ⟨F.e_NotClearing, F.k_NotClearing_InvalidNumbers⟩
  rw [if_neg e] at h
  by_cases e : C = "WouldLoop"
  · subst e; rw [if_pos rfl] at h; cases h; exact ⟨F.e_WouldLoop, F.k_WouldLoop_InvalidNumbers⟩
  rw [if_neg e] at h
  by_cases e : C = "NothingToUndo"
  · subst e; rw [if_pos rfl] at h; cases h; exact ⟨F.e_NothingToUndo, F.k_NothingToUndo_InvalidNumbers⟩
  rw [if_neg e] at h
  cases h
theorem hisa_InvalidSelection (F : Fb K mg cl base) : ∀ (C : Str) (b : Bool), isa_InvalidSelection C = some b → ExcC K (cl C) ∧ PySem.W.kitOne K (.ref (cl C)) (.ref (cl "InvalidSelection")) = some b := by
  intro C b h
  unfold isa_InvalidSelection at h
  by_cases e : C = "InvalidSelection"
  · subst e; rw [if_pos rfl] at h; cases h; exact ⟨F.e_InvalidSelection, F.k_InvalidSelection_InvalidSelection⟩
  rw [if_neg e] at h
  by_cases e : C = "InvalidRun"
  · subst e; rw [if_pos rfl] at h; cases h; exact ⟨F.e_InvalidRun, F.k_InvalidRun_InvalidSelection⟩
  rw [if_neg e] at h
  by_cases e : C = "InvalidLabel"
  · subst e; rw [if_pos rfl] at h; cases h; exact ⟨F.e_InvalidLabel, F.k_InvalidLabel_InvalidSelection⟩
  rw [if_neg e] at h
  by_cases e : C = "InvalidForest"
  · subst e; rw [if_pos rfl] at h; cases h; exact ⟨F.e_InvalidForest, F.k_InvalidForest_InvalidSelection⟩
  rw [if_neg e] at h
  by_cases e : C = "InvalidOrder"
  · subst e; rw [if_pos rfl] at h; cases h; exact ⟨F.e_InvalidOrder, F.k_InvalidOrder_InvalidSelection⟩
  rw [if_neg e] at h
  by_cases e : C = "InvalidTable"
  · subst e; rw [if_pos rfl] at h; cases h; exact ⟨F.e_InvalidTable, F.k_InvalidTable_InvalidSelection⟩
  rw [if_neg e] at h
  by_cases e : C = "InvalidPrices"
  · subst e; rw [if_pos rfl] at h; cases h; exact ⟨F.e_InvalidPrices, F.k_InvalidPrices_InvalidSelection⟩
  rw [if_neg e] at h
  by_cases e : C = "InvalidNumbers"
  · subst e; rw [if_pos rfl] at h; cases h; exact ⟨F.e_InvalidNumbers, F.k_InvalidNumbers_InvalidSelection⟩
  rw [if_neg e] at h
  by_cases e : C = "TooLarge"
  · subst e; rw [if_pos rfl] at h; cases h; exact ⟨F.e_TooLarge, F.k_TooLarge_InvalidSelection⟩
  rw [if_neg e] at h
  by_cases e : C = "InvalidEdit"
  · subst e; rw [if_pos rfl] at h; cases h; exact ⟨F.e_InvalidEdit, F.k_InvalidEdit_InvalidSelection⟩
  rw [if_neg e] at h
  by_cases e : C = "InvalidRank"
  · subst e; rw [if_pos rfl] at h; cases h; exact ⟨F.e_InvalidRank, F.k_InvalidRank_InvalidSelection⟩
  rw [if_neg e] at h
  by_cases e : C = "InvalidText"
  · subst e; rw [if_pos rfl] at h; cases h; exact ⟨F.e_InvalidText, F.k_InvalidText_InvalidSelection⟩
  rw [if_neg e] at h
  by_cases e : C = "NotChild"
  · subst e; rw [if_pos rfl] at h; cases h; exact ⟨F.e_NotChild, F.k_NotChild_InvalidSelection⟩
  rw [if_neg e] at h
  by_cases e : C = "NotRoot"
  · subst e; rw [if_pos rfl] at h; cases h; exact ⟨F.e_NotRoot, F.k_NotRoot_InvalidSelection⟩
  rw [if_neg e] at h
  by_cases e : C = "Unreachable"
  · subst e; rw [if_pos rfl] at h; cases h; exact ⟨F.e_Unreachable, F.k_Unreachable_InvalidSelection⟩
  rw [if_neg e] at h
  by_cases e : C = "NothingRemains"
  · subst e; rw [if_pos rfl] at h; cases h; exact ⟨F.e_NothingRemains, F.k_NothingRemains_InvalidSelection⟩
  rw [if_neg e] at h
  by_cases e : C = "NotRemovable"
  · subst e; rw [if_pos rfl] at h; cases h; exact ⟨F.e_NotRemovable, F.k_NotRemovable_InvalidSelection⟩
  rw [if_neg e] at h
  by_cases e : C = "NotClearing"
  · subst e; rw [if_pos rfl] at h; cases h; exact ⟨F.e_NotClearing, F.k_NotClearing_InvalidSelection⟩
  rw [if_neg e] at h
  by_cases e : C = "WouldLoop"
  · subst e; rw [if_pos rfl] at h; cases h; exact ⟨F.e_WouldLoop, F.k_WouldLoop_InvalidSelection⟩
  rw [if_neg e] at h
  by_cases e : C = "NothingToUndo"
  · subst e; rw [if_pos rfl] at h; cases h; exact ⟨F.e_NothingToUndo, F.k_NothingToUndo_InvalidSelection⟩
  rw [if_neg e] at h
  cases h
theorem hisa_InvalidOrder (F : Fb K mg cl base) : ∀ (C : Str) (b : Bool), isa_InvalidOrder C = some b → ExcC K (cl C) ∧ PySem.W.kitOne K (.ref (cl C)) (.ref (cl "InvalidOrder")) = some b := by
  intro C b h
  unfold isa_InvalidOrder at h
  by_cases e : C = "InvalidSelection"
  · subst e; rw [if_pos rfl] at h; cases h; exact ⟨F.e_InvalidSelection, F.k_InvalidSelection_InvalidOrder⟩
  rw [if_neg e] at h
  by_cases e : C = "InvalidRun"
  · subst e; rw [if_pos rfl] at h; cases h; exact ⟨F.e_InvalidRun, F.k_InvalidRun_InvalidOrder⟩
  rw [if_neg e] at h
  by_cases e : C = "InvalidLabel"
  · subst e; rw [if_pos rfl] at h; cases h; exact ⟨F.e_InvalidLabel, F.k_InvalidLabel_InvalidOrder⟩
  rw [if_neg e] at h
  by_cases e : C = "InvalidForest"
  · subst e; rw [if_pos rfl] at h; cases h; exact ⟨F.e_InvalidForest, F.k_InvalidForest_InvalidOrder⟩
  rw [if_neg e] at h
  by_cases e : C = "InvalidOrder"
  · subst e; rw [if_pos rfl] at h; cases h; exact ⟨F.e_InvalidOrder, F.k_InvalidOrder_InvalidOrder⟩
  rw [if_neg e] at h
  by_cases e : C = "InvalidTable"
  · subst e; rw [if_pos rfl] at h; cases h; exact ⟨F.e_InvalidTable, F.k_InvalidTable_InvalidOrder⟩
  rw [if_neg e] at h
  by_cases e : C = "InvalidPrices"
  · subst e; rw [if_pos rfl] at h; cases h; exact ⟨F.e_InvalidPrices, F.k_InvalidPrices_InvalidOrder⟩
  rw [if_neg e] at h
  by_cases e : C = "InvalidNumbers"
  · subst e; rw [if_pos rfl] at h; cases h; exact ⟨F.e_InvalidNumbers, F.k_InvalidNumbers_InvalidOrder⟩
  rw [if_neg e] at h
  by_cases e : C = "TooLarge"
  · subst e; rw [if_pos rfl] at h; cases h; exact ⟨F.e_TooLarge, F.k_TooLarge_InvalidOrder⟩
  rw [if_neg e] at h
  by_cases e : C = "InvalidEdit"
  · subst e; rw [if_pos rfl] at h; cases h; exact ⟨F.e_InvalidEdit, F.k_InvalidEdit_InvalidOrder⟩
  rw [if_neg e] at h
  by_cases e : C = "InvalidRank"
  · subst e; rw [if_pos rfl] at h; cases h; exact ⟨F.e_InvalidRank, F.k_InvalidRank_InvalidOrder⟩
  rw [if_neg e] at h
  by_cases e : C = "InvalidText"
  · subst e; rw [if_pos rfl] at h; cases h; exact ⟨F.e_InvalidText, F.k_InvalidText_InvalidOrder⟩
  rw [if_neg e] at h
  by_cases e : C = "NotChild"
  · subst e; rw [if_pos rfl] at h; cases h; exact ⟨F.e_NotChild, F.k_NotChild_InvalidOrder⟩
  rw [if_neg e] at h
  by_cases e : C = "NotRoot"
  · subst e; rw [if_pos rfl] at h; cases h; exact ⟨F.e_NotRoot, F.k_NotRoot_InvalidOrder⟩
  rw [if_neg e] at h
  by_cases e : C = "Unreachable"
  · subst e; rw [if_pos rfl] at h; cases h; exact ⟨F.e_Unreachable, F.k_Unreachable_InvalidOrder⟩
  rw [if_neg e] at h
  by_cases e : C = "NothingRemains"
  · subst e; rw [if_pos rfl] at h; cases h; exact ⟨F.e_NothingRemains, F.k_NothingRemains_InvalidOrder⟩
  rw [if_neg e] at h
  by_cases e : C = "NotRemovable"
  · subst e; rw [if_pos rfl] at h; cases h; exact ⟨F.e_NotRemovable, F.k_NotRemovable_InvalidOrder⟩
  rw [if_neg e] at h
  by_cases e : C = "NotClearing"
  · subst e; rw [if_pos rfl] at h; cases h; exact ⟨F.e_NotClearing, F.k_NotClearing_InvalidOrder⟩
  rw [if_neg e] at h
  by_cases e : C = "WouldLoop"
  · subst e; rw [if_pos rfl] at h; cases h; exact ⟨F.e_WouldLoop, F.k_WouldLoop_InvalidOrder⟩
  rw [if_neg e] at h
  by_cases e : C = "NothingToUndo"
  · subst e; rw [if_pos rfl] at h; cases h; exact ⟨F.e_NothingToUndo, F.k_NothingToUndo_InvalidOrder⟩
  rw [if_neg e] at h
  cases h
theorem hisa_InvalidTable (F : Fb K mg cl base) : ∀ (C : Str) (b : Bool), isa_InvalidTable C = some b → ExcC K (cl C) ∧ PySem.W.kitOne K (.ref (cl C)) (.ref (cl "InvalidTable")) = some b := by
  intro C b h
  unfold isa_InvalidTable at h
  by_cases e : C = "InvalidSelection"
  · subst e; rw [if_pos rfl] at h; cases h; exact ⟨F.e_InvalidSelection, F.k_InvalidSelection_InvalidTable⟩
  rw [if_neg e] at h
  by_cases e : C = "InvalidRun"
  · subst e; rw [if_pos rfl] at h; cases h; exact ⟨F.e_InvalidRun, F.k_InvalidRun_InvalidTable⟩
  rw [if_neg e] at h
  by_cases e : C = "InvalidLabel"
  · subst e; rw [if_pos rfl] at h; cases h; exact ⟨F.e_InvalidLabel, F.k_InvalidLabel_InvalidTable⟩
  rw [if_neg e] at h
  by_cases e : C = "InvalidForest"
  · subst e; rw [if_pos rfl] at h; cases h; exact ⟨F.e_InvalidForest, F.k_InvalidForest_InvalidTable⟩
  rw [if_neg e] at h
  by_cases e : C = "InvalidOrder"
  · subst e; rw [if_pos rfl] at h; cases h; exact ⟨F.e_InvalidOrder, F.k_InvalidOrder_InvalidTable⟩
  rw [if_neg e] at h
  by_cases e : C = "InvalidTable"
  · subst e; rw [if_pos rfl] at h; cases h; exact ⟨F.e_InvalidTable, F.k_InvalidTable_InvalidTable⟩
  rw [if_neg e] at h
  by_cases e : C = "InvalidPrices"
  · subst e; rw [if_pos rfl] at h; cases h; exact ⟨F.e_InvalidPrices, F.k_InvalidPrices_InvalidTable⟩
  rw [if_neg e] at h
  by_cases e : C = "InvalidNumbers"
  · subst e; rw [if_pos rfl] at h; cases h; exact ⟨F.e_InvalidNumbers, F.k_InvalidNumbers_InvalidTable⟩
  rw [if_neg e] at h
  by_cases e : C = "TooLarge"
  · subst e; rw [if_pos rfl] at h; cases h; exact ⟨F.e_TooLarge, F.k_TooLarge_InvalidTable⟩
  rw [if_neg e] at h
  by_cases e : C = "InvalidEdit"
  · subst e; rw [if_pos rfl] at h; cases h; exact ⟨F.e_InvalidEdit, F.k_InvalidEdit_InvalidTable⟩
  rw [if_neg e] at h
  by_cases e : C = "InvalidRank"
  · subst e; rw [if_pos rfl] at h; cases h; exact ⟨F.e_InvalidRank, F.k_InvalidRank_InvalidTable⟩
  rw [if_neg e] at h
  by_cases e : C = "InvalidText"
  · subst e; rw [if_pos rfl] at h; cases h; exact ⟨F.e_InvalidText, F.k_InvalidText_InvalidTable⟩
  rw [if_neg e] at h
  by_cases e : C = "NotChild"
  · subst e; rw [if_pos rfl] at h; cases h; exact ⟨F.e_NotChild, F.k_NotChild_InvalidTable⟩
  rw [if_neg e] at h
  by_cases e : C = "NotRoot"
  · subst e; rw [if_pos rfl] at h; cases h; exact ⟨F.e_NotRoot, F.k_NotRoot_InvalidTable⟩
  rw [if_neg e] at h
  by_cases e : C = "Unreachable"
  · subst e; rw [if_pos rfl] at h; cases h; exact ⟨F.e_Unreachable, F.k_Unreachable_InvalidTable⟩
  rw [if_neg e] at h
  by_cases e : C = "NothingRemains"
  · subst e; rw [if_pos rfl] at h; cases h; exact ⟨F.e_NothingRemains, F.k_NothingRemains_InvalidTable⟩
  rw [if_neg e] at h
  by_cases e : C = "NotRemovable"
  · subst e; rw [if_pos rfl] at h; cases h; exact ⟨F.e_NotRemovable, F.k_NotRemovable_InvalidTable⟩
  rw [if_neg e] at h
  by_cases e : C = "NotClearing"
  · subst e; rw [if_pos rfl] at h; cases h; exact ⟨F.e_NotClearing, F.k_NotClearing_InvalidTable⟩
  rw [if_neg e] at h
  by_cases e : C = "WouldLoop"
  · subst e; rw [if_pos rfl] at h; cases h; exact ⟨F.e_WouldLoop, F.k_WouldLoop_InvalidTable⟩
  rw [if_neg e] at h
  by_cases e : C = "NothingToUndo"
  · subst e; rw [if_pos rfl] at h; cases h; exact ⟨F.e_NothingToUndo, F.k_NothingToUndo_InvalidTable⟩
  rw [if_neg e] at h
  cases h
theorem hisa_InvalidPrices (F : Fb K mg cl base) : ∀ (C : Str) (b : Bool), isa_InvalidPrices C = some b → ExcC K (cl C) ∧ PySem.W.kitOne K (.ref (cl C)) (.ref (cl "InvalidPrices")) = some b := by
  intro C b h
  unfold isa_InvalidPrices at h
  by_cases e : C = "InvalidSelection"
  · subst e; rw [if_pos rfl] at h; cases h; exact ⟨F.e_InvalidSelection, F.k_InvalidSelection_InvalidPrices⟩
  rw [if_neg e] at h
  by_cases e : C = "InvalidRun"
  · subst e; rw [if_pos rfl] at h; cases h; exact ⟨F.e_InvalidRun, F.k_InvalidRun_InvalidPrices⟩
  rw [if_neg e] at h
  by_cases e : C = "InvalidLabel"
  · subst e; rw [if_pos rfl] at h; cases h; exact ⟨F.e_InvalidLabel, F.k_InvalidLabel_InvalidPrices⟩
  rw [if_neg e] at h
  by_cases e : C = "InvalidForest"
  · subst e; rw [if_pos rfl] at h; cases h; exact ⟨F.e_InvalidForest, F.k_InvalidForest_InvalidPrices⟩
  rw [if_neg e] at h
  by_cases e : C = "InvalidOrder"
  · subst e; rw [if_pos rfl] at h; cases h; exact ⟨F.e_InvalidOrder, F.k_InvalidOrder_InvalidPrices⟩
  rw [if_neg e] at h
  by_cases e : C = "InvalidTable"
  · subst e; rw [if_pos rfl] at h; cases h; exact ⟨F.e_InvalidTable, F.k_InvalidTable_InvalidPrices⟩
  rw [if_neg e] at h
  by_cases e : C = "InvalidPrices"
  · subst e; rw [if_pos rfl] at h; cases h; exact ⟨F.e_InvalidPrices, F.k_InvalidPrices_InvalidPrices⟩
  rw [if_neg e] at h
  by_cases e : C = "InvalidNumbers"
  · subst e; rw [if_pos rfl] at h; cases h; exact ⟨F.e_InvalidNumbers, F.k_InvalidNumbers_InvalidPrices⟩
  rw [if_neg e] at h
  by_cases e : C = "TooLarge"
  · subst e; rw [if_pos rfl] at h; cases h; exact ⟨F.e_TooLarge, F.k_TooLarge_InvalidPrices⟩
  rw [if_neg e] at h
  by_cases e : C = "InvalidEdit"
  · subst e; rw [if_pos rfl] at h; cases h; exact ⟨F.e_InvalidEdit, F.k_InvalidEdit_InvalidPrices⟩
  rw [if_neg e] at h
  by_cases e : C = "InvalidRank"
  · subst e; rw [if_pos rfl] at h; cases h; exact ⟨F.e_InvalidRank, F.k_InvalidRank_InvalidPrices⟩
  rw [if_neg e] at h
  by_cases e : C = "InvalidText"
  · subst e; rw [if_pos rfl] at h; cases h; exact ⟨F.e_InvalidText, F.k_InvalidText_InvalidPrices⟩
  rw [if_neg e] at h
  by_cases e : C = "NotChild"
  · subst e; rw [if_pos rfl] at h; cases h; exact ⟨F.e_NotChild, F.k_NotChild_InvalidPrices⟩
  rw [if_neg e] at h
  by_cases e : C = "NotRoot"
  · subst e; rw [if_pos rfl] at h; cases h; exact ⟨F.e_NotRoot, F.k_NotRoot_InvalidPrices⟩
  rw [if_neg e] at h
  by_cases e : C = "Unreachable"
  · subst e; rw [if_pos rfl] at h; cases h; exact ⟨F.e_Unreachable, F.k_Unreachable_InvalidPrices⟩
  rw [if_neg e] at h
  by_cases e : C = "NothingRemains"
  · subst e; rw [if_pos rfl] at h; cases h; exact ⟨F.e_NothingRemains, F.k_NothingRemains_InvalidPrices⟩
  rw [if_neg e] at h
  by_cases e : C = "NotRemovable"
  · subst e; rw [if_pos rfl] at h; cases h; exact ⟨F.e_NotRemovable, F.k_NotRemovable_InvalidPrices⟩
  rw [if_neg e] at h
  by_cases e : C = "NotClearing"
  · subst e; rw [if_pos rfl] at h; cases h; exact ⟨F.e_NotClearing, F.k_NotClearing_InvalidPrices⟩
  rw [if_neg e] at h
  by_cases e : C = "WouldLoop"
  · subst e; rw [if_pos rfl] at h; cases h; exact ⟨F.e_WouldLoop, F.k_WouldLoop_InvalidPrices⟩
  rw [if_neg e] at h
  by_cases e : C = "NothingToUndo"
  · subst e; rw [if_pos rfl] at h; cases h; exact ⟨F.e_NothingToUndo, F.k_NothingToUndo_InvalidPrices⟩
  rw [if_neg e] at h
  cases h
theorem hisa_InvalidEdit (F : Fb K mg cl base) : ∀ (C : Str) (b : Bool), isa_InvalidEdit C = some b → ExcC K (cl C) ∧ PySem.W.kitOne K (.ref (cl C)) (.ref (cl "InvalidEdit")) = some b := by
  intro C b h
  unfold isa_InvalidEdit at h
  by_cases e : C = "InvalidSelection"
  · subst e; rw [if_pos rfl] at h; cases h; exact ⟨F.e_InvalidSelection, F.k_InvalidSelection_InvalidEdit⟩
  rw [if_neg e] at h
  by_cases e : C = "InvalidRun"
  · subst e; rw [if_pos rfl] at h; cases h; exact ⟨F.e_InvalidRun, F.k_InvalidRun_InvalidEdit⟩
  rw [if_neg e] at h
  by_cases e : C = "InvalidLabel"
  · subst e; rw [if_pos rfl] at h; cases h; exact ⟨F.e_InvalidLabel, F.k_InvalidLabel_InvalidEdit⟩
  rw [if_neg e] at h
  by_cases e : C = "InvalidForest"
  · subst e; rw [if_pos rfl] at h; cases h; exact ⟨F.e_InvalidForest, F.k_InvalidForest_InvalidEdit⟩
  rw [if_neg e] at h
  by_cases e : C = "InvalidOrder"
  · subst e; rw [if_pos rfl] at h; cases h; exact ⟨F.e_InvalidOrder, F.k_InvalidOrder_InvalidEdit⟩
  rw [if_neg e] at h
  by_cases e : C = "InvalidTable"
  · subst e; rw [if_pos rfl] at h; cases h; exact ⟨F.e_InvalidTable, F.k_InvalidTable_InvalidEdit⟩
  rw [if_neg e] at h
  by_cases e : C = "InvalidPrices"
  · subst e; rw [if_pos rfl] at h; cases h; exact ⟨F.e_InvalidPrices, F.k_InvalidPrices_InvalidEdit⟩
  rw [if_neg e] at h
  by_cases e : C = "InvalidNumbers"
  · subst e; rw [if_pos rfl] at h; cases h; exact ⟨F.e_InvalidNumbers, F.k_InvalidNumbers_InvalidEdit⟩
  rw [if_neg e] at h
  by_cases e : C = "TooLarge"
  · subst e; rw [if_pos rfl] at h; cases h; exact ⟨F.e_TooLarge, F.k_TooLarge_InvalidEdit⟩
  rw [if_neg e] at h
  by_cases e : C = "InvalidEdit"
  · subst e; rw [if_pos rfl] at h; cases h; exact ⟨F.e_InvalidEdit, F.k_InvalidEdit_InvalidEdit⟩
  rw [if_neg e] at h
  by_cases e : C = "InvalidRank"
  · subst e; rw [if_pos rfl] at h; cases h; exact ⟨F.e_InvalidRank, F.k_InvalidRank_InvalidEdit⟩
  rw [if_neg e] at h
  by_cases e : C = "InvalidText"
  · subst e; rw [if_pos rfl] at h; cases h; exact ⟨F.e_InvalidText, F.k_InvalidText_InvalidEdit⟩
  rw [if_neg e] at h
  by_cases e : C = "NotChild"
  · subst e; rw [if_pos rfl] at h; cases h; exact ⟨F.e_NotChild, F.k_NotChild_InvalidEdit⟩
  rw [if_neg e] at h
  by_cases e : C = "NotRoot"
  · subst e; rw [if_pos rfl] at h; cases h; exact ⟨F.e_NotRoot, F.k_NotRoot_InvalidEdit⟩
  rw [if_neg e] at h
  by_cases e : C = "Unreachable"
  · subst e; rw [if_pos rfl] at h; cases h; exact ⟨F.e_Unreachable, F.k_Unreachable_InvalidEdit⟩
  rw [if_neg e] at h
  by_cases e : C = "NothingRemains"
  · subst e; rw [if_pos rfl] at h; cases h; exact ⟨F.e_NothingRemains, F.k_NothingRemains_InvalidEdit⟩
  rw [if_neg e] at h
  by_cases e : C = "NotRemovable"
  · subst e; rw [if_pos rfl] at h; cases h; exact ⟨F.e_NotRemovable, F.k_NotRemovable_InvalidEdit⟩
  rw [if_neg e] at h
  by_cases e : C = "NotClearing"
  · subst e; rw [if_pos rfl] at h; cases h; exact ⟨F.e_NotClearing, F.k_NotClearing_InvalidEdit⟩
  rw [if_neg e] at h
  by_cases e : C = "WouldLoop"
  · subst e; rw [if_pos rfl] at h; cases h; exact ⟨F.e_WouldLoop, F.k_WouldLoop_InvalidEdit⟩
  rw [if_neg e] at h
  by_cases e : C = "NothingToUndo"
  · subst e; rw [if_pos rfl] at h; cases h; exact ⟨F.e_NothingToUndo, F.k_NothingToUndo_InvalidEdit⟩
  rw [if_neg e] at h
  cases h
theorem hisa_InvalidRank (F : Fb K mg cl base) : ∀ (C : Str) (b : Bool), isa_InvalidRank C = some b → ExcC K (cl C) ∧ PySem.W.kitOne K (.ref (cl C)) (.ref (cl "InvalidRank")) = some b := by
  intro C b h
  unfold isa_InvalidRank at h
  by_cases e : C = "InvalidSelection"
  · subst e; rw [if_pos rfl] at h; cases h; exact ⟨F.e_InvalidSelection, F.k_InvalidSelection_InvalidRank⟩
  rw [if_neg e] at h
  by_cases e : C = "InvalidRun"
  · subst e; rw [if_pos rfl] at h; cases h; exact ⟨F.e_InvalidRun, F.k_InvalidRun_InvalidRank⟩
  rw [if_neg e] at h
  by_cases e : C = "InvalidLabel"
  · subst e; rw [if_pos rfl] at h; cases h; exact ⟨F.e_InvalidLabel, F.k_InvalidLabel_InvalidRank⟩
  rw [if_neg e] at h
  by_cases e : C = "InvalidForest"
  · subst e; rw [if_pos rfl] at h; cases h; exact ⟨F.e_InvalidForest, F.k_InvalidForest_InvalidRank⟩
  rw [if_neg e] at h
  by_cases e : C = "InvalidOrder"
  · subst e; rw [if_pos rfl] at h; cases h; exact ⟨F.e_InvalidOrder, F.k_InvalidOrder_InvalidRank⟩
  rw [if_neg e] at h
  by_cases e : C = "InvalidTable"
  · subst e; rw [if_pos rfl] at h; cases h; exact ⟨F.e_InvalidTable, F.k_InvalidTable_InvalidRank⟩
  rw [if_neg e] at h
  by_cases e : C = "InvalidPrices"
  · subst e; rw [if_pos rfl] at h; cases h; exact ⟨F.e_InvalidPrices, F.k_InvalidPrices_InvalidRank⟩
  rw [if_neg e] at h
  by_cases e : C = "InvalidNumbers"
  · subst e; rw [if_pos rfl] at h; cases h; exact ⟨F.e_InvalidNumbers, F.k_InvalidNumbers_InvalidRank⟩
  rw [if_neg e] at h
  by_cases e : C = "TooLarge"
  · subst e; rw [if_pos rfl] at h; cases h; exact ⟨F.e_TooLarge, F.k_TooLarge_InvalidRank⟩
  rw [if_neg e] at h
  by_cases e : C = "InvalidEdit"
  · subst e; rw [if_pos rfl] at h; cases h; exact ⟨F.e_InvalidEdit, F.k_InvalidEdit_InvalidRank⟩
  rw [if_neg e] at h
  by_cases e : C = "InvalidRank"
  · subst e; rw [if_pos rfl] at h; cases h; exact ⟨F.e_InvalidRank, F.k_InvalidRank_InvalidRank⟩
  rw [if_neg e] at h
  by_cases e : C = "InvalidText"
  · subst e; rw [if_pos rfl] at h; cases h; exact ⟨F.e_InvalidText, F.k_InvalidText_InvalidRank⟩
  rw [if_neg e] at h
  by_cases e : C = "NotChild"
  · subst e; rw [if_pos rfl] at h; cases h; exact ⟨F.e_NotChild, F.k_NotChild_InvalidRank⟩
  rw [if_neg e] at h
  by_cases e : C = "NotRoot"
  · subst e; rw [if_pos rfl] at h; cases h; exact ⟨F.e_NotRoot, F.k_NotRoot_InvalidRank⟩
  rw [if_neg e] at h
  by_cases e : C = "Unreachable"
  · subst e; rw [if_pos rfl] at h; cases h; exact ⟨F.e_Unreachable, F.k_Unreachable_InvalidRank⟩
  rw [if_neg e] at h
  by_cases e : C = "NothingRemains"
  · subst e; rw [if_pos rfl] at h; cases h; exact ⟨F.e_NothingRemains, F.k_NothingRemains_InvalidRank⟩
  rw [if_neg e] at h
  by_cases e : C = "NotRemovable"
  · subst e; rw [if_pos rfl] at h; cases h; exact ⟨F.e_NotRemovable, F.k_NotRemovable_InvalidRank⟩
  rw [if_neg e] at h
  by_cases e : C = "NotClearing"
  · subst e; rw [if_pos rfl] at h; cases h; exact ⟨F.e_NotClearing, F.k_NotClearing_InvalidRank⟩
  rw [if_neg e] at h
  by_cases e : C = "WouldLoop"
  · subst e; rw [if_pos rfl] at h; cases h; exact ⟨F.e_WouldLoop, F.k_WouldLoop_InvalidRank⟩
  rw [if_neg e] at h
  by_cases e : C = "NothingToUndo"
  · subst e; rw [if_pos rfl] at h; cases h; exact ⟨F.e_NothingToUndo, F.k_NothingToUndo_InvalidRank⟩
  rw [if_neg e] at h
  cases h
theorem hisa_InvalidText (F : Fb K mg cl base) : ∀ (C : Str) (b : Bool), isa_InvalidText C = some b → ExcC K (cl C) ∧ PySem.W.kitOne K (.ref (cl C)) (.ref (cl "InvalidText")) = some b := by
  intro C b h
  unfold isa_InvalidText at h
  by_cases e : C = "InvalidSelection"
  · subst e; rw [if_pos rfl] at h; cases h; exact ⟨F.e_InvalidSelection, F.k_InvalidSelection_InvalidText⟩
  rw [if_neg e] at h
  by_cases e : C = "InvalidRun"
  · subst e; rw [if_pos rfl] at h; cases h; exact ⟨F.e_InvalidRun, F.k_InvalidRun_InvalidText⟩
  rw [if_neg e] at h
  by_cases e : C = "InvalidLabel"
  · subst e; rw [if_pos rfl] at h; cases h; exact ⟨F.e_InvalidLabel, F.k_InvalidLabel_InvalidText⟩
  rw [if_neg e] at h
  by_cases e : C = "InvalidForest"
  · subst e; rw [if_pos rfl] at h; cases h; exact ⟨F.e_InvalidForest, F.k_InvalidForest_InvalidText⟩
  rw [if_neg e] at h
  by_cases e : C = "InvalidOrder"
  · subst e; rw [if_pos rfl] at h; cases h; exact ⟨F.e_InvalidOrder, F.k_InvalidOrder_InvalidText⟩
  rw [if_neg e] at h
  by_cases e : C = "InvalidTable"
  · subst e; rw [if_pos rfl] at h; cases h; exact ⟨F.e_InvalidTable, F.k_InvalidTable_InvalidText⟩
  rw [if_neg e] at h
  by_cases e : C = "InvalidPrices"
  · subst e; rw [if_pos rfl] at h; cases h; exact ⟨F.e_InvalidPrices, F.k_InvalidPrices_InvalidText⟩
  rw [if_neg e] at h
  by_cases e : C = "InvalidNumbers"
  · subst e; rw [if_pos rfl] at h; cases h; exact ⟨F.e_InvalidNumbers, F.k_InvalidNumbers_InvalidText⟩
  rw [if_neg e] at h
  by_cases e : C = "TooLarge"
  · subst e; rw [if_pos rfl] at h; cases h; exact ⟨F.e_TooLarge, F.k_TooLarge_InvalidText⟩
  rw [if_neg e] at h
  by_cases e : C = "InvalidEdit"
  · subst e; rw [if_pos rfl] at h; cases h; exact ⟨F.e_InvalidEdit, F.k_InvalidEdit_InvalidText⟩
  rw [if_neg e] at h
  by_cases e : C = "InvalidRank"
  · subst e; rw [if_pos rfl] at h; cases h; exact ⟨F.e_InvalidRank, F.k_InvalidRank_InvalidText⟩
  rw [if_neg e] at h
  by_cases e : C = "InvalidText"
  · subst e; rw [if_pos rfl] at h; cases h; exact ⟨F.e_InvalidText, F.k_InvalidText_InvalidText⟩
  rw [if_neg e] at h
  by_cases e : C = "NotChild"
  · subst e; rw [if_pos rfl] at h; cases h; exact ⟨F.e_NotChild, F.k_NotChild_InvalidText⟩
  rw [if_neg e] at h
  by_cases e : C = "NotRoot"
  · subst e; rw [if_pos rfl] at h; cases h; exact ⟨F.e_NotRoot, F.k_NotRoot_InvalidText⟩
  rw [if_neg e] at h
  by_cases e : C = "Unreachable"
  · subst e; rw [if_pos rfl] at h; cases h; exact ⟨F.e_Unreachable, F.k_Unreachable_InvalidText⟩
  rw [if_neg e] at h
  by_cases e : C = "NothingRemains"
  · subst e; rw [if_pos rfl] at h; cases h; exact ⟨F.e_NothingRemains, F.k_NothingRemains_InvalidText⟩
  rw [if_neg e] at h
  by_cases e : C = "NotRemovable"
  · subst e; rw [if_pos rfl] at h; cases h; exact ⟨F.e_NotRemovable, F.k_NotRemovable_InvalidText⟩
  rw [if_neg e] at h
  by_cases e : C = "NotClearing"
  · subst e; rw [if_pos rfl] at h; cases h; exact ⟨F.e_NotClearing, F.k_NotClearing_InvalidText⟩
  rw [if_neg e] at h
  by_cases e : C = "WouldLoop"
  · subst e; rw [if_pos rfl] at h; cases h; exact ⟨F.e_WouldLoop, F.k_WouldLoop_InvalidText⟩
  rw [if_neg e] at h
  by_cases e : C = "NothingToUndo"
  · subst e; rw [if_pos rfl] at h; cases h; exact ⟨F.e_NothingToUndo, F.k_NothingToUndo_InvalidText⟩
  rw [if_neg e] at h
  cases h
theorem hisa_NothingRemains (F : Fb K mg cl base) : ∀ (C : Str) (b : Bool), isa_NothingRemains C = some b → ExcC K (cl C) ∧ PySem.W.kitOne K (.ref (cl C)) (.ref (cl "NothingRemains")) = some b := by
  intro C b h
  unfold isa_NothingRemains at h
  by_cases e : C = "InvalidSelection"
  · subst e; rw [if_pos rfl] at h; cases h; exact ⟨F.e_InvalidSelection, F.k_InvalidSelection_NothingRemains⟩
  rw [if_neg e] at h
  by_cases e : C = "InvalidRun"
  · subst e; rw [if_pos rfl] at h; cases h; exact ⟨F.e_InvalidRun, F.k_InvalidRun_NothingRemains⟩
  rw [if_neg e] at h
  by_cases e : C = "InvalidLabel"
  · subst e; rw [if_pos rfl] at h; cases h; exact ⟨F.e_InvalidLabel, F.k_InvalidLabel_NothingRemains⟩
  rw [if_neg e] at h
  by_cases e : C = "InvalidForest"
  · subst e; rw [if_pos rfl] at h; cases h; exact ⟨F.e_InvalidForest, F.k_InvalidForest_NothingRemains⟩
  rw [if_neg e] at h
  by_cases e : C = "InvalidOrder"
  · subst e; rw [if_pos rfl] at h; cases h; exact ⟨F.e_InvalidOrder, F.k_InvalidOrder_NothingRemains⟩
  rw [if_neg e] at h
  by_cases e : C = "InvalidTable"
  · subst e; rw [if_pos rfl] at h; cases h; exact ⟨F.e_InvalidTable, F.k_InvalidTable_NothingRemains⟩
  rw [if_neg e] at h
  by_cases e : C = "InvalidPrices"
  · subst e; rw [if_pos rfl] at h; cases h; exact ⟨F.e_InvalidPrices, F.k_InvalidPrices_NothingRemains⟩
  rw [if_neg e] at h
  by_cases e : C = "InvalidNumbers"
  · subst e; rw [if_pos rfl] at h; cases h; exact ⟨F.e_InvalidNumbers, F.k_InvalidNumbers_NothingRemains⟩
  rw [if_neg e] at h
  by_cases e : C = "TooLarge"
  · subst e; rw [if_pos rfl] at h; cases h; exact ⟨F.e_TooLarge, F.k_TooLarge_NothingRemains⟩
  rw [if_neg e] at h
  by_cases e : C = "InvalidEdit"
  · subst e; rw [if_pos rfl] at h; cases h; exact ⟨F.e_InvalidEdit, F.k_InvalidEdit_NothingRemains⟩
  rw [if_neg e] at h
  by_cases e : C = "InvalidRank"
  · subst e; rw [if_pos rfl] at h; cases h; exact ⟨F.e_InvalidRank, F.k_InvalidRank_NothingRemains⟩
  rw [if_neg e] at h
  by_cases e : C = "InvalidText"
  · subst e; rw [if_pos rfl] at h; cases h; exact ⟨F.e_InvalidText, F.k_InvalidText_NothingRemains⟩
  rw [if_neg e] at h
  by_cases e : C = "NotChild"
  · subst e; rw [if_pos rfl] at h; cases h; exact ⟨F.e_NotChild, F.k_NotChild_NothingRemains⟩
  rw [if_neg e] at h
  by_cases e : C = "NotRoot"
  · subst e; rw [if_pos rfl] at h; cases h; exact ⟨F.e_NotRoot, F.k_NotRoot_NothingRemains⟩
  rw [if_neg e] at h
  by_cases e : C = "Unreachable"
  · subst e; rw [if_pos rfl] at h; cases h; exact ⟨F.e_Unreachable, F.k_Unreachable_NothingRemains⟩
  rw [if_neg e] at h
  by_cases e : C = "NothingRemains"
  · subst e; rw [if_pos rfl] at h; cases h; exact ⟨F.e_NothingRemains, F.k_NothingRemains_NothingRemains⟩
  rw [if_neg e] at h
  by_cases e : C = "NotRemovable"
  · subst e; rw [if_pos rfl] at h; cases h; exact ⟨F.e_NotRemovable, F.k_NotRemovable_NothingRemains⟩
  rw [if_neg e] at h
  by_cases e : C = "NotClearing"
  · subst e; rw [if_pos rfl] at h; cases h; exact ⟨F.e_NotClearing, F.k_NotClearing_NothingRemains⟩
  rw [if_neg e] at h
  by_cases e : C = "WouldLoop"
  · subst e; rw [if_pos rfl] at h; cases h; exact ⟨F.e_WouldLoop, F.k_WouldLoop_NothingRemains⟩
  rw [if_neg e] at h
  by_cases e : C = "NothingToUndo"
  · subst e; rw [if_pos rfl] at h; cases h; exact ⟨F.e_NothingToUndo, F.k_NothingToUndo_NothingRemains⟩
  rw [if_neg e] at h
  cases h
theorem hisa_NotRemovable (F : Fb K mg cl base) : ∀ (C : Str) (b : Bool), isa_NotRemovable C = some b → ExcC K (cl C) ∧ PySem.W.kitOne K (.ref (cl C)) (.ref (cl "NotRemovable")) = some b := by
  intro C b h
  unfold isa_NotRemovable at h
  by_cases e : C = "InvalidSelection"
  · subst e; rw [if_pos rfl] at h; cases h; exact ⟨F.e_InvalidSelection, F.k_InvalidSelection_NotRemovable⟩
  rw [if_neg e] at h
  by_cases e : C = "InvalidRun"
  · subst e; rw [if_pos rfl] at h; cases h; exact ⟨F.e_InvalidRun, F.k_InvalidRun_NotRemovable⟩
  rw [if_neg e] at h
  by_cases e : C = "InvalidLabel"
  · subst e; rw [if_pos rfl] at h; cases h; exact ⟨F.e_InvalidLabel, F.k_InvalidLabel_NotRemovable⟩
  rw [if_neg e] at h
  by_cases e : C = "InvalidForest"
  · subst e; rw [if_pos rfl] at h; cases h; exact ⟨F.e_InvalidForest, F.k_InvalidForest_NotRemovable⟩
  rw [if_neg e] at h
  by_cases e : C = "InvalidOrder"
  · subst e; rw [if_pos rfl] at h; cases h; exact ⟨F.e_InvalidOrder, F.k_InvalidOrder_NotRemovable⟩
  rw [if_neg e] at h
  by_cases e : C = "InvalidTable"
  · subst e; rw [if_pos rfl] at h; cases h; exact ⟨F.e_InvalidTable, F.k_InvalidTable_NotRemovable⟩
  rw [if_neg e] at h
  by_cases e : C = "InvalidPrices"
  · subst e; rw [if_pos rfl] at h; cases h; exact ⟨F.e_InvalidPrices, F.k_InvalidPrices_NotRemovable⟩
  rw [if_neg e] at h
  by_cases e : C = "InvalidNumbers"
  · subst e; rw [if_pos rfl] at h; cases h; exact ⟨F.e_InvalidNumbers, F.k_InvalidNumbers_NotRemovable⟩
  rw [if_neg e] at h
  by_cases e : C = "TooLarge"
  · subst e; rw [if_pos rfl] at h; cases h; exact ⟨F.e_TooLarge, F.k_TooLarge_NotRemovable⟩
  rw [if_neg e] at h
  by_cases e : C = "InvalidEdit"
  · subst e; rw [if_pos rfl] at h; cases h; exact ⟨F.e_InvalidEdit, F.k_InvalidEdit_NotRemovable⟩
  rw [if_neg e] at h
  by_cases e : C = "InvalidRank"
  · subst e; rw [if_pos rfl] at h; cases h; exact ⟨F.e_InvalidRank, F.k_InvalidRank_NotRemovable⟩
  rw [if_neg e] at h
  by_cases e : C = "InvalidText"
  · subst e; rw [if_pos rfl] at h; cases h; exact ⟨F.e_InvalidText, F.k_InvalidText_NotRemovable⟩
  rw [if_neg e] at h
  by_cases e : C = "NotChild"
  · subst e; rw [if_pos rfl] at h; cases h; exact ⟨F.e_NotChild, F.k_NotChild_NotRemovable⟩
  rw [if_neg e] at h
  by_cases e : C = "NotRoot"
  · subst e; rw [if_pos rfl] at h; cases h; exact ⟨F.e_NotRoot, F.k_NotRoot_NotRemovable⟩
  rw [if_neg e] at h
  by_cases e : C = "Unreachable"
  · subst e; rw [if_pos rfl] at h; cases h; exact ⟨F.e_Unreachable, F.k_Unreachable_NotRemovable⟩
  rw [if_neg e] at h
  by_cases e : C = "NothingRemains"
  · subst e; rw [if_pos rfl] at h; cases h; exact ⟨F.e_NothingRemains, F.k_NothingRemains_NotRemovable⟩
  rw [if_neg e] at h
  by_cases e : C = "NotRemovable"
  · subst e; rw [if_pos rfl] at h; cases h; exact ⟨F.e_NotRemovable, F.k_NotRemovable_NotRemovable⟩
  rw [if_neg e] at h
  by_cases e : C = "NotClearing"
  · subst e; rw [if_pos rfl] at h; cases h; exact ⟨F.e_NotClearing, F.k_NotClearing_NotRemovable⟩
  rw [if_neg e] at h
  by_cases e : C = "WouldLoop"
  · subst e; rw [if_pos rfl] at h; cases h; exact ⟨F.e_WouldLoop, F.k_WouldLoop_NotRemovable⟩
  rw [if_neg e] at h
  by_cases e : C = "NothingToUndo"
  · subst e; rw [if_pos rfl] at h; cases h; exact ⟨F.e_NothingToUndo, F.k_NothingToUndo_NotRemovable⟩
  rw [if_neg e] at h
  cases h
theorem hisa_TooLarge (F : Fb K mg cl base) : ∀ (C : Str) (b : Bool), isa_TooLarge C = some b → ExcC K (cl C) ∧ PySem.W.kitOne K (.ref (cl C)) (.ref (cl "TooLarge")) = some b := by
  intro C b h
  unfold isa_TooLarge at h
  by_cases e : C = "InvalidSelection"
  · subst e; rw [if_pos rfl] at h; cases h; exact ⟨F.e_InvalidSelection, F.k_InvalidSelection_TooLarge⟩
  rw [if_neg e] at h
  by_cases e : C = "InvalidRun"
  · subst e; rw [if_pos rfl] at h; cases h; exact ⟨F.e_InvalidRun, F.k_InvalidRun_TooLarge⟩
  rw [if_neg e] at h
  by_cases e : C = "InvalidLabel"
  · subst e; rw [if_pos rfl] at h; cases h; exact ⟨F.e_InvalidLabel, F.k_InvalidLabel_TooLarge⟩
  rw [if_neg e] at h
  by_cases e : C = "InvalidForest"
  · subst e; rw [if_pos rfl] at h; cases h; exact ⟨F.e_InvalidForest, F.k_InvalidForest_TooLarge⟩
  rw [if_neg e] at h
  by_cases e : C = "InvalidOrder"
  · subst e; rw [if_pos rfl] at h; cases h; exact ⟨F.e_InvalidOrder, F.k_InvalidOrder_TooLarge⟩
  rw [if_neg e] at h
  by_cases e : C = "InvalidTable"
  · subst e; rw [if_pos rfl] at h; cases h; exact ⟨F.e_InvalidTable, F.k_InvalidTable_TooLarge⟩
  rw [if_neg e] at h
  by_cases e : C = "InvalidPrices"
  · subst e; rw [if_pos rfl] at h; cases h; exact ⟨F.e_InvalidPrices, F.k_InvalidPrices_TooLarge⟩
  rw [if_neg e] at h
  by_cases e : C = "InvalidNumbers"
  · subst e; rw [if_pos rfl] at h; cases h; exact ⟨F.e_InvalidNumbers, F.k_InvalidNumbers_TooLarge⟩
  rw [if_neg e] at h
  by_cases e : C = "TooLarge"
  · subst e; rw [if_pos rfl] at h; cases h; exact ⟨F.e_TooLarge, F.k_TooLarge_TooLarge⟩
  rw [if_neg e] at h
  by_cases e : C = "InvalidEdit"
  · subst e; rw [if_pos rfl] at h; cases h; exact ⟨F.e_InvalidEdit, F.k_InvalidEdit_TooLarge⟩
  rw [if_neg e] at h
  by_cases e : C = "InvalidRank"
  · subst e; rw [if_pos rfl] at h; cases h; exact ⟨F.e_InvalidRank, F.k_InvalidRank_TooLarge⟩
  rw [if_neg e] at h
  by_cases e : C = "InvalidText"
  · subst e; rw [if_pos rfl] at h; cases h; exact ⟨F.e_InvalidText, F.k_InvalidText_TooLarge⟩
  rw [if_neg e] at h
  by_cases e : C = "NotChild"
  · subst e; rw [if_pos rfl] at h; cases h; exact ⟨F.e_NotChild, F.k_NotChild_TooLarge⟩
  rw [if_neg e] at h
  by_cases e : C = "NotRoot"
  · subst e; rw [if_pos rfl] at h; cases h; exact ⟨F.e_NotRoot, F.k_NotRoot_TooLarge⟩
  rw [if_neg e] at h
  by_cases e : C = "Unreachable"
  · subst e; rw [if_pos rfl] at h; cases h; exact ⟨F.e_Unreachable, F.k_Unreachable_TooLarge⟩
  rw [if_neg e] at h
  by_cases e : C = "NothingRemains"
  · subst e; rw [if_pos rfl] at h; cases h; exact ⟨F.e_NothingRemains, F.k_NothingRemains_TooLarge⟩
  rw [if_neg e] at h
  by_cases e : C = "NotRemovable"
  · subst e; rw [if_pos rfl] at h; cases h; exact ⟨F.e_NotRemovable, F.k_NotRemovable_TooLarge⟩
  rw [if_neg e] at h
  by_cases e : C = "NotClearing"
  · subst e; rw [if_pos rfl] at h; cases h; exact ⟨F.e_NotClearing, F.k_NotClearing_TooLarge⟩
  rw [if_neg e] at h
  by_cases e : C = "WouldLoop"
  · subst e; rw [if_pos rfl] at h; cases h; exact ⟨F.e_WouldLoop, F.k_WouldLoop_TooLarge⟩
  rw [if_neg e] at h
  by_cases e : C = "NothingToUndo"
  · subst e; rw [if_pos rfl] at h; cases h; exact ⟨F.e_NothingToUndo, F.k_NothingToUndo_TooLarge⟩
  rw [if_neg e] at h
  cases h
theorem hisa_NotChild (F : Fb K mg cl base) : ∀ (C : Str) (b : Bool), isa_NotChild C = some b → ExcC K (cl C) ∧ PySem.W.kitOne K (.ref (cl C)) (.ref (cl "NotChild")) = some b := by
  intro C b h
  unfold isa_NotChild at h
  by_cases e : C = "InvalidSelection"
  · subst e; rw [if_pos rfl] at h; cases h; exact ⟨F.e_InvalidSelection, F.k_InvalidSelection_NotChild⟩
  rw [if_neg e] at h
  by_cases e : C = "InvalidRun"
  · subst e; rw [if_pos rfl] at h; cases h; exact ⟨F.e_InvalidRun, F.k_InvalidRun_NotChild⟩
  rw [if_neg e] at h
  by_cases e : C = "InvalidLabel"
  · subst e; rw [if_pos rfl] at h; cases h; exact ⟨F.e_InvalidLabel, F.k_InvalidLabel_NotChild⟩
  rw [if_neg e] at h
  by_cases e : C = "InvalidForest"
  · subst e; rw [if_pos rfl] at h; cases h; exact ⟨F.e_InvalidForest, F.k_InvalidForest_NotChild⟩
  rw [if_neg e] at h
  by_cases e : C = "InvalidOrder"
  · subst e; rw [if_pos rfl] at h; cases h; exact ⟨F.e_InvalidOrder, F.k_InvalidOrder_NotChild⟩
  rw [if_neg e] at h
  by_cases e : C = "InvalidTable"
  · subst e; rw [if_pos rfl] at h; cases h; exact ⟨F.e_InvalidTable, F.k_InvalidTable_NotChild⟩
  rw [if_neg e] at h
  by_cases e : C = "InvalidPrices"
  · subst e; rw [if_pos rfl] at h; cases h; exact ⟨F.e_InvalidPrices, F.k_InvalidPrices_NotChild⟩
  rw [if_neg e] at h
  by_cases e : C = "InvalidNumbers"
  · subst e; rw [if_pos rfl] at h; cases h; exact ⟨F.e_InvalidNumbers, F.k_InvalidNumbers_NotChild⟩
  rw [if_neg e] at h
  by_cases e : C = "TooLarge"
  · subst e; rw [if_pos rfl] at h; cases h; exact ⟨F.e_TooLarge, F.k_TooLarge_NotChild⟩
  rw [if_neg e] at h
  by_cases e : C = "InvalidEdit"
  · subst e; rw [if_pos rfl] at h; cases h; exact ⟨F.e_InvalidEdit, F.k_InvalidEdit_NotChild⟩
  rw [if_neg e] at h
  by_cases e : C = "InvalidRank"
  · subst e; rw [if_pos rfl] at h; cases h; exact ⟨F.e_InvalidRank, F.k_InvalidRank_NotChild⟩
  rw [if_neg e] at h
  by_cases e : C = "InvalidText"
  · subst e; rw [if_pos rfl] at h; cases h; exact ⟨F.e_InvalidText, F.k_InvalidText_NotChild⟩
  rw [if_neg e] at h
  by_cases e : C = "NotChild"
  · subst e; rw [if_pos rfl] at h; cases h; exact ⟨F.e_NotChild, F.k_NotChild_NotChild⟩
  rw [if_neg e] at h
  by_cases e : C = "NotRoot"
  · subst e; rw [if_pos rfl] at h; cases h; exact ⟨F.e_NotRoot, F.k_NotRoot_NotChild⟩
  rw [if_neg e] at h
  by_cases e : C = "Unreachable"
  · subst e; rw [if_pos rfl] at h; cases h; exact ⟨F.e_Unreachable, F.k_Unreachable_NotChild⟩
  rw [if_neg e] at h
  by_cases e : C = "NothingRemains"
  · subst e; rw [if_pos rfl] at h; cases h; exact ⟨F.e_NothingRemains, F.k_NothingRemains_NotChild⟩
  rw [if_neg e] at h
  by_cases e : C = "NotRemovable"
  · subst e; rw [if_pos rfl] at h; cases h; exact ⟨F.e_NotRemovable, F.k_NotRemovable_NotChild⟩
  rw [if_neg e] at h
  by_cases e : C = "NotClearing"
  · subst e; rw [if_pos rfl] at h; cases h; exact ⟨F.e_NotClearing, F.k_NotClearing_NotChild⟩
  rw [if_neg e] at h
  by_cases e : C = "WouldLoop"
  · subst e; rw [if_pos rfl] at h; cases h; exact ⟨F.e_WouldLoop, F.k_WouldLoop_NotChild⟩
  rw [if_neg e] at h
  by_cases e : C = "NothingToUndo"
  · subst e; rw [if_pos rfl] at h; cases h; exact ⟨F.e_NothingToUndo, F.k_NothingToUndo_NotChild⟩
  rw [if_neg e] at h
  cases h
theorem hisa_NotRoot (F : Fb K mg cl base) : ∀ (C : Str) (b : Bool), isa_NotRoot C = some b → ExcC K (cl C) ∧ PySem.W.kitOne K (.ref (cl C)) (.ref (cl "NotRoot")) = some b := by
  intro C b h
  unfold isa_NotRoot at h
  by_cases e : C = "InvalidSelection"
  · subst e; rw [if_pos rfl] at h; cases h; exact ⟨F.e_InvalidSelection, F.k_InvalidSelection_NotRoot⟩
  rw [if_neg e] at h
  by_cases e : C = "InvalidRun"
  · subst e; rw [if_pos rfl] at h; cases h; exact ⟨F.e_InvalidRun, F.k_InvalidRun_NotRoot⟩
  rw [if_neg e] at h
  by_cases e : C = "InvalidLabel"
  · subst e; rw [if_pos rfl] at h; cases h; exact ⟨F.e_InvalidLabel, F.k_InvalidLabel_NotRoot⟩
  rw [if_neg e] at h
  by_cases e : C = "InvalidForest"
  · subst e; rw [if_pos rfl] at h; cases h; exact ⟨F.e_InvalidForest, F.k_InvalidForest_NotRoot⟩
  rw [if_neg e] at h
  by_cases e : C = "InvalidOrder"
  · subst e; rw [if_pos rfl] at h; cases h; exact ⟨F.e_InvalidOrder, F.k_InvalidOrder_NotRoot⟩
  rw [if_neg e] at h
  by_cases e : C = "InvalidTable"
  · subst e; rw [if_pos rfl] at h; cases h; exact ⟨F.e_InvalidTable, F.k_InvalidTable_NotRoot⟩
  rw [if_neg e] at h
  by_cases e : C = "InvalidPrices"
  · subst e; rw [if_pos rfl] at h; cases h; exact ⟨F.e_InvalidPrices, F.k_InvalidPrices_NotRoot⟩
  rw [if_neg e] at h
  by_cases e : C = "InvalidNumbers"
  · subst e; rw [if_pos rfl] at h; cases h; exact ⟨F.e_InvalidNumbers, F.k_InvalidNumbers_NotRoot⟩
  rw [if_neg e] at h
  by_cases e : C = "TooLarge"
  · subst e; rw [if_pos rfl] at h; cases h; exact ⟨F.e_TooLarge, F.k_TooLarge_NotRoot⟩
  rw [if_neg e] at h
  by_cases e : C = "InvalidEdit"
  · subst e; rw [if_pos rfl] at h; cases h; exact ⟨F.e_InvalidEdit, F.k_InvalidEdit_NotRoot⟩
  rw [if_neg e] at h
  by_cases e : C = "InvalidRank"
  · subst e; rw [if_pos rfl] at h; cases h; exact ⟨F.e_InvalidRank, F.k_InvalidRank_NotRoot⟩
  rw [if_neg e] at h
  by_cases e : C = "InvalidText"
  · subst e; rw [if_pos rfl] at h; cases h; exact ⟨F.e_InvalidText, F.k_InvalidText_NotRoot⟩
  rw [if_neg e] at h
  by_cases e : C = "NotChild"
  · subst e; rw [if_pos rfl] at h; cases h; exact ⟨F.e_NotChild, F.k_NotChild_NotRoot⟩
  rw [if_neg e] at h
  by_cases e : C = "NotRoot"
  · subst e; rw [if_pos rfl] at h; cases h; exact ⟨F.e_NotRoot, F.k_NotRoot_NotRoot⟩
  rw [if_neg e] at h
  by_cases e : C = "Unreachable"
  · subst e; rw [if_pos rfl] at h; cases h; exact ⟨F.e_Unreachable, F.k_Unreachable_NotRoot⟩
  rw [if_neg e] at h
  by_cases e : C = "NothingRemains"
  · subst e; rw [if_pos rfl] at h; cases h; exact ⟨F.e_NothingRemains, F.k_NothingRemains_NotRoot⟩
  rw [if_neg e] at h
  by_cases e : C = "NotRemovable"
  · subst e; rw [if_pos rfl] at h; cases h; exact ⟨F.e_NotRemovable, F.k_NotRemovable_NotRoot⟩
  rw [if_neg e] at h
  by_cases e : C = "NotClearing"
  · subst e; rw [if_pos rfl] at h; cases h; exact ⟨F.e_NotClearing, F.k_NotClearing_NotRoot⟩
  rw [if_neg e] at h
  by_cases e : C = "WouldLoop"
  · subst e; rw [if_pos rfl] at h; cases h; exact ⟨F.e_WouldLoop, F.k_WouldLoop_NotRoot⟩
  rw [if_neg e] at h
  by_cases e : C = "NothingToUndo"
  · subst e; rw [if_pos rfl] at h; cases h; exact ⟨F.e_NothingToUndo, F.k_NothingToUndo_NotRoot⟩
  rw [if_neg e] at h
  cases h
theorem hisa_Unreachable (F : Fb K mg cl base) : ∀ (C : Str) (b : Bool), isa_Unreachable C = some b → ExcC K (cl C) ∧ PySem.W.kitOne K (.ref (cl C)) (.ref (cl "Unreachable")) = some b := by
  intro C b h
  unfold isa_Unreachable at h
  by_cases e : C = "InvalidSelection"
  · subst e; rw [if_pos rfl] at h; cases h; exact ⟨F.e_InvalidSelection, F.k_InvalidSelection_Unreachable⟩
  rw [if_neg e] at h
  by_cases e : C = "InvalidRun"
  · subst e; rw [if_pos rfl] at h; cases h; exact ⟨F.e_InvalidRun, F.k_InvalidRun_Unreachable⟩
  rw [if_neg e] at h
  by_cases e : C = "InvalidLabel"
  · subst e; rw [if_pos rfl] at h; cases h; exact ⟨F.e_InvalidLabel, F.k_InvalidLabel_Unreachable⟩
  rw [if_neg e] at h
  by_cases e : C = "InvalidForest"
  · subst e; rw [if_pos rfl] at h; cases h; exact ⟨F.e_InvalidForest, F.k_InvalidForest_Unreachable⟩
  rw [if_neg e] at h
  by_cases e : C = "InvalidOrder"
  · subst e; rw [if_pos rfl] at h; cases h; exact ⟨F.e_InvalidOrder, F.k_InvalidOrder_Unreachable⟩
  rw [if_neg e] at h
  by_cases e : C = "InvalidTable"
  · subst e; rw [if_pos rfl] at h; cases h; exact ⟨F.e_InvalidTable, F.k_InvalidTable_Unreachable⟩
  rw [if_neg e] at h
  by_cases e : C = "InvalidPrices"
  · subst e; rw [if_pos rfl] at h; cases h; exact ⟨F.e_InvalidPrices, F.k_InvalidPrices_Unreachable⟩
  rw [if_neg e] at h
  by_cases e : C = "InvalidNumbers"
  · subst e; rw [if_pos rfl] at h; cases h; exact ⟨F.e_InvalidNumbers, F.k_InvalidNumbers_Unreachable⟩
  rw [if_neg e] at h
  by_cases e : C = "TooLarge"
  · subst e; rw [if_pos rfl] at h; cases h; exact ⟨F.e_TooLarge, F.k_TooLarge_Unreachable⟩
  rw [if_neg e] at h
  by_cases e : C = "InvalidEdit"
  · subst e; rw [if_pos rfl] at h; cases h; exact ⟨F.e_InvalidEdit, F.k_InvalidEdit_Unreachable⟩
  rw [if_neg e] at h
  by_cases e : C = "InvalidRank"
  · subst e; rw [if_pos rfl] at h; cases h; exact ⟨F.e_InvalidRank, F.k_InvalidRank_Unreachable⟩
  rw [if_neg e] at h
  by_cases e : C = "InvalidText"
  · subst e; rw [if_pos rfl] at h; cases h; exact ⟨F.e_InvalidText, F.k_InvalidText_Unreachable⟩
  rw [if_neg e] at h
  by_cases e : C = "NotChild"
  · subst e; rw [if_pos rfl] at h; cases h; exact ⟨F.e_NotChild, F.k_NotChild_Unreachable⟩
  rw [if_neg e] at h
  by_cases e : C = "NotRoot"
  · subst e; rw [if_pos rfl] at h; cases h; exact ⟨F.e_NotRoot, F.k_NotRoot_Unreachable⟩
  rw [if_neg e] at h
  by_cases e : C = "Unreachable"
  · subst e; rw [if_pos rfl] at h; cases h; exact ⟨F.e_Unreachable, F.k_Unreachable_Unreachable⟩
  rw [if_neg e] at h
  by_cases e : C = "NothingRemains"
  · subst e; rw [if_pos rfl] at h; cases h; exact ⟨F.e_NothingRemains, F.k_NothingRemains_Unreachable⟩
  rw [if_neg e] at h
  by_cases e : C = "NotRemovable"
  · subst e; rw [if_pos rfl] at h; cases h; exact ⟨F.e_NotRemovable, F.k_NotRemovable_Unreachable⟩
  rw [if_neg e] at h
  by_cases e : C = "NotClearing"
  · subst e; rw [if_pos rfl] at h; cases h; exact ⟨F.e_NotClearing, F.k_NotClearing_Unreachable⟩
  rw [if_neg e] at h
  by_cases e : C = "WouldLoop"
  · subst e; rw [if_pos rfl] at h; cases h; exact ⟨F.e_WouldLoop, F.k_WouldLoop_Unreachable⟩
  rw [if_neg e] at h
  by_cases e : C = "NothingToUndo"
  · subst e; rw [if_pos rfl] at h; cases h; exact ⟨F.e_NothingToUndo, F.k_NothingToUndo_Unreachable⟩
  rw [if_neg e] at h
  cases h
theorem hisa_NothingToUndo (F : Fb K mg cl base) : ∀ (C : Str) (b : Bool), isa_NothingToUndo C = some b → ExcC K (cl C) ∧ PySem.W.kitOne K (.ref (cl C)) (.ref (cl "NothingToUndo")) = some b := by
  intro C b h
  unfold isa_NothingToUndo at h
  by_cases e : C = "InvalidSelection"
  · subst e; rw [if_pos rfl] at h; cases h; exact ⟨F.e_InvalidSelection, F.k_InvalidSelection_NothingToUndo⟩
  rw [if_neg e] at h
  by_cases e : C = "InvalidRun"
  · subst e; rw [if_pos rfl] at h; cases h; exact ⟨F.e_InvalidRun, F.k_InvalidRun_NothingToUndo⟩
  rw [if_neg e] at h
  by_cases e : C = "InvalidLabel"
  · subst e; rw [if_pos rfl] at h; cases h; exact ⟨F.e_InvalidLabel, F.k_InvalidLabel_NothingToUndo⟩
  rw [if_neg e] at h
  by_cases e : C = "InvalidForest"
  · subst e; rw [if_pos rfl] at h; cases h; exact ⟨F.e_InvalidForest, F.k_InvalidForest_NothingToUndo⟩
  rw [if_neg e] at h
  by_cases e : C = "InvalidOrder"
  · subst e; rw [if_pos rfl] at h; cases h; exact ⟨F.e_InvalidOrder, F.k_InvalidOrder_NothingToUndo⟩
  rw [if_neg e] at h
  by_cases e : C = "InvalidTable"
  · subst e; rw [if_pos rfl] at h; cases h; exact ⟨F.e_InvalidTable, F.k_InvalidTable_NothingToUndo⟩
  rw [if_neg e] at h
  by_cases e : C = "InvalidPrices"
  · subst e; rw [if_pos rfl] at h; cases h; exact ⟨F.e_InvalidPrices, F.k_InvalidPrices_NothingToUndo⟩
  rw [if_neg e] at h
  by_cases e : C = "InvalidNumbers"
  · subst e; rw [if_pos rfl] at h; cases h; exact ⟨F.e_InvalidNumbers, F.k_InvalidNumbers_NothingToUndo⟩
  rw [if_neg e] at h
  by_cases e : C = "TooLarge"
  · subst e; rw [if_pos rfl] at h; cases h; exact ⟨F.e_TooLarge, F.k_TooLarge_NothingToUndo⟩
  rw [if_neg e] at h
  by_cases e : C = "InvalidEdit"
  · subst e; rw [if_pos rfl] at h; cases h; exact ⟨F.e_InvalidEdit, F.k_InvalidEdit_NothingToUndo⟩
  rw [if_neg e] at h
  by_cases e : C = "InvalidRank"
  · subst e; rw [if_pos rfl] at h; cases h; exact ⟨F.e_InvalidRank, F.k_InvalidRank_NothingToUndo⟩
  rw [if_neg e] at h
  by_cases e : C = "InvalidText"
  · subst e; rw [if_pos rfl] at h; cases h; exact ⟨F.e_InvalidText, F.k_InvalidText_NothingToUndo⟩
  rw [if_neg e] at h
  by_cases e : C = "NotChild"
  · subst e; rw [if_pos rfl] at h; cases h; exact ⟨F.e_NotChild, F.k_NotChild_NothingToUndo⟩
  rw [if_neg e] at h
  by_cases e : C = "NotRoot"
  · subst e; rw [if_pos rfl] at h; cases h; exact ⟨F.e_NotRoot, F.k_NotRoot_NothingToUndo⟩
  rw [if_neg e] at h
  by_cases e : C = "Unreachable"
  · subst e; rw [if_pos rfl] at h; cases h; exact ⟨F.e_Unreachable, F.k_Unreachable_NothingToUndo⟩
  rw [if_neg e] at h
  by_cases e : C = "NothingRemains"
  · subst e; rw [if_pos rfl] at h; cases h; exact ⟨F.e_NothingRemains, F.k_NothingRemains_NothingToUndo⟩
  rw [if_neg e] at h
  by_cases e : C = "NotRemovable"
  · subst e; rw [if_pos rfl] at h; cases h; exact ⟨F.e_NotRemovable, F.k_NotRemovable_NothingToUndo⟩
  rw [if_neg e] at h
  by_cases e : C = "NotClearing"
  · subst e; rw [if_pos rfl] at h; cases h; exact ⟨F.e_NotClearing, F.k_NotClearing_NothingToUndo⟩
  rw [if_neg e] at h
  by_cases e : C = "WouldLoop"
  · subst e; rw [if_pos rfl] at h; cases h; exact ⟨F.e_WouldLoop, F.k_WouldLoop_NothingToUndo⟩
  rw [if_neg e] at h
  by_cases e : C = "NothingToUndo"
  · subst e; rw [if_pos rfl] at h; cases h; exact ⟨F.e_NothingToUndo, F.k_NothingToUndo_NothingToUndo⟩
  rw [if_neg e] at h
  cases h
theorem hisa_NotClearing (F : Fb K mg cl base) : ∀ (C : Str) (b : Bool), isa_NotClearing C = some b → ExcC K (cl C) ∧ PySem.W.kitOne K (.ref (cl C)) (.ref (cl "NotClearing")) = some b := by
  intro C b h
  unfold isa_NotClearing at h
  by_cases e : C = "InvalidSelection"
  · subst e; rw [if_pos rfl] at h; cases h; exact ⟨F.e_InvalidSelection, F.k_InvalidSelection_NotClearing⟩
  rw [if_neg e] at h
  by_cases e : C = "InvalidRun"
  · subst e; rw [if_pos rfl] at h; cases h; exact ⟨F.e_InvalidRun, F.k_InvalidRun_NotClearing⟩
  rw [if_neg e] at h
  by_cases e : C = "InvalidLabel"
  · subst e; rw [if_pos rfl] at h; cases h; exact ⟨F.e_InvalidLabel, F.k_InvalidLabel_NotClearing⟩
  rw [if_neg e] at h
  by_cases e : C = "InvalidForest"
  · subst e; rw [if_pos rfl] at h; cases h; exact ⟨F.e_InvalidForest, F.k_InvalidForest_NotClearing⟩
  rw [if_neg e] at h
  by_cases e : C = "InvalidOrder"
  · subst e; rw [if_pos rfl] at h; cases h; exact ⟨F.e_InvalidOrder, F.k_InvalidOrder_NotClearing⟩
  rw [if_neg e] at h
  by_cases e : C = "InvalidTable"
  · subst e; rw [if_pos rfl] at h; cases h; exact ⟨F.e_InvalidTable, F.k_InvalidTable_NotClearing⟩
  rw [if_neg e] at h
  by_cases e : C = "InvalidPrices"
  · subst e; rw [if_pos rfl] at h; cases h; exact ⟨F.e_InvalidPrices, F.k_InvalidPrices_NotClearing⟩
  rw [if_neg e] at h
  by_cases e : C = "InvalidNumbers"
  · subst e; rw [if_pos rfl] at h; cases h; exact ⟨F.e_InvalidNumbers, F.k_InvalidNumbers_NotClearing⟩
  rw [if_neg e] at h
  by_cases e : C = "TooLarge"
  · subst e; rw [if_pos rfl] at h; cases h; exact ⟨F.e_TooLarge, F.k_TooLarge_NotClearing⟩
  rw [if_neg e] at h
  by_cases e : C = "InvalidEdit"
  · subst e; rw [if_pos rfl] at h; cases h; exact ⟨F.e_InvalidEdit, F.k_InvalidEdit_NotClearing⟩
  rw [if_neg e] at h
  by_cases e : C = "InvalidRank"
  · subst e; rw [if_pos rfl] at h; cases h; exact ⟨F.e_InvalidRank, F.k_InvalidRank_NotClearing⟩
  rw [if_neg e] at h
  by_cases e : C = "InvalidText"
  · subst e; rw [if_pos rfl] at h; cases h; exact ⟨F.e_InvalidText, F.k_InvalidText_NotClearing⟩
  rw [if_neg e] at h
  by_cases e : C = "NotChild"
  · subst e; rw [if_pos rfl] at h; cases h; exact ⟨F.e_NotChild, F.k_NotChild_NotClearing⟩
  rw [if_neg e] at h
  by_cases e : C = "NotRoot"
  · subst e; rw [if_pos rfl] at h; cases h; exact ⟨F.e_NotRoot, F.k_NotRoot_NotClearing⟩
  rw [if_neg e] at h
  by_cases e : C = "Unreachable"
  · subst e; rw [if_pos rfl] at h; cases h; exact ⟨F.e_Unreachable, F.k_Unreachable_NotClearing⟩
  rw [if_neg e] at h
  by_cases e : C = "NothingRemains"
  · subst e; rw [if_pos rfl] at h; cases h; exact ⟨F.e_NothingRemains, F.k_NothingRemains_NotClearing⟩
  rw [if_neg e] at h
  by_cases e : C = "NotRemovable"
  · subst e; rw [if_pos rfl] at h; cases h; exact ⟨F.e_NotRemovable, F.k_NotRemovable_NotClearing⟩
  rw [if_neg e] at h
  by_cases e : C = "NotClearing"
  · subst e; rw [if_pos rfl] at h; cases h; exact ⟨F.e_NotClearing, F.k_NotClearing_NotClearing⟩
  rw [if_neg e] at h
  by_cases e : C = "WouldLoop"
  · subst e; rw [if_pos rfl] at h; cases h; exact ⟨F.e_WouldLoop, F.k_WouldLoop_NotClearing⟩
  rw [if_neg e] at h
  by_cases e : C = "NothingToUndo"
  · subst e; rw [if_pos rfl] at h; cases h; exact ⟨F.e_NothingToUndo, F.k_NothingToUndo_NotClearing⟩
  rw [if_neg e] at h
  cases h
theorem hisa_WouldLoop (F : Fb K mg cl base) : ∀ (C : Str) (b : Bool), isa_WouldLoop C = some b → ExcC K (cl C) ∧ PySem.W.kitOne K (.ref (cl C)) (.ref (cl "WouldLoop")) = some b := by
  intro C b h
  unfold isa_WouldLoop at h
  by_cases e : C = "InvalidSelection"
  · subst e; rw [if_pos rfl] at h; cases h; exact ⟨F.e_InvalidSelection, F.k_InvalidSelection_WouldLoop⟩
  rw [if_neg e] at h
  by_cases e : C = "InvalidRun"
  · subst e; rw [if_pos rfl] at h; cases h; exact ⟨F.e_InvalidRun, F.k_InvalidRun_WouldLoop⟩
  rw [if_neg e] at h
  by_cases e : C = "InvalidLabel"
  · subst e; rw [if_pos rfl] at h; cases h; exact ⟨F.e_InvalidLabel, F.k_InvalidLabel_WouldLoop⟩
  rw [if_neg e] at h
  by_cases e : C = "InvalidForest"
  · subst e; rw [if_pos rfl] at h; cases h; exact ⟨F.e_InvalidForest, F.k_InvalidForest_WouldLoop⟩
  rw [if_neg e] at h
  by_cases e : C = "InvalidOrder"
  · subst e; rw [if_pos rfl] at h; cases h; exact ⟨F.e_InvalidOrder, F.k_InvalidOrder_WouldLoop⟩
  rw [if_neg e] at h
  by_cases e : C = "InvalidTable"
  · subst e; rw [if_pos rfl] at h; cases h; exact ⟨F.e_InvalidTable, F.k_InvalidTable_WouldLoop⟩
  rw [if_neg e] at h
  by_cases e : C = "InvalidPrices"
  · subst e; rw [if_pos rfl] at h; cases h; exact ⟨F.e_InvalidPrices, F.k_InvalidPrices_WouldLoop⟩
  rw [if_neg e] at h
  by_cases e : C = "InvalidNumbers"
  · subst e; rw [if_pos rfl] at h; cases h; exact ⟨F.e_InvalidNumbers, F.k_InvalidNumbers_WouldLoop⟩
  rw [if_neg e] at h
  by_cases e : C = "TooLarge"
  · subst e; rw [if_pos rfl] at h; cases h; exact ⟨F.e_TooLarge, F.k_TooLarge_WouldLoop⟩
  rw [if_neg e] at h
  by_cases e : C = "InvalidEdit"
  · subst e; rw [if_pos rfl] at h; cases h; exact ⟨F.e_InvalidEdit, F.k_InvalidEdit_WouldLoop⟩
  rw [if_neg e] at h
  by_cases e : C = "InvalidRank"
  · subst e; rw [if_pos rfl] at h; cases h; exact ⟨F.e_InvalidRank, F.k_InvalidRank_WouldLoop⟩
  rw [if_neg e] at h
  by_cases e : C = "InvalidText"
  · subst e; rw [if_pos rfl] at h; cases h; exact ⟨F.e_InvalidText, F.k_InvalidText_WouldLoop⟩
  rw [if_neg e] at h
  by_cases e : C = "NotChild"
  · subst e; rw [if_pos rfl] at h; cases h; exact ⟨F.e_NotChild, F.k_NotChild_WouldLoop⟩
  rw [if_neg e] at h
  by_cases e : C = "NotRoot"
  · subst e; rw [if_pos rfl] at h; cases h; exact ⟨F.e_NotRoot, F.k_NotRoot_WouldLoop⟩
  rw [if_neg e] at h
  by_cases e : C = "Unreachable"
  · subst e; rw [if_pos rfl] at h; cases h; exact ⟨F.e_Unreachable, F.k_Unreachable_WouldLoop⟩
  rw [if_neg e] at h
  by_cases e : C = "NothingRemains"
  · subst e; rw [if_pos rfl] at h; cases h; exact ⟨F.e_NothingRemains, F.k_NothingRemains_WouldLoop⟩
  rw [if_neg e] at h
  by_cases e : C = "NotRemovable"
  · subst e; rw [if_pos rfl] at h; cases h; exact ⟨F.e_NotRemovable, F.k_NotRemovable_WouldLoop⟩
  rw [if_neg e] at h
  by_cases e : C = "NotClearing"
  · subst e; rw [if_pos rfl] at h; cases h; exact ⟨F.e_NotClearing, F.k_NotClearing_WouldLoop⟩
  rw [if_neg e] at h
  by_cases e : C = "WouldLoop"
  · subst e; rw [if_pos rfl] at h; cases h; exact ⟨F.e_WouldLoop, F.k_WouldLoop_WouldLoop⟩
  rw [if_neg e] at h
  by_cases e : C = "NothingToUndo"
  · subst e; rw [if_pos rfl] at h; cases h; exact ⟨F.e_NothingToUndo, F.k_NothingToUndo_WouldLoop⟩
  rw [if_neg e] at h
  cases h
theorem hisa_DialLookupError (F : Fb K mg cl base) : ∀ (C : Str) (b : Bool), isa_DialLookupError C = some b → ExcC K (cl C) ∧ PySem.W.kitOne K (.ref (cl C)) (.ref (cl "DialLookupError")) = some b := by
  intro C b h
  unfold isa_DialLookupError at h
  by_cases e : C = "InvalidSelection"
  · subst e; rw [if_pos rfl] at h; cases h; exact ⟨F.e_InvalidSelection, F.k_InvalidSelection_DialLookupError⟩
  rw [if_neg e] at h
  by_cases e : C = "InvalidRun"
  · subst e; rw [if_pos rfl] at h; cases h; exact ⟨F.e_InvalidRun, F.k_InvalidRun_DialLookupError⟩
  rw [if_neg e] at h
  by_cases e : C = "InvalidLabel"
  · subst e; rw [if_pos rfl] at h; cases h; exact ⟨F.e_InvalidLabel, F.k_InvalidLabel_DialLookupError⟩
  rw [if_neg e] at h
  by_cases e : C = "InvalidForest"
  · subst e; rw [if_pos rfl] at h; cases h; exact ⟨F.e_InvalidForest, F.k_InvalidForest_DialLookupError⟩
  rw [if_neg e] at h
  by_cases e : C = "InvalidOrder"
  · subst e; rw [if_pos rfl] at h; cases h; exact ⟨F.e_InvalidOrder, F.k_InvalidOrder_DialLookupError⟩
  rw [if_neg e] at h
  by_cases e : C = "InvalidTable"
  · subst e; rw [if_pos rfl] at h; cases h; exact ⟨F.e_InvalidTable, F.k_InvalidTable_DialLookupError⟩
  rw [if_neg e] at h
  by_cases e : C = "InvalidPrices"
  · subst e; rw [if_pos rfl] at h; cases h; exact ⟨F.e_InvalidPrices, F.k_InvalidPrices_DialLookupError⟩
  rw [if_neg e] at h
  by_cases e : C = "InvalidNumbers"
  · subst e; rw [if_pos rfl] at h; cases h; exact ⟨F.e_InvalidNumbers, F.k_InvalidNumbers_DialLookupError⟩
  rw [if_neg e] at h
  by_cases e : C = "TooLarge"
  · subst e; rw [if_pos rfl] at h; cases h; exact ⟨F.e_TooLarge, F.k_TooLarge_DialLookupError⟩
  rw [if_neg e] at h
  by_cases e : C = "InvalidEdit"
  · subst e; rw [if_pos rfl] at h; cases h; exact ⟨F.e_InvalidEdit, F.k_InvalidEdit_DialLookupError⟩
  rw [if_neg e] at h
  by_cases e : C = "InvalidRank"
  · subst e; rw [if_pos rfl] at h; cases h; exact ⟨F.e_InvalidRank, F.k_InvalidRank_DialLookupError⟩
  rw [if_neg e] at h
  by_cases e : C = "InvalidText"
  · subst e; rw [if_pos rfl] at h; cases h; exact ⟨F.e_InvalidText, F.k_InvalidText_DialLookupError⟩
  rw [if_neg e] at h
  by_cases e : C = "NotChild"
  · subst e; rw [if_pos rfl] at h; cases h; exact ⟨F.e_NotChild, F.k_NotChild_DialLookupError⟩
  rw [if_neg e] at h
  by_cases e : C = "NotRoot"
  · subst e; rw [if_pos rfl] at h; cases h; exact ⟨F.e_NotRoot, F.k_NotRoot_DialLookupError⟩
  rw [if_neg e] at h
  by_cases e : C = "Unreachable"
  · subst e; rw [if_pos rfl] at h; cases h; exact ⟨F.e_Unreachable, F.k_Unreachable_DialLookupError⟩
  rw [if_neg e] at h
  by_cases e : C = "NothingRemains"
  · subst e; rw [if_pos rfl] at h; cases h; exact ⟨F.e_NothingRemains, F.k_NothingRemains_DialLookupError⟩
  rw [if_neg e] at h
  by_cases e : C = "NotRemovable"
  · subst e; rw [if_pos rfl] at h; cases h; exact ⟨F.e_NotRemovable, F.k_NotRemovable_DialLookupError⟩
  rw [if_neg e] at h
  by_cases e : C = "NotClearing"
  · subst e; rw [if_pos rfl] at h; cases h; exact ⟨F.e_NotClearing, F.k_NotClearing_DialLookupError⟩
  rw [if_neg e] at h
  by_cases e : C = "WouldLoop"
  · subst e; rw [if_pos rfl] at h; cases h; exact ⟨F.e_WouldLoop, F.k_WouldLoop_DialLookupError⟩
  rw [if_neg e] at h
  by_cases e : C = "NothingToUndo"
  · subst e; rw [if_pos rfl] at h; cases h; exact ⟨F.e_NothingToUndo, F.k_NothingToUndo_DialLookupError⟩
  rw [if_neg e] at h
  cases h
theorem hisa_DialStateError (F : Fb K mg cl base) : ∀ (C : Str) (b : Bool), isa_DialStateError C = some b → ExcC K (cl C) ∧ PySem.W.kitOne K (.ref (cl C)) (.ref (cl "DialStateError")) = some b := by
  intro C b h
  unfold isa_DialStateError at h
  by_cases e : C = "InvalidSelection"
  · subst e; rw [if_pos rfl] at h; cases h; exact ⟨F.e_InvalidSelection, F.k_InvalidSelection_DialStateError⟩
  rw [if_neg e] at h
  by_cases e : C = "InvalidRun"
  · subst e; rw [if_pos rfl] at h; cases h; exact ⟨F.e_InvalidRun, F.k_InvalidRun_DialStateError⟩
  rw [if_neg e] at h
  by_cases e : C = "InvalidLabel"
  · subst e; rw [if_pos rfl] at h; cases h; exact ⟨F.e_InvalidLabel, F.k_InvalidLabel_DialStateError⟩
  rw [if_neg e] at h
  by_cases e : C = "InvalidForest"
  · subst e; rw [if_pos rfl] at h; cases h; exact ⟨F.e_InvalidForest, F.k_InvalidForest_DialStateError⟩
  rw [if_neg e] at h
  by_cases e : C = "InvalidOrder"
  · subst e; rw [if_pos rfl] at h; cases h; exact ⟨F.e_InvalidOrder, F.k_InvalidOrder_DialStateError⟩
  rw [if_neg e] at h
  by_cases e : C = "InvalidTable"
  · subst e; rw [if_pos rfl] at h; cases h; exact ⟨F.e_InvalidTable, F.k_InvalidTable_DialStateError⟩
  rw [if_neg e] at h
  by_cases e : C = "InvalidPrices"
  · subst e; rw [if_pos rfl] at h; cases h; exact ⟨F.e_InvalidPrices, F.k_InvalidPrices_DialStateError⟩
  rw [if_neg e] at h
  by_cases e : C = "InvalidNumbers"
  · subst e; rw [if_pos rfl] at h; cases h; exact ⟨F.e_InvalidNumbers, F.k_InvalidNumbers_DialStateError⟩
  rw [if_neg e] at h
  by_cases e : C = "TooLarge"
  · subst e; rw [if_pos rfl] at h; cases h; exact ⟨F.e_TooLarge, F.k_TooLarge_DialStateError⟩
  rw [if_neg e] at h
  by_cases e : C = "InvalidEdit"
  · subst e; rw [if_pos rfl] at h; cases h; exact ⟨F.e_InvalidEdit, F.k_InvalidEdit_DialStateError⟩
  rw [if_neg e] at h
  by_cases e : C = "InvalidRank"
  · subst e; rw [if_pos rfl] at h; cases h; exact ⟨F.e_InvalidRank, F.k_InvalidRank_DialStateError⟩
  rw [if_neg e] at h
  by_cases e : C = "InvalidText"
  · subst e; rw [if_pos rfl] at h; cases h; exact ⟨F.e_InvalidText, F.k_InvalidText_DialStateError⟩
  rw [if_neg e] at h
  by_cases e : C = "NotChild"
  · subst e; rw [if_pos rfl] at h; cases h; exact ⟨F.e_NotChild, F.k_NotChild_DialStateError⟩
  rw [if_neg e] at h
  by_cases e : C = "NotRoot"
  · subst e; rw [if_pos rfl] at h; cases h; exact ⟨F.e_NotRoot, F.k_NotRoot_DialStateError⟩
  rw [if_neg e] at h
  by_cases e : C = "Unreachable"
  · subst e; rw [if_pos rfl] at h; cases h; exact ⟨F.e_Unreachable, F.k_Unreachable_DialStateError⟩
  rw [if_neg e] at h
  by_cases e : C = "NothingRemains"
  · subst e; rw [if_pos rfl] at h; cases h; exact ⟨F.e_NothingRemains, F.k_NothingRemains_DialStateError⟩
  rw [if_neg e] at h
  by_cases e : C = "NotRemovable"
  · subst e; rw [if_pos rfl] at h; cases h; exact ⟨F.e_NotRemovable, F.k_NotRemovable_DialStateError⟩
  rw [if_neg e] at h
  by_cases e : C = "NotClearing"
  · subst e; rw [if_pos rfl] at h; cases h; exact ⟨F.e_NotClearing, F.k_NotClearing_DialStateError⟩
  rw [if_neg e] at h
  by_cases e : C = "WouldLoop"
  · subst e; rw [if_pos rfl] at h; cases h; exact ⟨F.e_WouldLoop, F.k_WouldLoop_DialStateError⟩
  rw [if_neg e] at h
  by_cases e : C = "NothingToUndo"
  · subst e; rw [if_pos rfl] at h; cases h; exact ⟨F.e_NothingToUndo, F.k_NothingToUndo_DialStateError⟩
  rw [if_neg e] at h
  cases h
theorem hisa_DialError (F : Fb K mg cl base) : ∀ (C : Str) (b : Bool), isa_DialError C = some b → ExcC K (cl C) ∧ PySem.W.kitOne K (.ref (cl C)) (.ref (cl "DialError")) = some b := by
  intro C b h
  unfold isa_DialError at h
  by_cases e : C = "InvalidSelection"
  · subst e; rw [if_pos rfl] at h; cases h; exact ⟨F.e_InvalidSelection, F.k_InvalidSelection_DialError⟩
  rw [if_neg e] at h
  by_cases e : C = "InvalidRun"
  · subst e; rw [if_pos rfl] at h; cases h; exact ⟨F.e_InvalidRun, F.k_InvalidRun_DialError⟩
  rw [if_neg e] at h
  by_cases e : C = "InvalidLabel"
  · subst e; rw [if_pos rfl] at h; cases h; exact ⟨F.e_InvalidLabel, F.k_InvalidLabel_DialError⟩
  rw [if_neg e] at h
  by_cases e : C = "InvalidForest"
  · subst e; rw [if_pos rfl] at h; cases h; exact ⟨F.e_InvalidForest, F.k_InvalidForest_DialError⟩
  rw [if_neg e] at h
  by_cases e : C = "InvalidOrder"
  · subst e; rw [if_pos rfl] at h; cases h; exact ⟨F.e_InvalidOrder, F.k_InvalidOrder_DialError⟩
  rw [if_neg e] at h
  by_cases e : C = "InvalidTable"
  · subst e; rw [if_pos rfl] at h; cases h; exact ⟨F.e_InvalidTable, F.k_InvalidTable_DialError⟩
  rw [if_neg e] at h
  by_cases e : C = "InvalidPrices"
  · subst e; rw [if_pos rfl] at h; cases h; exact ⟨F.e_InvalidPrices, F.k_InvalidPrices_DialError⟩
  rw [if_neg e] at h
  by_cases e : C = "InvalidNumbers"
  · subst e; rw [if_pos rfl] at h; cases h; exact ⟨F.e_InvalidNumbers, F.k_InvalidNumbers_DialError⟩
  rw [if_neg e] at h
  by_cases e : C = "TooLarge"
  · subst e; rw [if_pos rfl] at h; cases h; exact ⟨F.e_TooLarge, F.k_TooLarge_DialError⟩
  rw [if_neg e] at h
  by_cases e : C = "InvalidEdit"
  · subst e; rw [if_pos rfl] at h; cases h; exact ⟨F.e_InvalidEdit, F.k_InvalidEdit_DialError⟩
  rw [if_neg e] at h
  by_cases e : C = "InvalidRank"
  · subst e; rw [if_pos rfl] at h; cases h; exact ⟨F.e_InvalidRank, F.k_InvalidRank_DialError⟩
  rw [if_neg e] at h
  by_cases e : C = "InvalidText"
  · subst e; rw [if_pos rfl] at h; cases h; exact ⟨F.e_InvalidText, F.k_InvalidText_DialError⟩
  rw [if_neg e] at h
  by_cases e : C = "NotChild"
  · subst e; rw [if_pos rfl] at h; cases h; exact ⟨F.e_NotChild, F.k_NotChild_DialError⟩
  rw [if_neg e] at h
  by_cases e : C = "NotRoot"
  · subst e; rw [if_pos rfl] at h; cases h; exact ⟨F.e_NotRoot, F.k_NotRoot_DialError⟩
  rw [if_neg e] at h
  by_cases e : C = "Unreachable"
  · subst e; rw [if_pos rfl] at h; cases h; exact ⟨F.e_Unreachable, F.k_Unreachable_DialError⟩
  rw [if_neg e] at h
  by_cases e : C = "NothingRemains"
  · subst e; rw [if_pos rfl] at h; cases h; exact ⟨F.e_NothingRemains, F.k_NothingRemains_DialError⟩
  rw [if_neg e] at h
  by_cases e : C = "NotRemovable"
  · subst e; rw [if_pos rfl] at h; cases h; exact ⟨F.e_NotRemovable, F.k_NotRemovable_DialError⟩
  rw [if_neg e] at h
  by_cases e : C = "NotClearing"
  · subst e; rw [if_pos rfl] at h; cases h; exact ⟨F.e_NotClearing, F.k_NotClearing_DialError⟩
  rw [if_neg e] at h
  by_cases e : C = "WouldLoop"
  · subst e; rw [if_pos rfl] at h; cases h; exact ⟨F.e_WouldLoop, F.k_WouldLoop_DialError⟩
  rw [if_neg e] at h
  by_cases e : C = "NothingToUndo"
  · subst e; rw [if_pos rfl] at h; cases h; exact ⟨F.e_NothingToUndo, F.k_NothingToUndo_DialError⟩
  rw [if_neg e] at h
  cases h
theorem hisa_LookupError (F : Fb K mg cl base) : ∀ (C : Str) (b : Bool), isa_LookupError C = some b → ExcC K (cl C) ∧ PySem.W.kitOne K (.ref (cl C)) (.type "LookupError") = some b := by
  intro C b h
  unfold isa_LookupError at h
  by_cases e : C = "InvalidSelection"
  · subst e; rw [if_pos rfl] at h; cases h; exact ⟨F.e_InvalidSelection, F.k_InvalidSelection_LookupError⟩
  rw [if_neg e] at h
  by_cases e : C = "InvalidRun"
  · subst e; rw [if_pos rfl] at h; cases h; exact ⟨F.e_InvalidRun, F.k_InvalidRun_LookupError⟩
  rw [if_neg e] at h
  by_cases e : C = "InvalidLabel"
  · subst e; rw [if_pos rfl] at h; cases h; exact ⟨F.e_InvalidLabel, F.k_InvalidLabel_LookupError⟩
  rw [if_neg e] at h
  by_cases e : C = "InvalidForest"
  · subst e; rw [if_pos rfl] at h; cases h; exact ⟨F.e_InvalidForest, F.k_InvalidForest_LookupError⟩
  rw [if_neg e] at h
  by_cases e : C = "InvalidOrder"
  · subst e; rw [if_pos rfl] at h; cases h; exact ⟨F.e_InvalidOrder, F.k_InvalidOrder_LookupError⟩
  rw [if_neg e] at h
  by_cases e : C = "InvalidTable"
  · subst e; rw [if_pos rfl] at h; cases h; exact ⟨F.e_InvalidTable, F.k_InvalidTable_LookupError⟩
  rw [if_neg e] at h
  by_cases e : C = "InvalidPrices"
  · subst e; rw [if_pos rfl] at h; cases h; exact ⟨F.e_InvalidPrices, F.k_InvalidPrices_LookupError⟩
  rw [if_neg e] at h
  by_cases e : C = "InvalidNumbers"
  · subst e; rw [if_pos rfl] at h; cases h; exact ⟨F.e_InvalidNumbers, F.k_InvalidNumbers_LookupError⟩
  rw [if_neg e] at h
  by_cases e : C = "TooLarge"
  · subst e; rw [if_pos rfl] at h; cases h; exact ⟨F.e_TooLarge, F.k_TooLarge_LookupError⟩
  rw [if_neg e] at h
  by_cases e : C = "InvalidEdit"
  · subst e; rw [if_pos rfl] at h; cases h; exact ⟨F.e_InvalidEdit, F.k_InvalidEdit_LookupError⟩
  rw [if_neg e] at h
  by_cases e : C = "InvalidRank"
  · subst e; rw [if_pos rfl] at h; cases h; exact ⟨F.e_InvalidRank, F.k_InvalidRank_LookupError⟩
  rw [if_neg e] at h
  by_cases e : C = "InvalidText"
  · subst e; rw [if_pos rfl] at h; cases h; exact ⟨F.e_InvalidText, F.k_InvalidText_LookupError⟩
  rw [if_neg e] at h
  by_cases e : C = "NotChild"
  · subst e; rw [if_pos rfl] at h; cases h; exact ⟨F.e_NotChild, F.k_NotChild_LookupError⟩
  rw [if_neg e] at h
  by_cases e : C = "NotRoot"
  · subst e; rw [if_pos rfl] at h; cases h; exact ⟨F.e_NotRoot, F.k_NotRoot_LookupError⟩
  rw [if_neg e] at h
  by_cases e : C = "Unreachable"
  · subst e; rw [if_pos rfl] at h; cases h; exact ⟨F.e_Unreachable, F.k_Unreachable_LookupError⟩
  rw [if_neg e] at h
  by_cases e : C = "NothingRemains"
  · subst e; rw [if_pos rfl] at h; cases h; exact ⟨F.e_NothingRemains, F.k_NothingRemains_LookupError⟩
  rw [if_neg e] at h
  by_cases e : C = "NotRemovable"
  · subst e; rw [if_pos rfl] at h; cases h; exact ⟨F.e_NotRemovable, F.k_NotRemovable_LookupError⟩
  rw [if_neg e] at h
  by_cases e : C = "NotClearing"
  · subst e; rw [if_pos rfl] at h; cases h; exact ⟨F.e_NotClearing, F.k_NotClearing_LookupError⟩
  rw [if_neg e] at h
  by_cases e : C = "WouldLoop"
  · subst e; rw [if_pos rfl] at h; cases h; exact ⟨F.e_WouldLoop, F.k_WouldLoop_LookupError⟩
  rw [if_neg e] at h
  by_cases e : C = "NothingToUndo"
  · subst e; rw [if_pos rfl] at h; cases h; exact ⟨F.e_NothingToUndo, F.k_NothingToUndo_LookupError⟩
  rw [if_neg e] at h
  cases h
theorem hisa_RuntimeError (F : Fb K mg cl base) : ∀ (C : Str) (b : Bool), isa_RuntimeError C = some b → ExcC K (cl C) ∧ PySem.W.kitOne K (.ref (cl C)) (.type "RuntimeError") = some b := by
  intro C b h
  unfold isa_RuntimeError at h
  by_cases e : C = "InvalidSelection"
  · subst e; rw [if_pos rfl] at h; cases h; exact ⟨F.e_InvalidSelection, F.k_InvalidSelection_RuntimeError⟩
  rw [if_neg e] at h
  by_cases e : C = "InvalidRun"
  · subst e; rw [if_pos rfl] at h; cases h; exact ⟨F.e_InvalidRun, F.k_InvalidRun_RuntimeError⟩
  rw [if_neg e] at h
  by_cases e : C = "InvalidLabel"
  · subst e; rw [if_pos rfl] at h; cases h; exact ⟨F.e_InvalidLabel, F.k_InvalidLabel_RuntimeError⟩
  rw [if_neg e] at h
  by_cases e : C = "InvalidForest"
  · subst e; rw [if_pos rfl] at h; cases h; exact ⟨F.e_InvalidForest, F.k_InvalidForest_RuntimeError⟩
  rw [if_neg e] at h
  by_cases e : C = "InvalidOrder"
  · subst e; rw [if_pos rfl] at h; cases h; exact ⟨F.e_InvalidOrder, F.k_InvalidOrder_RuntimeError⟩
  rw [if_neg e] at h
  by_cases e : C = "InvalidTable"
  · subst e; rw [if_pos rfl] at h; cases h; exact ⟨F.e_InvalidTable, F.k_InvalidTable_RuntimeError⟩
  rw [if_neg e] at h
  by_cases e : C = "InvalidPrices"
  · subst e; rw [if_pos rfl] at h; cases h; exact ⟨F.e_InvalidPrices, F.k_InvalidPrices_RuntimeError⟩
  rw [if_neg e] at h
  by_cases e : C = "InvalidNumbers"
  · subst e; rw [if_pos rfl] at h; cases h; exact ⟨F.e_InvalidNumbers, F.k_InvalidNumbers_RuntimeError⟩
  rw [if_neg e] at h
  by_cases e : C = "TooLarge"
  · subst e; rw [if_pos rfl] at h; cases h; exact ⟨F.e_TooLarge, F.k_TooLarge_RuntimeError⟩
  rw [if_neg e] at h
  by_cases e : C = "InvalidEdit"
  · subst e; rw [if_pos rfl] at h; cases h; exact ⟨F.e_InvalidEdit, F.k_InvalidEdit_RuntimeError⟩
  rw [if_neg e] at h
  by_cases e : C = "InvalidRank"
  · subst e; rw [if_pos rfl] at h; cases h; exact ⟨F.e_InvalidRank, F.k_InvalidRank_RuntimeError⟩
  rw [if_neg e] at h
  by_cases e : C = "InvalidText"
  · subst e; rw [if_pos rfl] at h; cases h; exact ⟨F.e_InvalidText, F.k_InvalidText_RuntimeError⟩
  rw [if_neg e] at h
  by_cases e : C = "NotChild"
  · subst e; rw [if_pos rfl] at h; cases h; exact ⟨F.e_NotChild, F.k_NotChild_RuntimeError⟩
  rw [if_neg e] at h
  by_cases e : C = "NotRoot"
  · subst e; rw [if_pos rfl] at h; cases h; exact ⟨F.e_NotRoot, F.k_NotRoot_RuntimeError⟩
  rw [if_neg e] at h
  by_cases e : C = "Unreachable"
  · subst e; rw [if_pos rfl] at h; cases h; exact ⟨F.e_Unreachable, F.k_Unreachable_RuntimeError⟩
  rw [if_neg e] at h
  by_cases e : C = "NothingRemains"
  · subst e; rw [if_pos rfl] at h; cases h; exact ⟨F.e_NothingRemains, F.k_NothingRemains_RuntimeError⟩
  rw [if_neg e] at h
  by_cases e : C = "NotRemovable"
  · subst e; rw [if_pos rfl] at h; cases h; exact ⟨F.e_NotRemovable, F.k_NotRemovable_RuntimeError⟩
  rw [if_neg e] at h
  by_cases e : C = "NotClearing"
  · subst e; rw [if_pos rfl] at h; cases h; exact ⟨F.e_NotClearing, F.k_NotClearing_RuntimeError⟩
  rw [if_neg e] at h
  by_cases e : C = "WouldLoop"
  · subst e; rw [if_pos rfl] at h; cases h; exact ⟨F.e_WouldLoop, F.k_WouldLoop_RuntimeError⟩
  rw [if_neg e] at h
  by_cases e : C = "NothingToUndo"
  · subst e; rw [if_pos rfl] at h; cases h; exact ⟨F.e_NothingToUndo, F.k_NothingToUndo_RuntimeError⟩
  rw [if_neg e] at h
  cases h
theorem hisa_ValueError (F : Fb K mg cl base) : ∀ (C : Str) (b : Bool), isa_ValueError C = some b → ExcC K (cl C) ∧ PySem.W.kitOne K (.ref (cl C)) (.type "ValueError") = some b := by
  intro C b h
  unfold isa_ValueError at h
  by_cases e : C = "InvalidSelection"
  · subst e; rw [if_pos rfl] at h; cases h; exact ⟨F.e_InvalidSelection, F.k_InvalidSelection_ValueError⟩
  rw [if_neg e] at h
  by_cases e : C = "InvalidRun"
  · subst e; rw [if_pos rfl] at h; cases h; exact ⟨F.e_InvalidRun, F.k_InvalidRun_ValueError⟩
  rw [if_neg e] at h
  by_cases e : C = "InvalidLabel"
  · subst e; rw [if_pos rfl] at h; cases h; exact ⟨F.e_InvalidLabel, F.k_InvalidLabel_ValueError⟩
  rw [if_neg e] at h
  by_cases e : C = "InvalidForest"
  · subst e; rw [if_pos rfl] at h; cases h; exact ⟨F.e_InvalidForest, F.k_InvalidForest_ValueError⟩
  rw [if_neg e] at h
  by_cases e : C = "InvalidOrder"
  · subst e; rw [if_pos rfl] at h; cases h; exact ⟨F.e_InvalidOrder, F.k_InvalidOrder_ValueError⟩
  rw [if_neg e] at h
  by_cases e : C = "InvalidTable"
  · subst e; rw [if_pos rfl] at h; cases h; exact ⟨F.e_InvalidTable, F.k_InvalidTable_ValueError⟩
  rw [if_neg e] at h
  by_cases e : C = "InvalidPrices"
  · subst e; rw [if_pos rfl] at h; cases h; exact ⟨F.e_InvalidPrices, F.k_InvalidPrices_ValueError⟩
  rw [if_neg e] at h
  by_cases e : C = "InvalidNumbers"
  · subst e; rw [if_pos rfl] at h; cases h; exact ⟨F.e_InvalidNumbers, F.k_InvalidNumbers_ValueError⟩
  rw [if_neg e] at h
  by_cases e : C = "TooLarge"
  · subst e; rw [if_pos rfl] at h; cases h; exact ⟨F.e_TooLarge, F.k_TooLarge_ValueError⟩
  rw [if_neg e] at h
  by_cases e : C = "InvalidEdit"
  · subst e; rw [if_pos rfl] at h; cases h; exact ⟨F.e_InvalidEdit, F.k_InvalidEdit_ValueError⟩
  rw [if_neg e] at h
  by_cases e : C = "InvalidRank"
  · subst e; rw [if_pos rfl] at h; cases h; exact ⟨F.e_InvalidRank, F.k_InvalidRank_ValueError⟩
  rw [if_neg e] at h
  by_cases e : C = "InvalidText"
  · subst e; rw [if_pos rfl] at h; cases h; exact ⟨F.e_InvalidText, F.k_InvalidText_ValueError⟩
  rw [if_neg e] at h
  by_cases e : C = "NotChild"
  · subst e; rw [if_pos rfl] at h; cases h; exact ⟨F.e_NotChild, F.k_NotChild_ValueError⟩
  rw [if_neg e] at h
  by_cases e : C = "NotRoot"
  · subst e; rw [if_pos rfl] at h; cases h; exact ⟨F.e_NotRoot, F.k_NotRoot_ValueError⟩
  rw [if_neg e] at h
  by_cases e : C = "Unreachable"
  · subst e; rw [if_pos rfl] at h; cases h; exact ⟨F.e_Unreachable, F.k_Unreachable_ValueError⟩
  rw [if_neg e] at h
  by_cases e : C = "NothingRemains"
  · subst e; rw [if_pos rfl] at h; cases h; exact ⟨F.e_NothingRemains, F.k_NothingRemains_ValueError⟩
  rw [if_neg e] at h
  by_cases e : C = "NotRemovable"
  · subst e; rw [if_pos rfl] at h; cases h; exact ⟨F.e_NotRemovable, F.k_NotRemovable_ValueError⟩
  rw [if_neg e] at h
  by_cases e : C = "NotClearing"
  · subst e; rw [if_pos rfl] at h; cases h; exact ⟨F.e_NotClearing, F.k_NotClearing_ValueError⟩
  rw [if_neg e] at h
  by_cases e : C = "WouldLoop"
  · subst e; rw [if_pos rfl] at h; cases h; exact ⟨F.e_WouldLoop, F.k_WouldLoop_ValueError⟩
  rw [if_neg e] at h
  by_cases e : C = "NothingToUndo"
  · subst e; rw [if_pos rfl] at h; cases h; exact ⟨F.e_NothingToUndo, F.k_NothingToUndo_ValueError⟩
  rw [if_neg e] at h
  cases h
theorem hisf_path (F : Fb K mg cl base) : ∀ C : Str, isf_path C = true → XfC K (cl C) ∧ PySem.W.findIn K (.ref (cl C)) "path" = some none := by
  intro C h
  unfold isf_path at h
  by_cases e : C = "InvalidForest"
  · subst e; exact ⟨F.x_InvalidForest.xf, F.x_InvalidForest.nof⟩
  rw [if_neg e] at h
  by_cases e : C = "InvalidPrices"
  · subst e; exact ⟨F.x_InvalidPrices.xf, F.x_InvalidPrices.nof⟩
  rw [if_neg e] at h
  by_cases e : C = "InvalidNumbers"
  · subst e; exact ⟨F.x_InvalidNumbers.xf, F.x_InvalidNumbers.nof⟩
  rw [if_neg e] at h
  by_cases e : C = "InvalidEdit"
  · subst e; exact ⟨F.x_InvalidEdit.xf, F.x_InvalidEdit.nof⟩
  rw [if_neg e] at h
  cases h
theorem hisf_name (F : Fb K mg cl base) : ∀ C : Str, isf_name C = true → XfC K (cl C) ∧ PySem.W.findIn K (.ref (cl C)) "name" = some none := by
  intro C h
  unfold isf_name at h
  by_cases e : C = "InvalidSelection"
  · subst e; exact ⟨F.x_InvalidSelection.xf, F.x_InvalidSelection.nof⟩
  rw [if_neg e] at h
  cases h
theorem hisf_position (F : Fb K mg cl base) : ∀ C : Str, isf_position C = true → XfC K (cl C) ∧ PySem.W.findIn K (.ref (cl C)) "position" = some none := by
  intro C h
  unfold isf_position at h
  by_cases e : C = "InvalidRun"
  · subst e; exact ⟨F.x_InvalidRun.xf, F.x_InvalidRun.nof⟩
  rw [if_neg e] at h
  cases h
theorem hisf_label (F : Fb K mg cl base) : ∀ C : Str, isf_label C = true → XfC K (cl C) ∧ PySem.W.findIn K (.ref (cl C)) "label" = some none := by
  intro C h
  unfold isf_label at h
  by_cases e : C = "InvalidLabel"
  · subst e; exact ⟨F.x_InvalidLabel.xf, F.x_InvalidLabel.nof⟩
  rw [if_neg e] at h
  by_cases e : C = "InvalidTable"
  · subst e; exact ⟨F.x_InvalidTable.xf, F.x_InvalidTable.nof⟩
  rw [if_neg e] at h
  by_cases e : C = "NotChild"
  · subst e; exact ⟨F.x_NotChild.xf, F.x_NotChild.nof⟩
  rw [if_neg e] at h
  by_cases e : C = "NotRoot"
  · subst e; exact ⟨F.x_NotRoot.xf, F.x_NotRoot.nof⟩
  rw [if_neg e] at h
  by_cases e : C = "NotRemovable"
  · subst e; exact ⟨F.x_NotRemovable.xf, F.x_NotRemovable.nof⟩
  rw [if_neg e] at h
  by_cases e : C = "WouldLoop"
  · subst e; exact ⟨F.x_WouldLoop.xf, F.x_WouldLoop.nof⟩
  rw [if_neg e] at h
  cases h
theorem hisf_limit (F : Fb K mg cl base) : ∀ C : Str, isf_limit C = true → XfC K (cl C) ∧ PySem.W.findIn K (.ref (cl C)) "limit" = some none := by
  intro C h
  unfold isf_limit at h
  by_cases e : C = "TooLarge"
  · subst e; exact ⟨F.x_TooLarge.xf, F.x_TooLarge.nof⟩
  rw [if_neg e] at h
  cases h
theorem hisf_rank (F : Fb K mg cl base) : ∀ C : Str, isf_rank C = true → XfC K (cl C) ∧ PySem.W.findIn K (.ref (cl C)) "rank" = some none := by
  intro C h
  unfold isf_rank at h
  by_cases e : C = "InvalidRank"
  · subst e; exact ⟨F.x_InvalidRank.xf, F.x_InvalidRank.nof⟩
  rw [if_neg e] at h
  cases h
theorem hisf_line (F : Fb K mg cl base) : ∀ C : Str, isf_line C = true → XfC K (cl C) ∧ PySem.W.findIn K (.ref (cl C)) "line" = some none := by
  intro C h
  unfold isf_line at h
  by_cases e : C = "InvalidText"
  · subst e; exact ⟨F.x_InvalidText.xf, F.x_InvalidText.nof⟩
  rw [if_neg e] at h
  cases h
theorem hisf_order (F : Fb K mg cl base) : ∀ C : Str, isf_order C = true → XfC K (cl C) ∧ PySem.W.findIn K (.ref (cl C)) "order" = some none := by
  intro C h
  unfold isf_order at h
  by_cases e : C = "InvalidOrder"
  · subst e; exact ⟨F.x_InvalidOrder.xf, F.x_InvalidOrder.nof⟩
  rw [if_neg e] at h
  cases h
theorem hisf_reason (F : Fb K mg cl base) : ∀ C : Str, isf_reason C = true → XfC K (cl C) ∧ PySem.W.findIn K (.ref (cl C)) "reason" = some none := by
  intro C h
  unfold isf_reason at h
  by_cases e : C = "Unreachable"
  · subst e; exact ⟨F.x_Unreachable.xf, F.x_Unreachable.nof⟩
  rw [if_neg e] at h
  cases h
theorem hisf_length (F : Fb K mg cl base) : ∀ C : Str, isf_length C = true → XfC K (cl C) ∧ PySem.W.findIn K (.ref (cl C)) "length" = some none := by
  intro C h
  unfold isf_length at h
  by_cases e : C = "NothingRemains"
  · subst e; exact ⟨F.x_NothingRemains.xf, F.x_NothingRemains.nof⟩
  rw [if_neg e] at h
  by_cases e : C = "NotClearing"
  · subst e; exact ⟨F.x_NotClearing.xf, F.x_NotClearing.nof⟩
  rw [if_neg e] at h
  cases h
theorem hisf_action (F : Fb K mg cl base) : ∀ C : Str, isf_action C = true → XfC K (cl C) ∧ PySem.W.findIn K (.ref (cl C)) "action" = some none := by
  intro C h
  unfold isf_action at h
  by_cases e : C = "NothingToUndo"
  · subst e; exact ⟨F.x_NothingToUndo.xf, F.x_NothingToUndo.nof⟩
  rw [if_neg e] at h
  cases h
theorem sc_law_source : FnScope (["script"] : List Str) (["script"] : List Str) (defScope s_law_source) := ⟨rfl, rfl, rfl, by decide +kernel, rfl, by decide +kernel, by decide +kernel⟩
theorem bd_law_source (F : Fb K mg cl base) {f : Addr} {cdv : Value} {A : Around} {outer : List Env} {s : Shared} {H : Hp} {E : XK} (hr : RoomG 0 (A.deeper (envOfC "_law_source" (defScope s_law_source) s.heap.objs.size f cdv))) :
    PSs (cxOf (L2.CX P w) P w K mg base (["script"] : List Str) "_law_source" (defScope s_law_source) f cdv A outer s H E) (defBody s_law_source) (tS K cl (WxE E) b_law_source) := by
  have nd : (["script"] : List Str).Nodup := sc_law_source.nd
  have hp : PassesOwn (model P w) (cxOf (L2.CX P w) P w K mg base (["script"] : List Str) "_law_source" (defScope s_law_source) f cdv A outer s H E).A (cxOf (L2.CX P w) P w K mg base (["script"] : List Str) "_law_source" (defScope s_law_source) f cdv A outer s H E).env (cxOf (L2.CX P w) P w K mg base (["script"] : List Str) "_law_source" (defScope s_law_source) f cdv A outer s H E).xe := passes_of (X := cxOf (L2.CX P w) P w K mg base (["script"] : List Str) "_law_source" (defScope s_law_source) f cdv A outer s H E) rfl
  have tk : Takes (cxOf (L2.CX P w) P w K mg base (["script"] : List Str) "_law_source" (defScope s_law_source) f cdv A outer s H E) (WxE E) := takes_of rfl rfl rfl rfl
  exact (z_one (z_ret (d_disp (l := [((dcon (.str "cells")), (dbin addW (dvar 0) (dlst (dcons (dcB lenW (dcons (dvar 0) dnil)) dnil)))), ((dcon (.str "next")), (dcon (.int 0))), ((dcon (.str "rest")), (dcon (.int 0))), ((dcon (.str "count")), (dcon (.int 0)))]) (pps_cons d_str (d_opD p_add (d_var (i := 0)) (d_lst (d_cons (d_bi c_len (d_cons (d_var (i := 0)) d_nil) (by rfl) F.f_len) d_nil))) (pps_cons d_str d_int (pps_cons d_str d_int (pps_cons d_str d_int pps_nil)))))))
theorem ok_law_source (F : Fb K mg cl base) : Cal P w K mg base cl 1 "_law_source" (["script"] : List Str) s_law_source ([] : List Str) dfl_law_source den_law_source := by
  obtain ⟨f, fd, dv, FD, hdv, rdv, hm⟩ := F.d_law_source
  refine ⟨f, fd, dv, FD, hdv, rdv, hm, ?_⟩
  obtain ⟨oc, od, dV, kV, doc, pm, an, cdv, ct, osl, rfl, lk, hcd, _, _⟩ := FD.ex
  exact fnD_of lk hcd sc_law_source fun A outer s H E hr => bd_law_source F hr
theorem sc_law_draw : FnScope (["source", "limit", "cell", "count", "mixed", "drawn"] : List Str) (["source", "limit"] : List Str) (defScope s_law_draw) := ⟨rfl, rfl, rfl, by decide +kernel, rfl, by decide +kernel, by decide +kernel⟩
theorem bd_law_draw (F : Fb K mg cl base) {f : Addr} {cdv : Value} {A : Around} {outer : List Env} {s : Shared} {H : Hp} {E : XK} (hr : RoomG 0 (A.deeper (envOfC "_law_draw" (defScope s_law_draw) s.heap.objs.size f cdv))) :
    PSs (cxOf (L2.CX P w) P w K mg base (["source", "limit", "cell", "count", "mixed", "drawn"] : List Str) "_law_draw" (defScope s_law_draw) f cdv A outer s H E) (defBody s_law_draw) (tS K cl (WxE E) b_law_draw) := by
  have nd : (["source", "limit", "cell", "count", "mixed", "drawn"] : List Str).Nodup := sc_law_draw.nd
  have hp : PassesOwn (model P w) (cxOf (L2.CX P w) P w K mg base (["source", "limit", "cell", "count", "mixed", "drawn"] : List Str) "_law_draw" (defScope s_law_draw) f cdv A outer s H E).A (cxOf (L2.CX P w) P w K mg base (["source", "limit", "cell", "count", "mixed", "drawn"] : List Str) "_law_draw" (defScope s_law_draw) f cdv A outer s H E).env (cxOf (L2.CX P w) P w K mg base (["source", "limit", "cell", "count", "mixed", "drawn"] : List Str) "_law_draw" (defScope s_law_draw) f cdv A outer s H E).xe := passes_of (X := cxOf (L2.CX P w) P w K mg base (["source", "limit", "cell", "count", "mixed", "drawn"] : List Str) "_law_draw" (defScope s_law_draw) f cdv A outer s H E) rfl
  have tk : Takes (cxOf (L2.CX P w) P w K mg base (["source", "limit", "cell", "count", "mixed", "drawn"] : List Str) "_law_draw" (defScope s_law_draw) f cdv A outer s H E) (WxE E) := takes_of rfl rfl rfl rfl
  exact (z_cons (z_if (d_tcmpD (dop_eq hr.u64) (d_ix hr.u1 (d_var (i := 0)) d_str) d_int) (z_cons (z_asg (d_ix hr.u1 (d_ix hr.u1 (d_var (i := 0)) d_str) (d_opD p_mod (d_ix hr.u1 (d_var (i := 0)) d_str) (d_bi c_len (d_cons (d_ix hr.u1 (d_var (i := 0)) d_str) d_nil) (by rfl) F.f_len))) (x_name (i := 2) nd))
  (z_cons (z_asg (d_opD p_add (d_ix hr.u1 (d_var (i := 0)) d_str) d_int) (x_sub (Wx := WxE E) hr.u1 (d_var (i := 0)) d_str))
  (z_one (z_if (d_wand (d_tcmpD p_ge (d_var (i := 2)) (d_opD p_pow d_int d_int)) (d_wand1 (d_tcmpD p_le (d_ix hr.u1 (d_var (i := 0)) d_str) (d_bi c_len (d_cons (d_ix hr.u1 (d_var (i := 0)) d_str) d_nil) (by rfl) F.f_len)))).pt (z_one (z_asg (d_var (i := 2)) (x_sub (Wx := WxE E) hr.u1 (d_var (i := 0)) d_str))) (z_cons (z_asg (d_opD p_add (d_ix hr.u1 (d_var (i := 0)) d_str) d_int) (x_name (i := 3) nd))
  (z_cons (z_asg (d_var (i := 3)) (x_sub (Wx := WxE E) hr.u1 (d_var (i := 0)) d_str))
  (z_cons (z_asg (d_opD p_mod (d_opD p_mul (d_opD p_add (d_opD p_mod (d_var (i := 2)) d_int) (d_opD p_mul d_int (d_var (i := 3)))) (d_opD p_add (d_opD p_mul (d_var (i := 3)) (d_var (i := 3))) d_int)) d_int) (x_name (i := 4) nd))
  (z_cons (z_asg (d_opD p_mul (d_opD p_mod (d_opD p_mul (d_var (i := 4)) d_int) d_int) d_int) (x_sub (Wx := WxE E) hr.u1 (d_var (i := 0)) d_str))
  (z_one (z_asg (d_opD p_add (d_opD p_add (d_ix hr.u1 (d_var (i := 0)) d_str) (d_opD p_mod (d_opD p_mul (d_var (i := 4)) (d_var (i := 4))) d_int)) d_int) (x_sub (Wx := WxE E) hr.u1 (d_var (i := 0)) d_str))))))))))) z_nil)
  (z_cons (z_asg (d_opD p_mod (d_ix hr.u1 (d_var (i := 0)) d_str) (d_var (i := 1))) (x_name (i := 5) nd))
  (z_cons (z_asg (d_opD p_div (d_ix hr.u1 (d_var (i := 0)) d_str) (d_var (i := 1))) (x_sub (Wx := WxE E) hr.u1 (d_var (i := 0)) d_str))
  (z_one (z_ret (d_var (i := 5)))))))
theorem ok_law_draw (F : Fb K mg cl base) : Cal P w K mg base cl 1 "_law_draw" (["source", "limit"] : List Str) s_law_draw ([] : List Str) dfl_law_draw den_law_draw := by
  obtain ⟨f, fd, dv, FD, hdv, rdv, hm⟩ := F.d_law_draw
  refine ⟨f, fd, dv, FD, hdv, rdv, hm, ?_⟩
  obtain ⟨oc, od, dV, kV, doc, pm, an, cdv, ct, osl, rfl, lk, hcd, _, _⟩ := FD.ex
  exact fnD_of lk hcd sc_law_draw fun A outer s H E hr => bd_law_draw F hr
theorem sc_law_pick : FnScope (["source", "items"] : List Str) (["source", "items"] : List Str) (defScope s_law_pick) := ⟨rfl, rfl, rfl, by decide +kernel, rfl, by decide +kernel, by decide +kernel⟩
theorem bd_law_pick (F : Fb K mg cl base) {f : Addr} {cdv : Value} {A : Around} {outer : List Env} {s : Shared} {H : Hp} {E : XK} (hr : RoomG 1 (A.deeper (envOfC "_law_pick" (defScope s_law_pick) s.heap.objs.size f cdv))) :
    PSs (cxOf (L2.CX P w) P w K mg base (["source", "items"] : List Str) "_law_pick" (defScope s_law_pick) f cdv A outer s H E) (defBody s_law_pick) (tS K cl (WxE E) b_law_pick) := by
  have nd : (["source", "items"] : List Str).Nodup := sc_law_pick.nd
  have hp : PassesOwn (model P w) (cxOf (L2.CX P w) P w K mg base (["source", "items"] : List Str) "_law_pick" (defScope s_law_pick) f cdv A outer s H E).A (cxOf (L2.CX P w) P w K mg base (["source", "items"] : List Str) "_law_pick" (defScope s_law_pick) f cdv A outer s H E).env (cxOf (L2.CX P w) P w K mg base (["source", "items"] : List Str) "_law_pick" (defScope s_law_pick) f cdv A outer s H E).xe := passes_of (X := cxOf (L2.CX P w) P w K mg base (["source", "items"] : List Str) "_law_pick" (defScope s_law_pick) f cdv A outer s H E) rfl
  have tk : Takes (cxOf (L2.CX P w) P w K mg base (["source", "items"] : List Str) "_law_pick" (defScope s_law_pick) f cdv A outer s H E) (WxE E) := takes_of rfl rfl rfl rfl
  exact (z_one (z_ret (d_ix hr.u1 (d_var (i := 1)) (d_call (ok_law_draw F) (hr.mono (by decide)) tk bn_law_draw_2 (by rfl) (d_cons (d_var (i := 0)) (d_cons (d_bi c_len (d_cons (d_var (i := 1)) d_nil) (by rfl) F.f_len) d_nil))))))
theorem ok_law_pick (F : Fb K mg cl base) : Cal P w K mg base cl 2 "_law_pick" (["source", "items"] : List Str) s_law_pick ([] : List Str) dfl_law_pick den_law_pick := by
  obtain ⟨f, fd, dv, FD, hdv, rdv, hm⟩ := F.d_law_pick
  refine ⟨f, fd, dv, FD, hdv, rdv, hm, ?_⟩
  obtain ⟨oc, od, dV, kV, doc, pm, an, cdv, ct, osl, rfl, lk, hcd, _, _⟩ := FD.ex
  exact fnD_of lk hcd sc_law_pick fun A outer s H E hr => bd_law_pick F hr
theorem sc_law_arguments : FnScope (["field", "found", "stored"] : List Str) (["field"] : List Str) (defScope s_law_arguments) := ⟨rfl, rfl, rfl, by decide +kernel, rfl, by decide +kernel, by decide +kernel⟩
theorem bd_law_arguments (F : Fb K mg cl base) {f : Addr} {cdv : Value} {A : Around} {outer : List Env} {s : Shared} {H : Hp} {E : XK} (hr : RoomG 2 (A.deeper (envOfC "_law_arguments" (defScope s_law_arguments) s.heap.objs.size f cdv))) :
    PSs (cxOf (L2.CX P w) P w K mg base (["field", "found", "stored"] : List Str) "_law_arguments" (defScope s_law_arguments) f cdv A outer s H E) (defBody s_law_arguments) (tS K cl (WxE E) b_law_arguments) := by
  have nd : (["field", "found", "stored"] : List Str).Nodup := sc_law_arguments.nd
  have hp : PassesOwn (model P w) (cxOf (L2.CX P w) P w K mg base (["field", "found", "stored"] : List Str) "_law_arguments" (defScope s_law_arguments) f cdv A outer s H E).A (cxOf (L2.CX P w) P w K mg base (["field", "found", "stored"] : List Str) "_law_arguments" (defScope s_law_arguments) f cdv A outer s H E).env (cxOf (L2.CX P w) P w K mg base (["field", "found", "stored"] : List Str) "_law_arguments" (defScope s_law_arguments) f cdv A outer s H E).xe := passes_of (X := cxOf (L2.CX P w) P w K mg base (["field", "found", "stored"] : List Str) "_law_arguments" (defScope s_law_arguments) f cdv A outer s H E) rfl
  have tk : Takes (cxOf (L2.CX P w) P w K mg base (["field", "found", "stored"] : List Str) "_law_arguments" (defScope s_law_arguments) f cdv A outer s H E) (WxE E) := takes_of rfl rfl rfl rfl
  exact (z_cons (z_asg (d_lst (d_cons (d_mk (u_InvalidForest F) rfl hr (by decide) (d_var (i := 0)) (by rfl)) (d_cons (d_mk (u_InvalidLabel F) rfl hr (by decide) (d_var (i := 0)) (by rfl)) (d_cons (d_mk (u_InvalidRun F) rfl hr (by decide) (d_var (i := 0)) (by rfl)) (d_cons (d_mk (u_InvalidSelection F) rfl hr (by decide) (d_var (i := 0)) (by rfl)) d_nil))))) (x_name (i := 1) nd))
  (z_cons (z_asg (d_opD p_add (d_var (i := 1)) (d_lst (d_cons (d_mk (u_InvalidNumbers F) rfl hr (by decide) (d_var (i := 0)) (by rfl)) (d_cons (d_mk (u_InvalidPrices F) rfl hr (by decide) (d_var (i := 0)) (by rfl)) (d_cons (d_mk (u_InvalidTable F) rfl hr (by decide) (d_var (i := 0)) (by rfl)) (d_cons (d_mk (u_InvalidOrder F) rfl hr (by decide) (d_var (i := 0)) (by rfl)) d_nil)))))) (x_name (i := 1) nd))
  (z_cons (z_asg (d_opD p_add (d_var (i := 1)) (d_lst (d_cons (d_mk (u_InvalidText F) rfl hr (by decide) (d_var (i := 0)) (by rfl)) (d_cons (d_mk (u_InvalidRank F) rfl hr (by decide) (d_var (i := 0)) (by rfl)) (d_cons (d_mk (u_InvalidEdit F) rfl hr (by decide) (d_var (i := 0)) (by rfl)) (d_cons (d_mk (u_TooLarge F) rfl hr (by decide) (d_var (i := 0)) (by rfl)) d_nil)))))) (x_name (i := 1) nd))
  (z_cons (z_asg (d_lst (d_cons (d_fldE (hisf_path F) (d_ix hr.u1 (d_var (i := 1)) d_int)) (d_cons (d_fldE (hisf_label F) (d_ix hr.u1 (d_var (i := 1)) d_int)) (d_cons (d_fldE (hisf_position F) (d_ix hr.u1 (d_var (i := 1)) d_int)) (d_cons (d_fldE (hisf_name F) (d_ix hr.u1 (d_var (i := 1)) d_int)) (d_cons (d_fldE (hisf_path F) (d_ix hr.u1 (d_var (i := 1)) d_int)) (d_cons (d_fldE (hisf_path F) (d_ix hr.u1 (d_var (i := 1)) d_int)) d_nil))))))) (x_name (i := 2) nd))
  (z_cons (z_asg (d_opD p_add (d_var (i := 2)) (d_lst (d_cons (d_fldE (hisf_label F) (d_ix hr.u1 (d_var (i := 1)) d_int)) (d_cons (d_fldE (hisf_order F) (d_ix hr.u1 (d_var (i := 1)) d_int)) (d_cons (d_fldE (hisf_line F) (d_ix hr.u1 (d_var (i := 1)) d_int)) (d_cons (d_fldE (hisf_rank F) (d_ix hr.u1 (d_var (i := 1)) d_int)) (d_cons (d_fldE (hisf_path F) (d_ix hr.u1 (d_var (i := 1)) d_int)) (d_cons (d_fldE (hisf_limit F) (d_ix hr.u1 (d_var (i := 1)) d_int)) d_nil)))))))) (x_name (i := 2) nd))
  (z_one (z_ret (d_lst (d_cons (d_var (i := 1)) (d_cons (d_var (i := 2)) d_nil))))))))))
theorem ok_law_arguments (F : Fb K mg cl base) : Cal P w K mg base cl 3 "_law_arguments" (["field"] : List Str) s_law_arguments ([] : List Str) dfl_law_arguments den_law_arguments := by
  obtain ⟨f, fd, dv, FD, hdv, rdv, hm⟩ := F.d_law_arguments
  refine ⟨f, fd, dv, FD, hdv, rdv, hm, ?_⟩
  obtain ⟨oc, od, dV, kV, doc, pm, an, cdv, ct, osl, rfl, lk, hcd, _, _⟩ := FD.ex
  exact fnD_of lk hcd sc_law_arguments fun A outer s H E hr => bd_law_arguments F hr
theorem sc_law_states : FnScope (["field", "found", "stored"] : List Str) (["field"] : List Str) (defScope s_law_states) := ⟨rfl, rfl, rfl, by decide +kernel, rfl, by decide +kernel, by decide +kernel⟩
theorem bd_law_states (F : Fb K mg cl base) {f : Addr} {cdv : Value} {A : Around} {outer : List Env} {s : Shared} {H : Hp} {E : XK} (hr : RoomG 2 (A.deeper (envOfC "_law_states" (defScope s_law_states) s.heap.objs.size f cdv))) :
    PSs (cxOf (L2.CX P w) P w K mg base (["field", "found", "stored"] : List Str) "_law_states" (defScope s_law_states) f cdv A outer s H E) (defBody s_law_states) (tS K cl (WxE E) b_law_states) := by
  have nd : (["field", "found", "stored"] : List Str).Nodup := sc_law_states.nd
  have hp : PassesOwn (model P w) (cxOf (L2.CX P w) P w K mg base (["field", "found", "stored"] : List Str) "_law_states" (defScope s_law_states) f cdv A outer s H E).A (cxOf (L2.CX P w) P w K mg base (["field", "found", "stored"] : List Str) "_law_states" (defScope s_law_states) f cdv A outer s H E).env (cxOf (L2.CX P w) P w K mg base (["field", "found", "stored"] : List Str) "_law_states" (defScope s_law_states) f cdv A outer s H E).xe := passes_of (X := cxOf (L2.CX P w) P w K mg base (["field", "found", "stored"] : List Str) "_law_states" (defScope s_law_states) f cdv A outer s H E) rfl
  have tk : Takes (cxOf (L2.CX P w) P w K mg base (["field", "found", "stored"] : List Str) "_law_states" (defScope s_law_states) f cdv A outer s H E) (WxE E) := takes_of rfl rfl rfl rfl
  exact (z_cons (z_asg (d_lst (d_cons (d_mkT (u_NotRemovable F) rfl hr (by decide) (d_var (i := 0)) (by rfl)) (d_cons (d_mkT (u_NothingRemains F) rfl hr (by decide) (d_var (i := 0)) (by rfl)) (d_cons (d_mkT (u_Unreachable F) rfl hr (by decide) (d_var (i := 0)) (by rfl)) (d_cons (d_mkT (u_NotRoot F) rfl hr (by decide) (d_var (i := 0)) (by rfl)) (d_cons (d_mkT (u_NotChild F) rfl hr (by decide) (d_var (i := 0)) (by rfl)) d_nil)))))) (x_name (i := 1) nd))
  (z_cons (z_asg (d_opD p_add (d_var (i := 1)) (d_lst (d_cons (d_mkT (u_WouldLoop F) rfl hr (by decide) (d_var (i := 0)) (by rfl)) (d_cons (d_mkT (u_NotClearing F) rfl hr (by decide) (d_var (i := 0)) (by rfl)) d_nil)))) (x_name (i := 1) nd))
  (z_cons (z_asg (d_lst (d_cons (d_fldE (hisf_label F) (d_ix hr.u1 (d_var (i := 1)) d_int)) (d_cons (d_fldE (hisf_length F) (d_ix hr.u1 (d_var (i := 1)) d_int)) (d_cons (d_fldE (hisf_reason F) (d_ix hr.u1 (d_var (i := 1)) d_int)) (d_cons (d_fldE (hisf_label F) (d_ix hr.u1 (d_var (i := 1)) d_int)) (d_cons (d_fldE (hisf_label F) (d_ix hr.u1 (d_var (i := 1)) d_int)) (d_cons (d_fldE (hisf_label F) (d_ix hr.u1 (d_var (i := 1)) d_int)) d_nil))))))) (x_name (i := 2) nd))
  (z_one (z_ret (d_lst (d_cons (d_var (i := 1)) (d_cons (d_opD p_add (d_var (i := 2)) (d_lst (d_cons (d_fldE (hisf_length F) (d_ix hr.u1 (d_var (i := 1)) d_int)) d_nil))) d_nil))))))))
theorem ok_law_states (F : Fb K mg cl base) : Cal P w K mg base cl 3 "_law_states" (["field"] : List Str) s_law_states ([] : List Str) dfl_law_states den_law_states := by
  obtain ⟨f, fd, dv, FD, hdv, rdv, hm⟩ := F.d_law_states
  refine ⟨f, fd, dv, FD, hdv, rdv, hm, ?_⟩
  obtain ⟨oc, od, dV, kV, doc, pm, an, cdv, ct, osl, rfl, lk, hcd, _, _⟩ := FD.ex
  exact fnD_of lk hcd sc_law_states fun A outer s H E hr => bd_law_states F hr
theorem sc_law_kinds : FnScope (["error", "found"] : List Str) (["error"] : List Str) (defScope s_law_kinds) := ⟨rfl, rfl, rfl, by decide +kernel, rfl, by decide +kernel, by decide +kernel⟩
theorem bd_law_kinds (F : Fb K mg cl base) {f : Addr} {cdv : Value} {A : Around} {outer : List Env} {s : Shared} {H : Hp} {E : XK} (hr : RoomG 0 (A.deeper (envOfC "_law_kinds" (defScope s_law_kinds) s.heap.objs.size f cdv))) :
    PSs (cxOf (L2.CX P w) P w K mg base (["error", "found"] : List Str) "_law_kinds" (defScope s_law_kinds) f cdv A outer s H E) (defBody s_law_kinds) (tS K cl (WxE E) b_law_kinds) := by
  have nd : (["error", "found"] : List Str).Nodup := sc_law_kinds.nd
  have hp : PassesOwn (model P w) (cxOf (L2.CX P w) P w K mg base (["error", "found"] : List Str) "_law_kinds" (defScope s_law_kinds) f cdv A outer s H E).A (cxOf (L2.CX P w) P w K mg base (["error", "found"] : List Str) "_law_kinds" (defScope s_law_kinds) f cdv A outer s H E).env (cxOf (L2.CX P w) P w K mg base (["error", "found"] : List Str) "_law_kinds" (defScope s_law_kinds) f cdv A outer s H E).xe := passes_of (X := cxOf (L2.CX P w) P w K mg base (["error", "found"] : List Str) "_law_kinds" (defScope s_law_kinds) f cdv A outer s H E) rfl
  have tk : Takes (cxOf (L2.CX P w) P w K mg base (["error", "found"] : List Str) "_law_kinds" (defScope s_law_kinds) f cdv A outer s H E) (WxE E) := takes_of rfl rfl rfl rfl
  exact (z_cons (z_asg (d_lst (d_cons (d_isE (hisa_InvalidForest F) (d_var (i := 0)) (by rfl) F.f_isinstance (by rfl) F.g_InvalidForest) (d_cons (d_isE (hisa_InvalidLabel F) (d_var (i := 0)) (by rfl) F.f_isinstance (by rfl) F.g_InvalidLabel) (d_cons (d_isE (hisa_InvalidRun F) (d_var (i := 0)) (by rfl) F.f_isinstance (by rfl) F.g_InvalidRun) d_nil)))) (x_name (i := 1) nd))
  (z_cons (z_asg (d_opD p_add (d_var (i := 1)) (d_lst (d_cons (d_isE (hisa_InvalidSelection F) (d_var (i := 0)) (by rfl) F.f_isinstance (by rfl) F.g_InvalidSelection) (d_cons (d_isE (hisa_InvalidNumbers F) (d_var (i := 0)) (by rfl) F.f_isinstance (by rfl) F.g_InvalidNumbers) d_nil)))) (x_name (i := 1) nd))
  (z_cons (z_asg (d_opD p_add (d_var (i := 1)) (d_lst (d_cons (d_isE (hisa_InvalidPrices F) (d_var (i := 0)) (by rfl) F.f_isinstance (by rfl) F.g_InvalidPrices) (d_cons (d_isE (hisa_InvalidTable F) (d_var (i := 0)) (by rfl) F.f_isinstance (by rfl) F.g_InvalidTable) (d_cons (d_isE (hisa_InvalidOrder F) (d_var (i := 0)) (by rfl) F.f_isinstance (by rfl) F.g_InvalidOrder) d_nil))))) (x_name (i := 1) nd))
  (z_cons (z_asg (d_opD p_add (d_var (i := 1)) (d_lst (d_cons (d_isE (hisa_InvalidText F) (d_var (i := 0)) (by rfl) F.f_isinstance (by rfl) F.g_InvalidText) (d_cons (d_isE (hisa_InvalidRank F) (d_var (i := 0)) (by rfl) F.f_isinstance (by rfl) F.g_InvalidRank) (d_cons (d_isE (hisa_InvalidEdit F) (d_var (i := 0)) (by rfl) F.f_isinstance (by rfl) F.g_InvalidEdit) d_nil))))) (x_name (i := 1) nd))
  (z_cons (z_asg (d_opD p_add (d_var (i := 1)) (d_lst (d_cons (d_isE (hisa_TooLarge F) (d_var (i := 0)) (by rfl) F.f_isinstance (by rfl) F.g_TooLarge) (d_cons (d_isE (hisa_NotRemovable F) (d_var (i := 0)) (by rfl) F.f_isinstance (by rfl) F.g_NotRemovable) (d_cons (d_isE (hisa_NothingRemains F) (d_var (i := 0)) (by rfl) F.f_isinstance (by rfl) F.g_NothingRemains) d_nil))))) (x_name (i := 1) nd))
  (z_cons (z_asg (d_opD p_add (d_var (i := 1)) (d_lst (d_cons (d_isE (hisa_Unreachable F) (d_var (i := 0)) (by rfl) F.f_isinstance (by rfl) F.g_Unreachable) (d_cons (d_isE (hisa_NotRoot F) (d_var (i := 0)) (by rfl) F.f_isinstance (by rfl) F.g_NotRoot) (d_cons (d_isE (hisa_NotChild F) (d_var (i := 0)) (by rfl) F.f_isinstance (by rfl) F.g_NotChild) d_nil))))) (x_name (i := 1) nd))
  (z_cons (z_asg (d_opD p_add (d_var (i := 1)) (d_lst (d_cons (d_isE (hisa_WouldLoop F) (d_var (i := 0)) (by rfl) F.f_isinstance (by rfl) F.g_WouldLoop) (d_cons (d_isE (hisa_NotClearing F) (d_var (i := 0)) (by rfl) F.f_isinstance (by rfl) F.g_NotClearing) (d_cons (d_isE (hisa_NothingToUndo F) (d_var (i := 0)) (by rfl) F.f_isinstance (by rfl) F.g_NothingToUndo) d_nil))))) (x_name (i := 1) nd))
  (z_one (z_ret (d_var (i := 1)))))))))))
theorem ok_law_kinds (F : Fb K mg cl base) : Cal P w K mg base cl 1 "_law_kinds" (["error"] : List Str) s_law_kinds ([] : List Str) dfl_law_kinds den_law_kinds := by
  obtain ⟨f, fd, dv, FD, hdv, rdv, hm⟩ := F.d_law_kinds
  refine ⟨f, fd, dv, FD, hdv, rdv, hm, ?_⟩
  obtain ⟨oc, od, dV, kV, doc, pm, an, cdv, ct, osl, rfl, lk, hcd, _, _⟩ := FD.ex
  exact fnD_of lk hcd sc_law_kinds fun A outer s H E hr => bd_law_kinds F hr
theorem sc_law_bases : FnScope (["error", "found"] : List Str) (["error"] : List Str) (defScope s_law_bases) := ⟨rfl, rfl, rfl, by decide +kernel, rfl, by decide +kernel, by decide +kernel⟩
theorem bd_law_bases (F : Fb K mg cl base) {f : Addr} {cdv : Value} {A : Around} {outer : List Env} {s : Shared} {H : Hp} {E : XK} (hr : RoomG 0 (A.deeper (envOfC "_law_bases" (defScope s_law_bases) s.heap.objs.size f cdv))) :
    PSs (cxOf (L2.CX P w) P w K mg base (["error", "found"] : List Str) "_law_bases" (defScope s_law_bases) f cdv A outer s H E) (defBody s_law_bases) (tS K cl (WxE E) b_law_bases) := by
  have nd : (["error", "found"] : List Str).Nodup := sc_law_bases.nd
  have hp : PassesOwn (model P w) (cxOf (L2.CX P w) P w K mg base (["error", "found"] : List Str) "_law_bases" (defScope s_law_bases) f cdv A outer s H E).A (cxOf (L2.CX P w) P w K mg base (["error", "found"] : List Str) "_law_bases" (defScope s_law_bases) f cdv A outer s H E).env (cxOf (L2.CX P w) P w K mg base (["error", "found"] : List Str) "_law_bases" (defScope s_law_bases) f cdv A outer s H E).xe := passes_of (X := cxOf (L2.CX P w) P w K mg base (["error", "found"] : List Str) "_law_bases" (defScope s_law_bases) f cdv A outer s H E) rfl
  have tk : Takes (cxOf (L2.CX P w) P w K mg base (["error", "found"] : List Str) "_law_bases" (defScope s_law_bases) f cdv A outer s H E) (WxE E) := takes_of rfl rfl rfl rfl
  exact (z_cons (z_asg (d_lst (d_cons (d_isE (hisa_DialError F) (d_var (i := 0)) (by rfl) F.f_isinstance (by rfl) F.g_DialError) (d_cons (d_isE (hisa_DialStateError F) (d_var (i := 0)) (by rfl) F.f_isinstance (by rfl) F.g_DialStateError) (d_cons (d_isE (hisa_DialLookupError F) (d_var (i := 0)) (by rfl) F.f_isinstance (by rfl) F.g_DialLookupError) d_nil)))) (x_name (i := 1) nd))
  (z_one (z_ret (d_opD p_add (d_var (i := 1)) (d_lst (d_cons (d_isEb (T := "ValueError") (hisa_ValueError F) (d_var (i := 0)) (by rfl) F.f_isinstance (by rfl) F.f_ValueError) (d_cons (d_isEb (T := "RuntimeError") (hisa_RuntimeError F) (d_var (i := 0)) (by rfl) F.f_isinstance (by rfl) F.f_RuntimeError) (d_cons (d_isEb (T := "LookupError") (hisa_LookupError F) (d_var (i := 0)) (by rfl) F.f_isinstance (by rfl) F.f_LookupError) d_nil))))))))
theorem ok_law_bases (F : Fb K mg cl base) : Cal P w K mg base cl 1 "_law_bases" (["error"] : List Str) s_law_bases ([] : List Str) dfl_law_bases den_law_bases := by
  obtain ⟨f, fd, dv, FD, hdv, rdv, hm⟩ := F.d_law_bases
  refine ⟨f, fd, dv, FD, hdv, rdv, hm, ?_⟩
  obtain ⟨oc, od, dV, kV, doc, pm, an, cdv, ct, osl, rfl, lk, hcd, _, _⟩ := FD.ex
  exact fnD_of lk hcd sc_law_bases fun A outer s H E hr => bd_law_bases F hr
theorem sc_law_all_right : FnScope (["errors", "stored", "first", "field", "due", "k", "error"] : List Str) (["errors", "stored", "first", "field"] : List Str) (defScope s_law_all_right) := ⟨rfl, rfl, rfl, by decide +kernel, rfl, by decide +kernel, by decide +kernel⟩
theorem bd_law_all_right (F : Fb K mg cl base) {f : Addr} {cdv : Value} {A : Around} {outer : List Env} {s : Shared} {H : Hp} {E : XK} (hr : RoomG 1 (A.deeper (envOfC "_law_all_right" (defScope s_law_all_right) s.heap.objs.size f cdv))) :
    PSs (cxOf (L2.CX P w) P w K mg base (["errors", "stored", "first", "field", "due", "k", "error"] : List Str) "_law_all_right" (defScope s_law_all_right) f cdv A outer s H E) (defBody s_law_all_right) (tS K cl (WxE E) b_law_all_right) := by
  have nd : (["errors", "stored", "first", "field", "due", "k", "error"] : List Str).Nodup := sc_law_all_right.nd
  have hp : PassesOwn (model P w) (cxOf (L2.CX P w) P w K mg base (["errors", "stored", "first", "field", "due", "k", "error"] : List Str) "_law_all_right" (defScope s_law_all_right) f cdv A outer s H E).A (cxOf (L2.CX P w) P w K mg base (["errors", "stored", "first", "field", "due", "k", "error"] : List Str) "_law_all_right" (defScope s_law_all_right) f cdv A outer s H E).env (cxOf (L2.CX P w) P w K mg base (["errors", "stored", "first", "field", "due", "k", "error"] : List Str) "_law_all_right" (defScope s_law_all_right) f cdv A outer s H E).xe := passes_of (X := cxOf (L2.CX P w) P w K mg base (["errors", "stored", "first", "field", "due", "k", "error"] : List Str) "_law_all_right" (defScope s_law_all_right) f cdv A outer s H E) rfl
  have tk : Takes (cxOf (L2.CX P w) P w K mg base (["errors", "stored", "first", "field", "due", "k", "error"] : List Str) "_law_all_right" (defScope s_law_all_right) f cdv A outer s H E) (WxE E) := takes_of rfl rfl rfl rfl
  exact (z_cons (z_if (d_tcmpD (dop_ne hr.u64) (d_bi (c_repr F.sm hr.guards hr.u64) (d_cons (d_var (i := 1)) d_nil) (by rfl) F.f_repr) (d_bi (c_repr F.sm hr.guards hr.u64) (d_cons (d_opD p_mul (d_lst (d_cons (d_var (i := 3)) d_nil)) (d_bi c_len (d_cons (d_var (i := 0)) d_nil) (by rfl) F.f_len)) d_nil) (by rfl) F.f_repr)) (z_one (z_ret d_bl)) z_nil)
  (z_cons (z_asg (d_lc (own := [("k", 5)]) rfl nd (i_range1 (by rfl) F.f_range (d_cons d_int d_nil)) (blkOk_by (by kernel_rfl)) (fun s H C cl' fp => (x_name (i := 5) nd)) (fun s H C cl' fp => q_nil) (fun s H C cl' fp => (d_cmpD (dop_eq hr.u64) (d_var (i := 5)) (d_var (i := 2))))) (x_name (i := 4) nd))
  (z_cons (z_if (d_tcmpD (dop_ne hr.u64) (d_lc (own := [("error", 6)]) rfl nd (i_seq (d_var (i := 0))) (blkOk_by (by kernel_rfl)) (fun s H C cl' fp => (x_name (i := 6) nd)) (fun s H C cl' fp => (q_one (d_tcmpD (dop_ne hr.u64) (d_call (ok_law_bases F) (hr.mono (by decide)) (takes0 rfl) bn_law_bases_1 (by rfl) (d_cons (d_var (i := 6)) d_nil)) (d_opD p_add (d_var (i := 4)) (d_var (i := 4)))))) (fun s H C cl' fp => (d_var (i := 6)))) (d_lst d_nil)) (z_one (z_ret d_bl)) z_nil)
  (z_one (z_ret (d_cmpD (dop_eq hr.u64) (d_lc (own := [("error", 6)]) rfl nd (i_seq (d_var (i := 0))) (blkOk_by (by kernel_rfl)) (fun s H C cl' fp => (x_name (i := 6) nd)) (fun s H C cl' fp => (q_one (d_tcmpD (dop_ne hr.u64) (d_meth (m_countD hr.u65) PySem.F.plainAttrs_list PySem.F.slot_list_count PySem.F.type_list_count (d_call (ok_law_kinds F) (hr.mono (by decide)) (takes0 rfl) bn_law_kinds_1 (by rfl) (d_cons (d_var (i := 6)) d_nil)) (d_cons d_bl d_nil)) d_int))) (fun s H C cl' fp => (d_var (i := 6)))) (d_lst d_nil)))))))
theorem ok_law_all_right (F : Fb K mg cl base) : Cal P w K mg base cl 2 "_law_all_right" (["errors", "stored", "first", "field"] : List Str) s_law_all_right ([] : List Str) dfl_law_all_right den_law_all_right := by
  obtain ⟨f, fd, dv, FD, hdv, rdv, hm⟩ := F.d_law_all_right
  refine ⟨f, fd, dv, FD, hdv, rdv, hm, ?_⟩
  obtain ⟨oc, od, dV, kV, doc, pm, an, cdv, ct, osl, rfl, lk, hcd, _, _⟩ := FD.ex
  exact fnD_of lk hcd sc_law_all_right fun A outer s H E hr => bd_law_all_right F hr
theorem sc_law : FnScope (["script", "source", "turn", "field", "errors", "stored", "last"] : List Str) (["script"] : List Str) (defScope s_law) := ⟨rfl, rfl, rfl, by decide +kernel, rfl, by decide +kernel, by decide +kernel⟩
theorem bd_law (F : Fb K mg cl base) {f : Addr} {cdv : Value} {A : Around} {outer : List Env} {s : Shared} {H : Hp} {E : XK} (hr : RoomG 3 (A.deeper (envOfC "law" (defScope s_law) s.heap.objs.size f cdv))) :
    PSs (cxOf (L2.CX P w) P w K mg base (["script", "source", "turn", "field", "errors", "stored", "last"] : List Str) "law" (defScope s_law) f cdv A outer s H E) (defBody s_law) (tS K cl (WxE E) b_law) := by
  have nd : (["script", "source", "turn", "field", "errors", "stored", "last"] : List Str).Nodup := sc_law.nd
  have hp : PassesOwn (model P w) (cxOf (L2.CX P w) P w K mg base (["script", "source", "turn", "field", "errors", "stored", "last"] : List Str) "law" (defScope s_law) f cdv A outer s H E).A (cxOf (L2.CX P w) P w K mg base (["script", "source", "turn", "field", "errors", "stored", "last"] : List Str) "law" (defScope s_law) f cdv A outer s H E).env (cxOf (L2.CX P w) P w K mg base (["script", "source", "turn", "field", "errors", "stored", "last"] : List Str) "law" (defScope s_law) f cdv A outer s H E).xe := passes_of (X := cxOf (L2.CX P w) P w K mg base (["script", "source", "turn", "field", "errors", "stored", "last"] : List Str) "law" (defScope s_law) f cdv A outer s H E) rfl
  have tk : Takes (cxOf (L2.CX P w) P w K mg base (["script", "source", "turn", "field", "errors", "stored", "last"] : List Str) "law" (defScope s_law) f cdv A outer s H E) (WxE E) := takes_of rfl rfl rfl rfl
  exact (z_cons (z_asg (d_call (ok_law_source F) (hr.mono (by decide)) tk bn_law_source_1 (by rfl) (d_cons (d_var (i := 0)) d_nil)) (x_name (i := 1) nd))
  (z_cons (z_for hp rfl (i_range1 (by rfl) F.f_range (d_cons d_int d_nil)) (x_name (i := 2) nd) (z_cons (z_asg (d_call (ok_law_pick F) (hr.mono (by decide)) tk bn_law_pick_2 (by rfl) (d_cons (d_var (i := 1)) (d_cons (d_lst (d_cons (d_tup d_nil) (d_cons (d_tup (d_cons d_int d_nil)) (d_cons (d_tup (d_cons d_int (d_cons d_str d_nil))) (d_cons d_int (d_cons (d_un un_neg g_neg d_int) (d_cons d_int (d_cons d_str (d_cons d_non (d_cons d_str (d_cons (d_tup (d_cons d_int (d_cons d_int (d_cons d_int d_nil)))) (d_cons d_bl (d_cons (d_lst d_nil) d_nil))))))))))))) d_nil))) (x_name (i := 3) nd))
  (z_cons (z_asg (d_call (ok_law_arguments F) (hr.mono (by decide)) tk bn_law_arguments_1 (by rfl) (d_cons (d_var (i := 3)) d_nil)) (x_tupL rfl (x_gcons (x_name (i := 4) nd) (x_gcons (x_name (i := 5) nd) x_gnil)) (len_gcons (len_gcons len_gnil))))
  (z_cons (z_if (d_tnot (d_tru (d_call (ok_law_all_right F) (hr.mono (by decide)) tk bn_law_all_right_4 (by rfl) (d_cons (d_var (i := 4)) (d_cons (d_var (i := 5)) (d_cons d_int (d_cons (d_var (i := 3)) d_nil))))))) (z_one (z_ret d_bl)) z_nil)
  (z_cons (z_asg (d_call (ok_law_states F) (hr.mono (by decide)) tk bn_law_states_1 (by rfl) (d_cons (d_var (i := 3)) d_nil)) (x_tupL rfl (x_gcons (x_name (i := 4) nd) (x_gcons (x_name (i := 5) nd) x_gnil)) (len_gcons (len_gcons len_gnil))))
  (z_cons (z_if (d_tnot (d_tru (d_call (ok_law_all_right F) (hr.mono (by decide)) tk bn_law_all_right_4 (by rfl) (d_cons (d_var (i := 4)) (d_cons (d_var (i := 5)) (d_cons d_int (d_cons (d_var (i := 3)) d_nil))))))) (z_one (z_ret d_bl)) z_nil)
  (z_cons (z_asg (d_mkT (u_NothingToUndo F) rfl hr (by decide) (d_var (i := 3)) (by rfl)) (x_name (i := 6) nd))
  (z_one (z_if (d_tnot (d_tru (d_call (ok_law_all_right F) (hr.mono (by decide)) tk bn_law_all_right_4 (by rfl) (d_cons (d_lst (d_cons (d_var (i := 6)) d_nil)) (d_cons (d_lst (d_cons (d_fldE (hisf_action F) (d_var (i := 6))) d_nil)) (d_cons d_int (d_cons (d_var (i := 3)) d_nil))))))) (z_one (z_ret d_bl)) z_nil)))))))))
  (z_one (z_ret d_bl))))
theorem ok_law (F : Fb K mg cl base) : Cal P w K mg base cl 4 "law" (["script"] : List Str) s_law ([] : List Str) dfl_law den_law := by
  obtain ⟨f, fd, dv, FD, hdv, rdv, hm⟩ := F.d_law
  refine ⟨f, fd, dv, FD, hdv, rdv, hm, ?_⟩
  obtain ⟨oc, od, dV, kV, doc, pm, an, cdv, ct, osl, rfl, lk, hcd, _, _⟩ := FD.ex
  exact fnD_of lk hcd sc_law fun A outer s H E hr => bd_law F hr
end
end K08

set_option Elab.async false
set_option linter.all false
set_option maxRecDepth 100000
set_option maxHeartbeats 0
/-! H_k08: the head, printed by gen.py. -/
namespace K08
open PySem PySem.Spec PyProof.Rows L2 DL

def dfs : List He.DefD := [⟨("_law_source", none), "_law_source", "_law_source", defArgs s_law_source, defBody s_law_source, defScope s_law_source, [], []⟩,
  ⟨("_law_draw", none), "_law_draw", "_law_draw", defArgs s_law_draw, defBody s_law_draw, defScope s_law_draw, [], []⟩,
  ⟨("_law_pick", none), "_law_pick", "_law_pick", defArgs s_law_pick, defBody s_law_pick, defScope s_law_pick, [], []⟩,
  ⟨("_law_arguments", none), "_law_arguments", "_law_arguments", defArgs s_law_arguments, defBody s_law_arguments, defScope s_law_arguments, [], []⟩,
  ⟨("_law_states", none), "_law_states", "_law_states", defArgs s_law_states, defBody s_law_states, defScope s_law_states, [], []⟩,
  ⟨("_law_kinds", none), "_law_kinds", "_law_kinds", defArgs s_law_kinds, defBody s_law_kinds, defScope s_law_kinds, [], []⟩,
  ⟨("_law_bases", none), "_law_bases", "_law_bases", defArgs s_law_bases, defBody s_law_bases, defScope s_law_bases, [], []⟩,
  ⟨("_law_all_right", none), "_law_all_right", "_law_all_right", defArgs s_law_all_right, defBody s_law_all_right, defScope s_law_all_right, [], []⟩,
  ⟨("law", none), "law", "law", defArgs s_law, defBody s_law, defScope s_law, [], []⟩,
  ⟨("InvalidSelection", some "__init__"), "__init__", "InvalidSelection.__init__", defArgs si_InvalidSelection, defBody si_InvalidSelection, defScope si_InvalidSelection, [], []⟩,
  ⟨("InvalidRun", some "__init__"), "__init__", "InvalidRun.__init__", defArgs si_InvalidRun, defBody si_InvalidRun, defScope si_InvalidRun, [], []⟩,
  ⟨("InvalidLabel", some "__init__"), "__init__", "InvalidLabel.__init__", defArgs si_InvalidLabel, defBody si_InvalidLabel, defScope si_InvalidLabel, [], []⟩,
  ⟨("InvalidForest", some "__init__"), "__init__", "InvalidForest.__init__", defArgs si_InvalidForest, defBody si_InvalidForest, defScope si_InvalidForest, [], []⟩,
  ⟨("InvalidOrder", some "__init__"), "__init__", "InvalidOrder.__init__", defArgs si_InvalidOrder, defBody si_InvalidOrder, defScope si_InvalidOrder, [], []⟩,
  ⟨("InvalidTable", some "__init__"), "__init__", "InvalidTable.__init__", defArgs si_InvalidTable, defBody si_InvalidTable, defScope si_InvalidTable, [], []⟩,
  ⟨("InvalidPrices", some "__init__"), "__init__", "InvalidPrices.__init__", defArgs si_InvalidPrices, defBody si_InvalidPrices, defScope si_InvalidPrices, [], []⟩,
  ⟨("InvalidNumbers", some "__init__"), "__init__", "InvalidNumbers.__init__", defArgs si_InvalidNumbers, defBody si_InvalidNumbers, defScope si_InvalidNumbers, [], []⟩,
  ⟨("TooLarge", some "__init__"), "__init__", "TooLarge.__init__", defArgs si_TooLarge, defBody si_TooLarge, defScope si_TooLarge, [], []⟩,
  ⟨("InvalidEdit", some "__init__"), "__init__", "InvalidEdit.__init__", defArgs si_InvalidEdit, defBody si_InvalidEdit, defScope si_InvalidEdit, [], []⟩,
  ⟨("InvalidRank", some "__init__"), "__init__", "InvalidRank.__init__", defArgs si_InvalidRank, defBody si_InvalidRank, defScope si_InvalidRank, [], []⟩,
  ⟨("InvalidText", some "__init__"), "__init__", "InvalidText.__init__", defArgs si_InvalidText, defBody si_InvalidText, defScope si_InvalidText, [], []⟩,
  ⟨("NotChild", some "__init__"), "__init__", "NotChild.__init__", defArgs si_NotChild, defBody si_NotChild, defScope si_NotChild, [], []⟩,
  ⟨("NotRoot", some "__init__"), "__init__", "NotRoot.__init__", defArgs si_NotRoot, defBody si_NotRoot, defScope si_NotRoot, [], []⟩,
  ⟨("Unreachable", some "__init__"), "__init__", "Unreachable.__init__", defArgs si_Unreachable, defBody si_Unreachable, defScope si_Unreachable, [], []⟩,
  ⟨("NothingRemains", some "__init__"), "__init__", "NothingRemains.__init__", defArgs si_NothingRemains, defBody si_NothingRemains, defScope si_NothingRemains, [], []⟩,
  ⟨("NotRemovable", some "__init__"), "__init__", "NotRemovable.__init__", defArgs si_NotRemovable, defBody si_NotRemovable, defScope si_NotRemovable, [], []⟩,
  ⟨("NotClearing", some "__init__"), "__init__", "NotClearing.__init__", defArgs si_NotClearing, defBody si_NotClearing, defScope si_NotClearing, [], []⟩,
  ⟨("WouldLoop", some "__init__"), "__init__", "WouldLoop.__init__", defArgs si_WouldLoop, defBody si_WouldLoop, defScope si_WouldLoop, [], []⟩,
  ⟨("NothingToUndo", some "__init__"), "__init__", "NothingToUndo.__init__", defArgs si_NothingToUndo, defBody si_NothingToUndo, defScope si_NothingToUndo, [], []⟩]
def tf : List (He.Defn × Str) := []
def frees : List Str := (["LookupError", "RuntimeError", "ValueError", "isinstance", "len", "range", "repr"] : List Str)
def gloes : List Str := (("_law_source" : Str) :: ("_law_draw" : Str) :: ("_law_pick" : Str) :: ("_law_arguments" : Str) :: ("_law_states" : Str) :: ("_law_kinds" : Str) :: ("_law_bases" : Str) :: ("_law_all_right" : Str) :: ("law" : Str) :: ("InvalidSelection" : Str) :: ("DialError" : Str) :: ("InvalidRun" : Str) :: ("InvalidLabel" : Str) :: ("InvalidForest" : Str) :: ("InvalidOrder" : Str) :: ("InvalidTable" : Str) :: ("InvalidPrices" : Str) :: ("InvalidNumbers" : Str) :: ("TooLarge" : Str) :: ("InvalidEdit" : Str) :: ("InvalidRank" : Str) :: ("InvalidText" : Str) :: ("NotChild" : Str) :: ("DialStateError" : Str) :: ("NotRoot" : Str) :: ("Unreachable" : Str) :: ("NothingRemains" : Str) :: ("NotRemovable" : Str) :: ("NotClearing" : Str) :: ("WouldLoop" : Str) :: ("NothingToUndo" : Str) :: ("DialLookupError" : Str) :: [] : List Str)
def chk (K : PySem.W.Frag) : Bool := frees.all (fun x => (He.Fa.free x).ok K) && (gloes.all (fun x => (He.Fa.glo x).ok K) && (excFB K (He.ga K "InvalidSelection") (He.ga K "DialError") "name" && (excFB K (He.ga K "InvalidRun") (He.ga K "DialError") "position" && (excFB K (He.ga K "InvalidLabel") (He.ga K "DialError") "label" && (excFB K (He.ga K "InvalidForest") (He.ga K "DialError") "path" && (excFB K (He.ga K "InvalidOrder") (He.ga K "DialError") "order" && (excFB K (He.ga K "InvalidTable") (He.ga K "DialError") "label" && (excFB K (He.ga K "InvalidPrices") (He.ga K "DialError") "path" && (excFB K (He.ga K "InvalidNumbers") (He.ga K "DialError") "path" && (excFB K (He.ga K "TooLarge") (He.ga K "DialError") "limit" && (excFB K (He.ga K "InvalidEdit") (He.ga K "DialError") "path" && (excFB K (He.ga K "InvalidRank") (He.ga K "DialError") "rank" && (excFB K (He.ga K "InvalidText") (He.ga K "DialError") "line" && (excFTB .re K (He.ga K "NotChild") (He.ga K "DialStateError") "label" && (excFTB .re K (He.ga K "NotRoot") (He.ga K "DialStateError") "label" && (excFTB .re K (He.ga K "Unreachable") (He.ga K "DialStateError") "reason" && (excFTB .re K (He.ga K "NothingRemains") (He.ga K "DialStateError") "length" && (excFTB .re K (He.ga K "NotRemovable") (He.ga K "DialStateError") "label" && (excFTB .re K (He.ga K "NotClearing") (He.ga K "DialStateError") "length" && (excFTB .re K (He.ga K "WouldLoop") (He.ga K "DialStateError") "label" && (excFTB .le K (He.ga K "NothingToUndo") (He.ga K "DialLookupError") "action" && (excCB K (He.ga K "InvalidSelection") && (excCB K (He.ga K "InvalidRun") && (excCB K (He.ga K "InvalidLabel") && (excCB K (He.ga K "InvalidForest") && (excCB K (He.ga K "InvalidOrder") && (excCB K (He.ga K "InvalidTable") && (excCB K (He.ga K "InvalidPrices") && (excCB K (He.ga K "InvalidNumbers") && (excCB K (He.ga K "TooLarge") && (excCB K (He.ga K "InvalidEdit") && (excCB K (He.ga K "InvalidRank") && (excCB K (He.ga K "InvalidText") && (excCB K (He.ga K "NotChild") && (excCB K (He.ga K "NotRoot") && (excCB K (He.ga K "Unreachable") && (excCB K (He.ga K "NothingRemains") && (excCB K (He.ga K "NotRemovable") && (excCB K (He.ga K "NotClearing") && (excCB K (He.ga K "WouldLoop") && (excCB K (He.ga K "NothingToUndo") && (decide (PySem.W.kitOne K (.ref (He.ga K "InvalidSelection")) (.ref (He.ga K "InvalidRun")) = some false) && (decide (PySem.W.kitOne K (.ref (He.ga K "InvalidRun")) (.ref (He.ga K "InvalidRun")) = some true) && (decide (PySem.W.kitOne K (.ref (He.ga K "InvalidLabel")) (.ref (He.ga K "InvalidRun")) = some false) && (decide (PySem.W.kitOne K (.ref (He.ga K "InvalidForest")) (.ref (He.ga K "InvalidRun")) = some false) && (decide (PySem.W.kitOne K (.ref (He.ga K "InvalidOrder")) (.ref (He.ga K "InvalidRun")) = some false) && (decide (PySem.W.kitOne K (.ref (He.ga K "InvalidTable")) (.ref (He.ga K "InvalidRun")) = some false) && (decide (PySem.W.kitOne K (.ref (He.ga K "InvalidPrices")) (.ref (He.ga K "InvalidRun")) = some false) && (decide (PySem.W.kitOne K (.ref (He.ga K "InvalidNumbers")) (.ref (He.ga K "InvalidRun")) = some false) && (decide (PySem.W.kitOne K (.ref (He.ga K "TooLarge")) (.ref (He.ga K "InvalidRun")) = some false) && (decide (PySem.W.kitOne K (.ref (He.ga K "InvalidEdit")) (.ref (He.ga K "InvalidRun")) = some false) && (decide (PySem.W.kitOne K (.ref (He.ga K "InvalidRank")) (.ref (He.ga K "InvalidRun")) = some false) && (decide (PySem.W.kitOne K (.ref (He.ga K "InvalidText")) (.ref (He.ga K "InvalidRun")) = some false) && (decide (PySem.W.kitOne K (.ref (He.ga K "NotChild")) (.ref (He.ga K "InvalidRun")) = some false) && (decide (PySem.W.kitOne K (.ref (He.ga K "NotRoot")) (.ref (He.ga K "InvalidRun")) = some false) && (decide (PySem.W.kitOne K (.ref (He.ga K "Unreachable")) (.ref (He.ga K "InvalidRun")) = some false) && (decide (PySem.W.kitOne K (.ref (He.ga K "NothingRemains")) (.ref (He.ga K "InvalidRun")) = some false) && (decide (PySem.W.kitOne K (.ref (He.ga K "NotRemovable")) (.ref (He.ga K "InvalidRun")) = some false) && (decide (PySem.W.kitOne K (.ref (He.ga K "NotClearing")) (.ref (He.ga K "InvalidRun")) = some false) && (decide (PySem.W.kitOne K (.ref (He.ga K "WouldLoop")) (.ref (He.ga K "InvalidRun")) = some false) && (decide (PySem.W.kitOne K (.ref (He.ga K "NothingToUndo")) (.ref (He.ga K "InvalidRun")) = some false) && (decide (PySem.W.kitOne K (.ref (He.ga K "InvalidSelection")) (.ref (He.ga K "InvalidLabel")) = some false) && (decide (PySem.W.kitOne K (.ref (He.ga K "InvalidRun")) (.ref (He.ga K "InvalidLabel")) = some false) && (decide (PySem.W.kitOne K (.ref (He.ga K "InvalidLabel")) (.ref (He.ga K "InvalidLabel")) = some true) && (decide (PySem.W.kitOne K (.ref (He.ga K "InvalidForest")) (.ref (He.ga K "InvalidLabel")) = some false) && (decide (PySem.W.kitOne K (.ref (He.ga K "InvalidOrder")) (.ref (He.ga K "InvalidLabel")) = some false) && (decide (PySem.W.kitOne K (.ref (He.ga K "InvalidTable")) (.ref (He.ga K "InvalidLabel")) = some false) && (decide (PySem.W.kitOne K (.ref (He.ga K "InvalidPrices")) (.ref (He.ga K "InvalidLabel")) = some false) && (decide (PySem.W.kitOne K (.ref (He.ga K "InvalidNumbers")) (.ref (He.ga K "InvalidLabel")) = some false) && (decide (PySem.W.kitOne K (.ref (He.ga K "TooLarge")) (.ref (He.ga K "InvalidLabel")) = some false) && (decide (PySem.W.kitOne K (.ref (He.ga K "InvalidEdit")) (.ref (He.ga K "InvalidLabel")) = some false) && (decide (PySem.W.kitOne K (.ref (He.ga K "InvalidRank")) (.ref (He.ga K "InvalidLabel")) = some false) && (decide (PySem.W.kitOne K (.ref (He.ga K "InvalidText")) (.ref (He.ga K "InvalidLabel")) = some false) && (decide (PySem.W.kitOne K (.ref (He.ga K "NotChild")) (.ref (He.ga K "InvalidLabel")) = some false) && (decide (PySem.W.kitOne K (.ref (He.ga K "NotRoot")) (.ref (He.ga K "InvalidLabel")) = some false) && (decide (PySem.W.kitOne K (.ref (He.ga K "Unreachable")) (.ref (He.ga K "InvalidLabel")) = some false) && (decide (PySem.W.kitOne K (.ref (He.ga K "NothingRemains")) (.ref (He.ga K "InvalidLabel")) = some false) && (decide (PySem.W.kitOne K (.ref (He.ga K "NotRemovable")) (.ref (He.ga K "InvalidLabel")) = some false) && (decide (PySem.W.kitOne K (.ref (He.ga K "NotClearing")) (.ref (He.ga K "InvalidLabel")) = some false) && (decide (PySem.W.kitOne K (.ref (He.ga K "WouldLoop")) (.ref (He.ga K "InvalidLabel")) = some false) && (decide (PySem.W.kitOne K (.ref (He.ga K "NothingToUndo")) (.ref (He.ga K "InvalidLabel")) = some false) && (decide (PySem.W.kitOne K (.ref (He.ga K "InvalidSelection")) (.ref (He.ga K "InvalidForest")) = some false) && (decide (PySem.W.kitOne K (.ref (He.ga K "InvalidRun")) (.ref (He.ga K "InvalidForest")) = some false) && (decide (PySem.W.kitOne K (.ref (He.ga K "InvalidLabel")) (.ref (He.ga K "InvalidForest")) = some false) && (decide (PySem.W.kitOne K (.ref (He.ga K "InvalidForest")) (.ref (He.ga K "InvalidForest")) = some true) && (decide (PySem.W.kitOne K (.ref (He.ga K "InvalidOrder")) (.ref (He.ga K "InvalidForest")) = some false) && (decide (PySem.W.kitOne K (.ref (He.ga K "InvalidTable")) (.ref (He.ga K "InvalidForest")) = some false) && (decide (PySem.W.kitOne K (.ref (He.ga K "InvalidPrices")) (.ref (He.ga K "InvalidForest")) = some false) && (decide (PySem.W.kitOne K (.ref (He.ga K "InvalidNumbers")) (.ref (He.ga K "InvalidForest")) = some false) && (decide (PySem.W.kitOne K (.ref (He.ga K "TooLarge")) (.ref (He.ga K "InvalidForest")) = some false) && (decide (PySem.W.kitOne K (.ref (He.ga K "InvalidEdit")) (.ref (He.ga K "InvalidForest")) = some false) && (decide (PySem.W.kitOne K (.ref (He.ga K "InvalidRank")) (.ref (He.ga K "InvalidForest")) = some false) && (decide (PySem.W.kitOne K (.ref (He.ga K "InvalidText")) (.ref (He.ga K "InvalidForest")) = some false) && (decide (PySem.W.kitOne K (.ref (He.ga K "NotChild")) (.ref (He.ga K "InvalidForest")) = some false) && (decide (PySem.W.kitOne K (.ref (He.ga K "NotRoot")) (.ref (He.ga K "InvalidForest")) = some false) && (decide (PySem.W.kitOne K (.ref (He.ga K "Unreachable")) (.ref (He.ga K "InvalidForest")) = some false) && (decide (PySem.W.kitOne K (.ref (He.ga K "NothingRemains")) (.ref (He.ga K "InvalidForest")) = some false) && (decide (PySem.W.kitOne K (.ref (He.ga K "NotRemovable")) (.ref (He.ga K "InvalidForest")) = some false) && (decide (PySem.W.kitOne K (.ref (He.ga K "NotClearing")) (.ref (He.ga K "InvalidForest")) = some false) && (decide (PySem.W.kitOne K (.ref (He.ga K "WouldLoop")) (.ref (He.ga K "InvalidForest")) = some false) && (decide (PySem.W.kitOne K (.ref (He.ga K "NothingToUndo")) (.ref (He.ga K "InvalidForest")) = some false) && (decide (PySem.W.kitOne K (.ref (He.ga K "InvalidSelection")) (.ref (He.ga K "InvalidNumbers")) = some false) && (decide (PySem.W.kitOne K (.ref (He.ga K "InvalidRun")) (.ref (He.ga K "InvalidNumbers")) = some false) && (decide (PySem.W.kitOne K (.ref (He.ga K "InvalidLabel")) (.ref (He.ga K "InvalidNumbers")) = some false) && (decide (PySem.W.kitOne K (.ref (He.ga K "InvalidForest")) (.ref (He.ga K "InvalidNumbers")) = some false) && (decide (PySem.W.kitOne K (.ref (He.ga K "InvalidOrder")) (.ref (He.ga K "InvalidNumbers")) = some false) && (decide (PySem.W.kitOne K (.ref (He.ga K "InvalidTable")) (.ref (He.ga K "InvalidNumbers")) = some false) && (decide (PySem.W.kitOne K (.ref (He.ga K "InvalidPrices")) (.ref (He.ga K "InvalidNumbers")) = some false) && (decide (PySem.W.kitOne K (.ref (He.ga K "InvalidNumbers")) (.ref (He.ga K "InvalidNumbers")) = some true) && (decide (PySem.W.kitOne K (.ref (He.ga K "TooLarge")) (.ref (He.ga K "InvalidNumbers")) = some false) && (decide (PySem.W.kitOne K (.ref (He.ga K "InvalidEdit")) (.ref (He.ga K "InvalidNumbers")) = some false) && (decide (PySem.W.kitOne K (.ref (He.ga K "InvalidRank")) (.ref (He.ga K "InvalidNumbers")) = some false) && (decide (PySem.W.kitOne K (.ref (He.ga K "InvalidText")) (.ref (He.ga K "InvalidNumbers")) = some false) && (decide (PySem.W.kitOne K (.ref (He.ga K "NotChild")) (.ref (He.ga K "InvalidNumbers")) = some false) && (decide (PySem.W.kitOne K (.ref (He.ga K "NotRoot")) (.ref (He.ga K "InvalidNumbers")) = some false) && (decide (PySem.W.kitOne K (.ref (He.ga K "Unreachable")) (.ref (He.ga K "InvalidNumbers")) = some false) && (decide (PySem.W.kitOne K (.ref (He.ga K "NothingRemains")) (.ref (He.ga K "InvalidNumbers")) = some false) && (decide (PySem.W.kitOne K (.ref (He.ga K "NotRemovable")) (.ref (He.ga K "InvalidNumbers")) = some false) && (decide (PySem.W.kitOne K (.ref (He.ga K "NotClearing")) (.ref (He.ga K "InvalidNumbers")) = some false) && (decide (PySem.W.kitOne K (.ref (He.ga K "WouldLoop")) (.ref (He.ga K "InvalidNumbers")) = some false) && (decide (PySem.W.kitOne K (.ref (He.ga K "NothingToUndo")) (.ref (He.ga K "InvalidNumbers")) = some false) && (decide (PySem.W.kitOne K (.ref (He.ga K "InvalidSelection")) (.ref (He.ga K "InvalidSelection")) = some true) && (decide (PySem.W.kitOne K (.ref (He.ga K "InvalidRun")) (.ref (He.ga K "InvalidSelection")) = some false) && (decide (PySem.W.kitOne K (.ref (He.ga K "InvalidLabel")) (.ref (He.ga K "InvalidSelection")) = some false) && (decide (PySem.W.kitOne K (.ref (He.ga K "InvalidForest")) (.ref (He.ga K "InvalidSelection")) = some false) && (decide (PySem.W.kitOne K (.ref (He.ga K "InvalidOrder")) (.ref (He.ga K "InvalidSelection")) = some false) && (decide (PySem.W.kitOne K (.ref (He.ga K "InvalidTable")) (.ref (He.ga K "InvalidSelection")) = some false) && (decide (PySem.W.kitOne K (.ref (He.ga K "InvalidPrices")) (.ref (He.ga K "InvalidSelection")) = some false) && (decide (PySem.W.kitOne K (.ref (He.ga K "InvalidNumbers")) (.ref (He.ga K "InvalidSelection")) = some false) && (decide (PySem.W.kitOne K (.ref (He.ga K "TooLarge")) (.ref (He.ga K "InvalidSelection")) = some false) && (decide (PySem.W.kitOne K (.ref (He.ga K "InvalidEdit")) (.ref (He.ga K "InvalidSelection")) = some false) && (decide (PySem.W.kitOne K (.ref (He.ga K "InvalidRank")) (.ref (He.ga K "InvalidSelection")) = some false) && (decide (PySem.W.kitOne K (.ref (He.ga K "InvalidText")) (.ref (He.ga K "InvalidSelection")) = some false) && (decide (PySem.W.kitOne K (.ref (He.ga K "NotChild")) (.ref (He.ga K "InvalidSelection")) = some false) && (decide (PySem.W.kitOne K (.ref (He.ga K "NotRoot")) (.ref (He.ga K "InvalidSelection")) = some false) && (decide (PySem.W.kitOne K (.ref (He.ga K "Unreachable")) (.ref (He.ga K "InvalidSelection")) = some false) && (decide (PySem.W.kitOne K (.ref (He.ga K "NothingRemains")) (.ref (He.ga K "InvalidSelection")) = some false) && (decide (PySem.W.kitOne K (.ref (He.ga K "NotRemovable")) (.ref (He.ga K "InvalidSelection")) = some false) && (decide (PySem.W.kitOne K (.ref (He.ga K "NotClearing")) (.ref (He.ga K "InvalidSelection")) = some false) && (decide (PySem.W.kitOne K (.ref (He.ga K "WouldLoop")) (.ref (He.ga K "InvalidSelection")) = some false) && (decide (PySem.W.kitOne K (.ref (He.ga K "NothingToUndo")) (.ref (He.ga K "InvalidSelection")) = some false) && (decide (PySem.W.kitOne K (.ref (He.ga K "InvalidSelection")) (.ref (He.ga K "InvalidOrder")) = some false) && (decide (PySem.W.kitOne K (.ref (He.ga K "InvalidRun")) (.ref (He.ga K "InvalidOrder")) = some false) && (decide (PySem.W.kitOne K (.ref (He.ga K "InvalidLabel")) (.ref (He.ga K "InvalidOrder")) = some false) && (decide (PySem.W.kitOne K (.ref (He.ga K "InvalidForest")) (.ref (He.ga K "InvalidOrder")) = some false) && (decide (PySem.W.kitOne K (.ref (He.ga K "InvalidOrder")) (.ref (He.ga K "InvalidOrder")) = some true) && (decide (PySem.W.kitOne K (.ref (He.ga K "InvalidTable")) (.ref (He.ga K "InvalidOrder")) = some false) && (decide (PySem.W.kitOne K (.ref (He.ga K "InvalidPrices")) (.ref (He.ga K "InvalidOrder")) = some false) && (decide (PySem.W.kitOne K (.ref (He.ga K "InvalidNumbers")) (.ref (He.ga K "InvalidOrder")) = some false) && (decide (PySem.W.kitOne K (.ref (He.ga K "TooLarge")) (.ref (He.ga K "InvalidOrder")) = some false) && (decide (PySem.W.kitOne K (.ref (He.ga K "InvalidEdit")) (.ref (He.ga K "InvalidOrder")) = some false) && (decide (PySem.W.kitOne K (.ref (He.ga K "InvalidRank")) (.ref (He.ga K "InvalidOrder")) = some false) && (decide (PySem.W.kitOne K (.ref (He.ga K "InvalidText")) (.ref (He.ga K "InvalidOrder")) = some false) && (decide (PySem.W.kitOne K (.ref (He.ga K "NotChild")) (.ref (He.ga K "InvalidOrder")) = some false) && (decide (PySem.W.kitOne K (.ref (He.ga K "NotRoot")) (.ref (He.ga K "InvalidOrder")) = some false) && (decide (PySem.W.kitOne K (.ref (He.ga K "Unreachable")) (.ref (He.ga K "InvalidOrder")) = some false) && (decide (PySem.W.kitOne K (.ref (He.ga K "NothingRemains")) (.ref (He.ga K "InvalidOrder")) = some false) && (decide (PySem.W.kitOne K (.ref (He.ga K "NotRemovable")) (.ref (He.ga K "InvalidOrder")) = some false) && (decide (PySem.W.kitOne K (.ref (He.ga K "NotClearing")) (.ref (He.ga K "InvalidOrder")) = some false) && (decide (PySem.W.kitOne K (.ref (He.ga K "WouldLoop")) (.ref (He.ga K "InvalidOrder")) = some false) && (decide (PySem.W.kitOne K (.ref (He.ga K "NothingToUndo")) (.ref (He.ga K "InvalidOrder")) = some false) && (decide (PySem.W.kitOne K (.ref (He.ga K "InvalidSelection")) (.ref (He.ga K "InvalidTable")) = some false) && (decide (PySem.W.kitOne K (.ref (He.ga K "InvalidRun")) (.ref (He.ga K "InvalidTable")) = some false) && (decide (PySem.W.kitOne K (.ref (He.ga K "InvalidLabel")) (.ref (He.ga K "InvalidTable")) = some false) && (decide (PySem.W.kitOne K (.ref (He.ga K "InvalidForest")) (.ref (He.ga K "InvalidTable")) = some false) && (decide (PySem.W.kitOne K (.ref (He.ga K "InvalidOrder")) (.ref (He.ga K "InvalidTable")) = some false) && (decide (PySem.W.kitOne K (.ref (He.ga K "InvalidTable")) (.ref (He.ga K "InvalidTable")) = some true) && (decide (PySem.W.kitOne K (.ref (He.ga K "InvalidPrices")) (.ref (He.ga K "InvalidTable")) = some false) && (decide (PySem.W.kitOne K (.ref (He.ga K "InvalidNumbers")) (.ref (He.ga K "InvalidTable")) = some false) && (decide (PySem.W.kitOne K (.ref (He.ga K "TooLarge")) (.ref (He.ga K "InvalidTable")) = some false) && (decide (PySem.W.kitOne K (.ref (He.ga K "InvalidEdit")) (.ref (He.ga K "InvalidTable")) = some false) && (decide (PySem.W.kitOne K (.ref (He.ga K "InvalidRank")) (.ref (He.ga K "InvalidTable")) = some false) && (decide (PySem.W.kitOne K (.ref (He.ga K "InvalidText")) (.ref (He.ga K "InvalidTable")) = some false) && (decide (PySem.W.kitOne K (.ref (He.ga K "NotChild")) (.ref (He.ga K "InvalidTable")) = some false) && (decide (PySem.W.kitOne K (.ref (He.ga K "NotRoot")) (.ref (He.ga K "InvalidTable")) = some false) && (decide (PySem.W.kitOne K (.ref (He.ga K "Unreachable")) (.ref (He.ga K "InvalidTable")) = some false) && (decide (PySem.W.kitOne K (.ref (He.ga K "NothingRemains")) (.ref (He.ga K "InvalidTable")) = some false) && (decide (PySem.W.kitOne K (.ref (He.ga K "NotRemovable")) (.ref (He.ga K "InvalidTable")) = some false) && (decide (PySem.W.kitOne K (.ref (He.ga K "NotClearing")) (.ref (He.ga K "InvalidTable")) = some false) && (decide (PySem.W.kitOne K (.ref (He.ga K "WouldLoop")) (.ref (He.ga K "InvalidTable")) = some false) && (decide (PySem.W.kitOne K (.ref (He.ga K "NothingToUndo")) (.ref (He.ga K "InvalidTable")) = some false) && (decide (PySem.W.kitOne K (.ref (He.ga K "InvalidSelection")) (.ref (He.ga K "InvalidPrices")) = some false) && (decide (PySem.W.kitOne K (.ref (He.ga K "InvalidRun")) (.ref (He.ga K "InvalidPrices")) = some false) && (decide (PySem.W.kitOne K (.ref (He.ga K "InvalidLabel")) (.ref (He.ga K "InvalidPrices")) = some false) && (decide (PySem.W.kitOne K (.ref (He.ga K "InvalidForest")) (.ref (He.ga K "InvalidPrices")) = some false) && (decide (PySem.W.kitOne K (.ref (He.ga K "InvalidOrder")) (.ref (He.ga K "InvalidPrices")) = some false) && (decide (PySem.W.kitOne K (.ref (He.ga K "InvalidTable")) (.ref (He.ga K "InvalidPrices")) = some false) && (decide (PySem.W.kitOne K (.ref (He.ga K "InvalidPrices")) (.ref (He.ga K "InvalidPrices")) = some true) && (decide (PySem.W.kitOne K (.ref (He.ga K "InvalidNumbers")) (.ref (He.ga K "InvalidPrices")) = some false) && (decide (PySem.W.kitOne K (.ref (He.ga K "TooLarge")) (.ref (He.ga K "InvalidPrices")) = some false) && (decide (PySem.W.kitOne K (.ref (He.ga K "InvalidEdit")) (.ref (He.ga K "InvalidPrices")) = some false) && (decide (PySem.W.kitOne K (.ref (He.ga K "InvalidRank")) (.ref (He.ga K "InvalidPrices")) = some false) && (decide (PySem.W.kitOne K (.ref (He.ga K "InvalidText")) (.ref (He.ga K "InvalidPrices")) = some false) && (decide (PySem.W.kitOne K (.ref (He.ga K "NotChild")) (.ref (He.ga K "InvalidPrices")) = some false) && (decide (PySem.W.kitOne K (.ref (He.ga K "NotRoot")) (.ref (He.ga K "InvalidPrices")) = some false) && (decide (PySem.W.kitOne K (.ref (He.ga K "Unreachable")) (.ref (He.ga K "InvalidPrices")) = some false) && (decide (PySem.W.kitOne K (.ref (He.ga K "NothingRemains")) (.ref (He.ga K "InvalidPrices")) = some false) && (decide (PySem.W.kitOne K (.ref (He.ga K "NotRemovable")) (.ref (He.ga K "InvalidPrices")) = some false) && (decide (PySem.W.kitOne K (.ref (He.ga K "NotClearing")) (.ref (He.ga K "InvalidPrices")) = some false) && (decide (PySem.W.kitOne K (.ref (He.ga K "WouldLoop")) (.ref (He.ga K "InvalidPrices")) = some false) && (decide (PySem.W.kitOne K (.ref (He.ga K "NothingToUndo")) (.ref (He.ga K "InvalidPrices")) = some false) && (decide (PySem.W.kitOne K (.ref (He.ga K "InvalidSelection")) (.ref (He.ga K "InvalidEdit")) = some false) && (decide (PySem.W.kitOne K (.ref (He.ga K "InvalidRun")) (.ref (He.ga K "InvalidEdit")) = some false) && (decide (PySem.W.kitOne K (.ref (He.ga K "InvalidLabel")) (.ref (He.ga K "InvalidEdit")) = some false) && (decide (PySem.W.kitOne K (.ref (He.ga K "InvalidForest")) (.ref (He.ga K "InvalidEdit")) = some false) && (decide (PySem.W.kitOne K (.ref (He.ga K "InvalidOrder")) (.ref (He.ga K "InvalidEdit")) = some false) && (decide (PySem.W.kitOne K (.ref (He.ga K "InvalidTable")) (.ref (He.ga K "InvalidEdit")) = some false) && (decide (PySem.W.kitOne K (.ref (He.ga K "InvalidPrices")) (.ref (He.ga K "InvalidEdit")) = some false) && (decide (PySem.W.kitOne K (.ref (He.ga K "InvalidNumbers")) (.ref (He.ga K "InvalidEdit")) = some false) && (decide (PySem.W.kitOne K (.ref (He.ga K "TooLarge")) (.ref (He.ga K "InvalidEdit")) = some false) && (decide (PySem.W.kitOne K (.ref (He.ga K "InvalidEdit")) (.ref (He.ga K "InvalidEdit")) = some true) && (decide (PySem.W.kitOne K (.ref (He.ga K "InvalidRank")) (.ref (He.ga K "InvalidEdit")) = some false) && (decide (PySem.W.kitOne K (.ref (He.ga K "InvalidText")) (.ref (He.ga K "InvalidEdit")) = some false) && (decide (PySem.W.kitOne K (.ref (He.ga K "NotChild")) (.ref (He.ga K "InvalidEdit")) = some false) && (decide (PySem.W.kitOne K (.ref (He.ga K "NotRoot")) (.ref (He.ga K "InvalidEdit")) = some false) && (decide (PySem.W.kitOne K (.ref (He.ga K "Unreachable")) (.ref (He.ga K "InvalidEdit")) = some false) && (decide (PySem.W.kitOne K (.ref (He.ga K "NothingRemains")) (.ref (He.ga K "InvalidEdit")) = some false) && (decide (PySem.W.kitOne K (.ref (He.ga K "NotRemovable")) (.ref (He.ga K "InvalidEdit")) = some false) && (decide (PySem.W.kitOne K (.ref (He.ga K "NotClearing")) (.ref (He.ga K "InvalidEdit")) = some false) && (decide (PySem.W.kitOne K (.ref (He.ga K "WouldLoop")) (.ref (He.ga K "InvalidEdit")) = some false) && (decide (PySem.W.kitOne K (.ref (He.ga K "NothingToUndo")) (.ref (He.ga K "InvalidEdit")) = some false) && (decide (PySem.W.kitOne K (.ref (He.ga K "InvalidSelection")) (.ref (He.ga K "InvalidRank")) = some false) && (decide (PySem.W.kitOne K (.ref (He.ga K "InvalidRun")) (.ref (He.ga K "InvalidRank")) = some false) && (decide (PySem.W.kitOne K (.ref (He.ga K "InvalidLabel")) (.ref (He.ga K "InvalidRank")) = some false) && (decide (PySem.W.kitOne K (.ref (He.ga K "InvalidForest")) (.ref (He.ga K "InvalidRank")) = some false) && (decide (PySem.W.kitOne K (.ref (He.ga K "InvalidOrder")) (.ref (He.ga K "InvalidRank")) = some false) && (decide (PySem.W.kitOne K (.ref (He.ga K "InvalidTable")) (.ref (He.ga K "InvalidRank")) = some false) && (decide (PySem.W.kitOne K (.ref (He.ga K "InvalidPrices")) (.ref (He.ga K "InvalidRank")) = some false) && (decide (PySem.W.kitOne K (.ref (He.ga K "InvalidNumbers")) (.ref (He.ga K "InvalidRank")) = some false) && (decide (PySem.W.kitOne K (.ref (He.ga K "TooLarge")) (.ref (He.ga K "InvalidRank")) = some false) && (decide (PySem.W.kitOne K (.ref (He.ga K "InvalidEdit")) (.ref (He.ga K "InvalidRank")) = some false) && (decide (PySem.W.kitOne K (.ref (He.ga K "InvalidRank")) (.ref (He.ga K "InvalidRank")) = some true) && (decide (PySem.W.kitOne K (.ref (He.ga K "InvalidText")) (.ref (He.ga K "InvalidRank")) = some false) && (decide (PySem.W.kitOne K (.ref (He.ga K "NotChild")) (.ref (He.ga K "InvalidRank")) = some false) && (decide (PySem.W.kitOne K (.ref (He.ga K "NotRoot")) (.ref (He.ga K "InvalidRank")) = some false) && (decide (PySem.W.kitOne K (.ref (He.ga K "Unreachable")) (.ref (He.ga K "InvalidRank")) = some false) && (decide (PySem.W.kitOne K (.ref (He.ga K "NothingRemains")) (.ref (He.ga K "InvalidRank")) = some false) && (decide (PySem.W.kitOne K (.ref (He.ga K "NotRemovable")) (.ref (He.ga K "InvalidRank")) = some false) && (decide (PySem.W.kitOne K (.ref (He.ga K "NotClearing")) (.ref (He.ga K "InvalidRank")) = some false) && (decide (PySem.W.kitOne K (.ref (He.ga K "WouldLoop")) (.ref (He.ga K "InvalidRank")) = some false) && (decide (PySem.W.kitOne K (.ref (He.ga K "NothingToUndo")) (.ref (He.ga K "InvalidRank")) = some false) && (decide (PySem.W.kitOne K (.ref (He.ga K "InvalidSelection")) (.ref (He.ga K "InvalidText")) = some false) && (decide (PySem.W.kitOne K (.ref (He.ga K "InvalidRun")) (.ref (He.ga K "InvalidText")) = some false) && (decide (PySem.W.kitOne K (.ref (He.ga K "InvalidLabel")) (.ref (He.ga K "InvalidText")) = some false) && (decide (PySem.W.kitOne K (.ref (He.ga K "InvalidForest")) (.ref (He.ga K "InvalidText")) = some false) && (decide (PySem.W.kitOne K (.ref (He.ga K "InvalidOrder")) (.ref (He.ga K "InvalidText")) = some false) && (decide (PySem.W.kitOne K (.ref (He.ga K "InvalidTable")) (.ref (He.ga K "InvalidText")) = some false) && (decide (PySem.W.kitOne K (.ref (He.ga K "InvalidPrices")) (.ref (He.ga K "InvalidText")) = some false) && (decide (PySem.W.kitOne K (.ref (He.ga K "InvalidNumbers")) (.ref (He.ga K "InvalidText")) = some false) && (decide (PySem.W.kitOne K (.ref (He.ga K "TooLarge")) (.ref (He.ga K "InvalidText")) = some false) && (decide (PySem.W.kitOne K (.ref (He.ga K "InvalidEdit")) (.ref (He.ga K "InvalidText")) = some false) && (decide (PySem.W.kitOne K (.ref (He.ga K "InvalidRank")) (.ref (He.ga K "InvalidText")) = some false) && (decide (PySem.W.kitOne K (.ref (He.ga K "InvalidText")) (.ref (He.ga K "InvalidText")) = some true) && (decide (PySem.W.kitOne K (.ref (He.ga K "NotChild")) (.ref (He.ga K "InvalidText")) = some false) && (decide (PySem.W.kitOne K (.ref (He.ga K "NotRoot")) (.ref (He.ga K "InvalidText")) = some false) && (decide (PySem.W.kitOne K (.ref (He.ga K "Unreachable")) (.ref (He.ga K "InvalidText")) = some false) && (decide (PySem.W.kitOne K (.ref (He.ga K "NothingRemains")) (.ref (He.ga K "InvalidText")) = some false) && (decide (PySem.W.kitOne K (.ref (He.ga K "NotRemovable")) (.ref (He.ga K "InvalidText")) = some false) && (decide (PySem.W.kitOne K (.ref (He.ga K "NotClearing")) (.ref (He.ga K "InvalidText")) = some false) && (decide (PySem.W.kitOne K (.ref (He.ga K "WouldLoop")) (.ref (He.ga K "InvalidText")) = some false) && (decide (PySem.W.kitOne K (.ref (He.ga K "NothingToUndo")) (.ref (He.ga K "InvalidText")) = some false) && (decide (PySem.W.kitOne K (.ref (He.ga K "InvalidSelection")) (.ref (He.ga K "NothingRemains")) = some false) && (decide (PySem.W.kitOne K (.ref (He.ga K "InvalidRun")) (.ref (He.ga K "NothingRemains")) = some false) && (decide (PySem.W.kitOne K (.ref (He.ga K "InvalidLabel")) (.ref (He.ga K "NothingRemains")) = some false) && (decide (PySem.W.kitOne K (.ref (He.ga K "InvalidForest")) (.ref (He.ga K "NothingRemains")) = some false) && (decide (PySem.W.kitOne K (.ref (He.ga K "InvalidOrder")) (.ref (He.ga K "NothingRemains")) = some false) && (decide (PySem.W.kitOne K (.ref (He.ga K "InvalidTable")) (.ref (He.ga K "NothingRemains")) = some false) && (decide (PySem.W.kitOne K (.ref (He.ga K "InvalidPrices")) (.ref (He.ga K "NothingRemains")) = some false) && (decide (PySem.W.kitOne K (.ref (He.ga K "InvalidNumbers")) (.ref (He.ga K "NothingRemains")) = some false) && (decide (PySem.W.kitOne K (.ref (He.ga K "TooLarge")) (.ref (He.ga K "NothingRemains")) = some false) && (decide (PySem.W.kitOne K (.ref (He.ga K "InvalidEdit")) (.ref (He.ga K "NothingRemains")) = some false) && (decide (PySem.W.kitOne K (.ref (He.ga K "InvalidRank")) (.ref (He.ga K "NothingRemains")) = some false) && (decide (PySem.W.kitOne K (.ref (He.ga K "InvalidText")) (.ref (He.ga K "NothingRemains")) = some false) && (decide (PySem.W.kitOne K (.ref (He.ga K "NotChild")) (.ref (He.ga K "NothingRemains")) = some false) && (decide (PySem.W.kitOne K (.ref (He.ga K "NotRoot")) (.ref (He.ga K "NothingRemains")) = some false) && (decide (PySem.W.kitOne K (.ref (He.ga K "Unreachable")) (.ref (He.ga K "NothingRemains")) = some false) && (decide (PySem.W.kitOne K (.ref (He.ga K "NothingRemains")) (.ref (He.ga K "NothingRemains")) = some true) && (decide (PySem.W.kitOne K (.ref (He.ga K "NotRemovable")) (.ref (He.ga K "NothingRemains")) = some false) && (decide (PySem.W.kitOne K (.ref (He.ga K "NotClearing")) (.ref (He.ga K "NothingRemains")) = some false) && (decide (PySem.W.kitOne K (.ref (He.ga K "WouldLoop")) (.ref (He.ga K "NothingRemains")) = some false) && (decide (PySem.W.kitOne K (.ref (He.ga K "NothingToUndo")) (.ref (He.ga K "NothingRemains")) = some false) && (decide (PySem.W.kitOne K (.ref (He.ga K "InvalidSelection")) (.ref (He.ga K "NotRemovable")) = some false) && (decide (PySem.W.kitOne K (.ref (He.ga K "InvalidRun")) (.ref (He.ga K "NotRemovable")) = some false) && (decide (PySem.W.kitOne K (.ref (He.ga K "InvalidLabel")) (.ref (He.ga K "NotRemovable")) = some false) && (decide (PySem.W.kitOne K (.ref (He.ga K "InvalidForest")) (.ref (He.ga K "NotRemovable")) = some false) && (decide (PySem.W.kitOne K (.ref (He.ga K "InvalidOrder")) (.ref (He.ga K "NotRemovable")) = some false) && (decide (PySem.W.kitOne K (.ref (He.ga K "InvalidTable")) (.ref (He.ga K "NotRemovable")) = some false) && (decide (PySem.W.kitOne K (.ref (He.ga K "InvalidPrices")) (.ref (He.ga K "NotRemovable")) = some false) && (decide (PySem.W.kitOne K (.ref (He.ga K "InvalidNumbers")) (.ref (He.ga K "NotRemovable")) = some false) && (decide (PySem.W.kitOne K (.ref (He.ga K "TooLarge")) (.ref (He.ga K "NotRemovable")) = some false) && (decide (PySem.W.kitOne K (.ref (He.ga K "InvalidEdit")) (.ref (He.ga K "NotRemovable")) = some false) && (decide (PySem.W.kitOne K (.ref (He.ga K "InvalidRank")) (.ref (He.ga K "NotRemovable")) = some false) && (decide (PySem.W.kitOne K (.ref (He.ga K "InvalidText")) (.ref (He.ga K "NotRemovable")) = some false) && (decide (PySem.W.kitOne K (.ref (He.ga K "NotChild")) (.ref (He.ga K "NotRemovable")) = some false) && (decide (PySem.W.kitOne K (.ref (He.ga K "NotRoot")) (.ref (He.ga K "NotRemovable")) = some false) && (decide (PySem.W.kitOne K (.ref (He.ga K "Unreachable")) (.ref (He.ga K "NotRemovable")) = some false) && (decide (PySem.W.kitOne K (.ref (He.ga K "NothingRemains")) (.ref (He.ga K "NotRemovable")) = some false) && (decide (PySem.W.kitOne K (.ref (He.ga K "NotRemovable")) (.ref (He.ga K "NotRemovable")) = some true) && (decide (PySem.W.kitOne K (.ref (He.ga K "NotClearing")) (.ref (He.ga K "NotRemovable")) = some false) && (decide (PySem.W.kitOne K (.ref (He.ga K "WouldLoop")) (.ref (He.ga K "NotRemovable")) = some false) && (decide (PySem.W.kitOne K (.ref (He.ga K "NothingToUndo")) (.ref (He.ga K "NotRemovable")) = some false) && (decide (PySem.W.kitOne K (.ref (He.ga K "InvalidSelection")) (.ref (He.ga K "TooLarge")) = some false) && (decide (PySem.W.kitOne K (.ref (He.ga K "InvalidRun")) (.ref (He.ga K "TooLarge")) = some false) && (decide (PySem.W.kitOne K (.ref (He.ga K "InvalidLabel")) (.ref (He.ga K "TooLarge")) = some false) && (decide (PySem.W.kitOne K (.ref (He.ga K "InvalidForest")) (.ref (He.ga K "TooLarge")) = some false) && (decide (PySem.W.kitOne K (.ref (He.ga K "InvalidOrder")) (.ref (He.ga K "TooLarge")) = some false) && (decide (PySem.W.kitOne K (.ref (He.ga K "InvalidTable")) (.ref (He.ga K "TooLarge")) = some false) && (decide (PySem.W.kitOne K (.ref (He.ga K "InvalidPrices")) (.ref (He.ga K "TooLarge")) = some false) && (decide (PySem.W.kitOne K (.ref (He.ga K "InvalidNumbers")) (.ref (He.ga K "TooLarge")) = some false) && (decide (PySem.W.kitOne K (.ref (He.ga K "TooLarge")) (.ref (He.ga K "TooLarge")) = some true) && (decide (PySem.W.kitOne K (.ref (He.ga K "InvalidEdit")) (.ref (He.ga K "TooLarge")) = some false) && (decide (PySem.W.kitOne K (.ref (He.ga K "InvalidRank")) (.ref (He.ga K "TooLarge")) = some false) && (decide (PySem.W.kitOne K (.ref (He.ga K "InvalidText")) (.ref (He.ga K "TooLarge")) = some false) && (decide (PySem.W.kitOne K (.ref (He.ga K "NotChild")) (.ref (He.ga K "TooLarge")) = some false) && (decide (PySem.W.kitOne K (.ref (He.ga K "NotRoot")) (.ref (He.ga K "TooLarge")) = some false) && (decide (PySem.W.kitOne K (.ref (He.ga K "Unreachable")) (.ref (He.ga K "TooLarge")) = some false) && (decide (PySem.W.kitOne K (.ref (He.ga K "NothingRemains")) (.ref (He.ga K "TooLarge")) = some false) && (decide (PySem.W.kitOne K (.ref (He.ga K "NotRemovable")) (.ref (He.ga K "TooLarge")) = some false) && (decide (PySem.W.kitOne K (.ref (He.ga K "NotClearing")) (.ref (He.ga K "TooLarge")) = some false) && (decide (PySem.W.kitOne K (.ref (He.ga K "WouldLoop")) (.ref (He.ga K "TooLarge")) = some false) && (decide (PySem.W.kitOne K (.ref (He.ga K "NothingToUndo")) (.ref (He.ga K "TooLarge")) = some false) && (decide (PySem.W.kitOne K (.ref (He.ga K "InvalidSelection")) (.ref (He.ga K "NotChild")) = some false) && (decide (PySem.W.kitOne K (.ref (He.ga K "InvalidRun")) (.ref (He.ga K "NotChild")) = some false) && (decide (PySem.W.kitOne K (.ref (He.ga K "InvalidLabel")) (.ref (He.ga K "NotChild")) = some false) && (decide (PySem.W.kitOne K (.ref (He.ga K "InvalidForest")) (.ref (He.ga K "NotChild")) = some false) && (decide (PySem.W.kitOne K (.ref (He.ga K "InvalidOrder")) (.ref (He.ga K "NotChild")) = some false) && (decide (PySem.W.kitOne K (.ref (He.ga K "InvalidTable")) (.ref (He.ga K "NotChild")) = some false) && (decide (PySem.W.kitOne K (.ref (He.ga K "InvalidPrices")) (.ref (He.ga K "NotChild")) = some false) && (decide (PySem.W.kitOne K (.ref (He.ga K "InvalidNumbers")) (.ref (He.ga K "NotChild")) = some false) && (decide (PySem.W.kitOne K (.ref (He.ga K "TooLarge")) (.ref (He.ga K "NotChild")) = some false) && (decide (PySem.W.kitOne K (.ref (He.ga K "InvalidEdit")) (.ref (He.ga K "NotChild")) = some false) && (decide (PySem.W.kitOne K (.ref (He.ga K "InvalidRank")) (.ref (He.ga K "NotChild")) = some false) && (decide (PySem.W.kitOne K (.ref (He.ga K "InvalidText")) (.ref (He.ga K "NotChild")) = some false) && (decide (PySem.W.kitOne K (.ref (He.ga K "NotChild")) (.ref (He.ga K "NotChild")) = some true) && (decide (PySem.W.kitOne K (.ref (He.ga K "NotRoot")) (.ref (He.ga K "NotChild")) = some false) && (decide (PySem.W.kitOne K (.ref (He.ga K "Unreachable")) (.ref (He.ga K "NotChild")) = some false) && (decide (PySem.W.kitOne K (.ref (He.ga K "NothingRemains")) (.ref (He.ga K "NotChild")) = some false) && (decide (PySem.W.kitOne K (.ref (He.ga K "NotRemovable")) (.ref (He.ga K "NotChild")) = some false) && (decide (PySem.W.kitOne K (.ref (He.ga K "NotClearing")) (.ref (He.ga K "NotChild")) = some false) && (decide (PySem.W.kitOne K (.ref (He.ga K "WouldLoop")) (.ref (He.ga K "NotChild")) = some false) && (decide (PySem.W.kitOne K (.ref (He.ga K "NothingToUndo")) (.ref (He.ga K "NotChild")) = some false) && (decide (PySem.W.kitOne K (.ref (He.ga K "InvalidSelection")) (.ref (He.ga K "NotRoot")) = some false) && (decide (PySem.W.kitOne K (.ref (He.ga K "InvalidRun")) (.ref (He.ga K "NotRoot")) = some false) && (decide (PySem.W.kitOne K (.ref (He.ga K "InvalidLabel")) (.ref (He.ga K "NotRoot")) = some false) && (decide (PySem.W.kitOne K (.ref (He.ga K "InvalidForest")) (.ref (He.ga K "NotRoot")) = some false) && (decide (PySem.W.kitOne K (.ref (He.ga K "InvalidOrder")) (.ref (He.ga K "NotRoot")) = some false) && (decide (PySem.W.kitOne K (.ref (He.ga K "InvalidTable")) (.ref (He.ga K "NotRoot")) = some false) && (decide (PySem.W.kitOne K (.ref (He.ga K "InvalidPrices")) (.ref (He.ga K "NotRoot")) = some false) && (decide (PySem.W.kitOne K (.ref (He.ga K "InvalidNumbers")) (.ref (He.ga K "NotRoot")) = some false) && (decide (PySem.W.kitOne K (.ref (He.ga K "TooLarge")) (.ref (He.ga K "NotRoot")) = some false) && (decide (PySem.W.kitOne K (.ref (He.ga K "InvalidEdit")) (.ref (He.ga K "NotRoot")) = some false) && (decide (PySem.W.kitOne K (.ref (He.ga K "InvalidRank")) (.ref (He.ga K "NotRoot")) = some false) && (decide (PySem.W.kitOne K (.ref (He.ga K "InvalidText")) (.ref (He.ga K "NotRoot")) = some false) && (decide (PySem.W.kitOne K (.ref (He.ga K "NotChild")) (.ref (He.ga K "NotRoot")) = some false) && (decide (PySem.W.kitOne K (.ref (He.ga K "NotRoot")) (.ref (He.ga K "NotRoot")) = some true) && (decide (PySem.W.kitOne K (.ref (He.ga K "Unreachable")) (.ref (He.ga K "NotRoot")) = some false) && (decide (PySem.W.kitOne K (.ref (He.ga K "NothingRemains")) (.ref (He.ga K "NotRoot")) = some false) && (decide (PySem.W.kitOne K (.ref (He.ga K "NotRemovable")) (.ref (He.ga K "NotRoot")) = some false) && (decide (PySem.W.kitOne K (.ref (He.ga K "NotClearing")) (.ref (He.ga K "NotRoot")) = some false) && (decide (PySem.W.kitOne K (.ref (He.ga K "WouldLoop")) (.ref (He.ga K "NotRoot")) = some false) && (decide (PySem.W.kitOne K (.ref (He.ga K "NothingToUndo")) (.ref (He.ga K "NotRoot")) = some false) && (decide (PySem.W.kitOne K (.ref (He.ga K "InvalidSelection")) (.ref (He.ga K "Unreachable")) = some false) && (decide (PySem.W.kitOne K (.ref (He.ga K "InvalidRun")) (.ref (He.ga K "Unreachable")) = some false) && (decide (PySem.W.kitOne K (.ref (He.ga K "InvalidLabel")) (.ref (He.ga K "Unreachable")) = some false) && (decide (PySem.W.kitOne K (.ref (He.ga K "InvalidForest")) (.ref (He.ga K "Unreachable")) = some false) && (decide (PySem.W.kitOne K (.ref (He.ga K "InvalidOrder")) (.ref (He.ga K "Unreachable")) = some false) && (decide (PySem.W.kitOne K (.ref (He.ga K "InvalidTable")) (.ref (He.ga K "Unreachable")) = some false) && (decide (PySem.W.kitOne K (.ref (He.ga K "InvalidPrices")) (.ref (He.ga K "Unreachable")) = some false) && (decide (PySem.W.kitOne K (.ref (He.ga K "InvalidNumbers")) (.ref (He.ga K "Unreachable")) = some false) && (decide (PySem.W.kitOne K (.ref (He.ga K "TooLarge")) (.ref (He.ga K "Unreachable")) = some false) && (decide (PySem.W.kitOne K (.ref (He.ga K "InvalidEdit")) (.ref (He.ga K "Unreachable")) = some false) && (decide (PySem.W.kitOne K (.ref (He.ga K "InvalidRank")) (.ref (He.ga K "Unreachable")) = some false) && (decide (PySem.W.kitOne K (.ref (He.ga K "InvalidText")) (.ref (He.ga K "Unreachable")) = some false) && (decide (PySem.W.kitOne K (.ref (He.ga K "NotChild")) (.ref (He.ga K "Unreachable")) = some false) && (decide (PySem.W.kitOne K (.ref (He.ga K "NotRoot")) (.ref (He.ga K "Unreachable")) = some false) && (decide (PySem.W.kitOne K (.ref (He.ga K "Unreachable")) (.ref (He.ga K "Unreachable")) = some true) && (decide (PySem.W.kitOne K (.ref (He.ga K "NothingRemains")) (.ref (He.ga K "Unreachable")) = some false) && (decide (PySem.W.kitOne K (.ref (He.ga K "NotRemovable")) (.ref (He.ga K "Unreachable")) = some false) && (decide (PySem.W.kitOne K (.ref (He.ga K "NotClearing")) (.ref (He.ga K "Unreachable")) = some false) && (decide (PySem.W.kitOne K (.ref (He.ga K "WouldLoop")) (.ref (He.ga K "Unreachable")) = some false) && (decide (PySem.W.kitOne K (.ref (He.ga K "NothingToUndo")) (.ref (He.ga K "Unreachable")) = some false) && (decide (PySem.W.kitOne K (.ref (He.ga K "InvalidSelection")) (.ref (He.ga K "NothingToUndo")) = some false) && (decide (PySem.W.kitOne K (.ref (He.ga K "InvalidRun")) (.ref (He.ga K "NothingToUndo")) = some false) && (decide (PySem.W.kitOne K (.ref (He.ga K "InvalidLabel")) (.ref (He.ga K "NothingToUndo")) = some false) && (decide (PySem.W.kitOne K (.ref (He.ga K "InvalidForest")) (.ref (He.ga K "NothingToUndo")) = some false) && (decide (PySem.W.kitOne K (.ref (He.ga K "InvalidOrder")) (.ref (He.ga K "NothingToUndo")) = some false) && (decide (PySem.W.kitOne K (.ref (He.ga K "InvalidTable")) (.ref (He.ga K "NothingToUndo")) = some false) && (decide (PySem.W.kitOne K (.ref (He.ga K "InvalidPrices")) (.ref (He.ga K "NothingToUndo")) = some false) && (decide (PySem.W.kitOne K (.ref (He.ga K "InvalidNumbers")) (.ref (He.ga K "NothingToUndo")) = some false) && (decide (PySem.W.kitOne K (.ref (He.ga K "TooLarge")) (.ref (He.ga K "NothingToUndo")) = some false) && (decide (PySem.W.kitOne K (.ref (He.ga K "InvalidEdit")) (.ref (He.ga K "NothingToUndo")) = some false) && (decide (PySem.W.kitOne K (.ref (He.ga K "InvalidRank")) (.ref (He.ga K "NothingToUndo")) = some false) && (decide (PySem.W.kitOne K (.ref (He.ga K "InvalidText")) (.ref (He.ga K "NothingToUndo")) = some false) && (decide (PySem.W.kitOne K (.ref (He.ga K "NotChild")) (.ref (He.ga K "NothingToUndo")) = some false) && (decide (PySem.W.kitOne K (.ref (He.ga K "NotRoot")) (.ref (He.ga K "NothingToUndo")) = some false) && (decide (PySem.W.kitOne K (.ref (He.ga K "Unreachable")) (.ref (He.ga K "NothingToUndo")) = some false) && (decide (PySem.W.kitOne K (.ref (He.ga K "NothingRemains")) (.ref (He.ga K "NothingToUndo")) = some false) && (decide (PySem.W.kitOne K (.ref (He.ga K "NotRemovable")) (.ref (He.ga K "NothingToUndo")) = some false) && (decide (PySem.W.kitOne K (.ref (He.ga K "NotClearing")) (.ref (He.ga K "NothingToUndo")) = some false) && (decide (PySem.W.kitOne K (.ref (He.ga K "WouldLoop")) (.ref (He.ga K "NothingToUndo")) = some false) && (decide (PySem.W.kitOne K (.ref (He.ga K "NothingToUndo")) (.ref (He.ga K "NothingToUndo")) = some true) && (decide (PySem.W.kitOne K (.ref (He.ga K "InvalidSelection")) (.ref (He.ga K "NotClearing")) = some false) && (decide (PySem.W.kitOne K (.ref (He.ga K "InvalidRun")) (.ref (He.ga K "NotClearing")) = some false) && (decide (PySem.W.kitOne K (.ref (He.ga K "InvalidLabel")) (.ref (He.ga K "NotClearing")) = some false) && (decide (PySem.W.kitOne K (.ref (He.ga K "InvalidForest")) (.ref (He.ga K "NotClearing")) = some false) && (decide (PySem.W.kitOne K (.ref (He.ga K "InvalidOrder")) (.ref (He.ga K "NotClearing")) = some false) && (decide (PySem.W.kitOne K (.ref (He.ga K "InvalidTable")) (.ref (He.ga K "NotClearing")) = some false) && (decide (PySem.W.kitOne K (.ref (He.ga K "InvalidPrices")) (.ref (He.ga K "NotClearing")) = some false) && (decide (PySem.W.kitOne K (.ref (He.ga K "InvalidNumbers")) (.ref (He.ga K "NotClearing")) = some false) && (decide (PySem.W.kitOne K (.ref (He.ga K "TooLarge")) (.ref (He.ga K "NotClearing")) = some false) && (decide (PySem.W.kitOne K (.ref (He.ga K "InvalidEdit")) (.ref (He.ga K "NotClearing")) = some false) && (decide (PySem.W.kitOne K (.ref (He.ga K "InvalidRank")) (.ref (He.ga K "NotClearing")) = some false) && (decide (PySem.W.kitOne K (.ref (He.ga K "InvalidText")) (.ref (He.ga K "NotClearing")) = some false) && (decide (PySem.W.kitOne K (.ref (He.ga K "NotChild")) (.ref (He.ga K "NotClearing")) = some false) && (decide (PySem.W.kitOne K (.ref (He.ga K "NotRoot")) (.ref (He.ga K "NotClearing")) = some false) && (decide (PySem.W.kitOne K (.ref (He.ga K "Unreachable")) (.ref (He.ga K "NotClearing")) = some false) && (decide (PySem.W.kitOne K (.ref (He.ga K "NothingRemains")) (.ref (He.ga K "NotClearing")) = some false) && (decide (PySem.W.kitOne K (.ref (He.ga K "NotRemovable")) (.ref (He.ga K "NotClearing")) = some false) && (decide (PySem.W.kitOne K (.ref (He.ga K "NotClearing")) (.ref (He.ga K "NotClearing")) = some true) && (decide (PySem.W.kitOne K (.ref (He.ga K "WouldLoop")) (.ref (He.ga K "NotClearing")) = some false) && (decide (PySem.W.kitOne K (.ref (He.ga K "NothingToUndo")) (.ref (He.ga K "NotClearing")) = some false) && (decide (PySem.W.kitOne K (.ref (He.ga K "InvalidSelection")) (.ref (He.ga K "WouldLoop")) = some false) && (decide (PySem.W.kitOne K (.ref (He.ga K "InvalidRun")) (.ref (He.ga K "WouldLoop")) = some false) && (decide (PySem.W.kitOne K (.ref (He.ga K "InvalidLabel")) (.ref (He.ga K "WouldLoop")) = some false) && (decide (PySem.W.kitOne K (.ref (He.ga K "InvalidForest")) (.ref (He.ga K "WouldLoop")) = some false) && (decide (PySem.W.kitOne K (.ref (He.ga K "InvalidOrder")) (.ref (He.ga K "WouldLoop")) = some false) && (decide (PySem.W.kitOne K (.ref (He.ga K "InvalidTable")) (.ref (He.ga K "WouldLoop")) = some false) && (decide (PySem.W.kitOne K (.ref (He.ga K "InvalidPrices")) (.ref (He.ga K "WouldLoop")) = some false) && (decide (PySem.W.kitOne K (.ref (He.ga K "InvalidNumbers")) (.ref (He.ga K "WouldLoop")) = some false) && (decide (PySem.W.kitOne K (.ref (He.ga K "TooLarge")) (.ref (He.ga K "WouldLoop")) = some false) && (decide (PySem.W.kitOne K (.ref (He.ga K "InvalidEdit")) (.ref (He.ga K "WouldLoop")) = some false) && (decide (PySem.W.kitOne K (.ref (He.ga K "InvalidRank")) (.ref (He.ga K "WouldLoop")) = some false) && (decide (PySem.W.kitOne K (.ref (He.ga K "InvalidText")) (.ref (He.ga K "WouldLoop")) = some false) && (decide (PySem.W.kitOne K (.ref (He.ga K "NotChild")) (.ref (He.ga K "WouldLoop")) = some false) && (decide (PySem.W.kitOne K (.ref (He.ga K "NotRoot")) (.ref (He.ga K "WouldLoop")) = some false) && (decide (PySem.W.kitOne K (.ref (He.ga K "Unreachable")) (.ref (He.ga K "WouldLoop")) = some false) && (decide (PySem.W.kitOne K (.ref (He.ga K "NothingRemains")) (.ref (He.ga K "WouldLoop")) = some false) && (decide (PySem.W.kitOne K (.ref (He.ga K "NotRemovable")) (.ref (He.ga K "WouldLoop")) = some false) && (decide (PySem.W.kitOne K (.ref (He.ga K "NotClearing")) (.ref (He.ga K "WouldLoop")) = some false) && (decide (PySem.W.kitOne K (.ref (He.ga K "WouldLoop")) (.ref (He.ga K "WouldLoop")) = some true) && (decide (PySem.W.kitOne K (.ref (He.ga K "NothingToUndo")) (.ref (He.ga K "WouldLoop")) = some false) && (decide (PySem.W.kitOne K (.ref (He.ga K "InvalidSelection")) (.ref (He.ga K "DialLookupError")) = some false) && (decide (PySem.W.kitOne K (.ref (He.ga K "InvalidRun")) (.ref (He.ga K "DialLookupError")) = some false) && (decide (PySem.W.kitOne K (.ref (He.ga K "InvalidLabel")) (.ref (He.ga K "DialLookupError")) = some false) && (decide (PySem.W.kitOne K (.ref (He.ga K "InvalidForest")) (.ref (He.ga K "DialLookupError")) = some false) && (decide (PySem.W.kitOne K (.ref (He.ga K "InvalidOrder")) (.ref (He.ga K "DialLookupError")) = some false) && (decide (PySem.W.kitOne K (.ref (He.ga K "InvalidTable")) (.ref (He.ga K "DialLookupError")) = some false) && (decide (PySem.W.kitOne K (.ref (He.ga K "InvalidPrices")) (.ref (He.ga K "DialLookupError")) = some false) && (decide (PySem.W.kitOne K (.ref (He.ga K "InvalidNumbers")) (.ref (He.ga K "DialLookupError")) = some false) && (decide (PySem.W.kitOne K (.ref (He.ga K "TooLarge")) (.ref (He.ga K "DialLookupError")) = some false) && (decide (PySem.W.kitOne K (.ref (He.ga K "InvalidEdit")) (.ref (He.ga K "DialLookupError")) = some false) && (decide (PySem.W.kitOne K (.ref (He.ga K "InvalidRank")) (.ref (He.ga K "DialLookupError")) = some false) && (decide (PySem.W.kitOne K (.ref (He.ga K "InvalidText")) (.ref (He.ga K "DialLookupError")) = some false) && (decide (PySem.W.kitOne K (.ref (He.ga K "NotChild")) (.ref (He.ga K "DialLookupError")) = some false) && (decide (PySem.W.kitOne K (.ref (He.ga K "NotRoot")) (.ref (He.ga K "DialLookupError")) = some false) && (decide (PySem.W.kitOne K (.ref (He.ga K "Unreachable")) (.ref (He.ga K "DialLookupError")) = some false) && (decide (PySem.W.kitOne K (.ref (He.ga K "NothingRemains")) (.ref (He.ga K "DialLookupError")) = some false) && (decide (PySem.W.kitOne K (.ref (He.ga K "NotRemovable")) (.ref (He.ga K "DialLookupError")) = some false) && (decide (PySem.W.kitOne K (.ref (He.ga K "NotClearing")) (.ref (He.ga K "DialLookupError")) = some false) && (decide (PySem.W.kitOne K (.ref (He.ga K "WouldLoop")) (.ref (He.ga K "DialLookupError")) = some false) && (decide (PySem.W.kitOne K (.ref (He.ga K "NothingToUndo")) (.ref (He.ga K "DialLookupError")) = some true) && (decide (PySem.W.kitOne K (.ref (He.ga K "InvalidSelection")) (.ref (He.ga K "DialStateError")) = some false) && (decide (PySem.W.kitOne K (.ref (He.ga K "InvalidRun")) (.ref (He.ga K "DialStateError")) = some false) && (decide (PySem.W.kitOne K (.ref (He.ga K "InvalidLabel")) (.ref (He.ga K "DialStateError")) = some false) && (decide (PySem.W.kitOne K (.ref (He.ga K "InvalidForest")) (.ref (He.ga K "DialStateError")) = some false) && (decide (PySem.W.kitOne K (.ref (He.ga K "InvalidOrder")) (.ref (He.ga K "DialStateError")) = some false) && (decide (PySem.W.kitOne K (.ref (He.ga K "InvalidTable")) (.ref (He.ga K "DialStateError")) = some false) && (decide (PySem.W.kitOne K (.ref (He.ga K "InvalidPrices")) (.ref (He.ga K "DialStateError")) = some false) && (decide (PySem.W.kitOne K (.ref (He.ga K "InvalidNumbers")) (.ref (He.ga K "DialStateError")) = some false) && (decide (PySem.W.kitOne K (.ref (He.ga K "TooLarge")) (.ref (He.ga K "DialStateError")) = some false) && (decide (PySem.W.kitOne K (.ref (He.ga K "InvalidEdit")) (.ref (He.ga K "DialStateError")) = some false) && (decide (PySem.W.kitOne K (.ref (He.ga K "InvalidRank")) (.ref (He.ga K "DialStateError")) = some false) && (decide (PySem.W.kitOne K (.ref (He.ga K "InvalidText")) (.ref (He.ga K "DialStateError")) = some false) && (decide (PySem.W.kitOne K (.ref (He.ga K "NotChild")) (.ref (He.ga K "DialStateError")) = some true) && (decide (PySem.W.kitOne K (.ref (He.ga K "NotRoot")) (.ref (He.ga K "DialStateError")) = some true) && (decide (PySem.W.kitOne K (.ref (He.ga K "Unreachable")) (.ref (He.ga K "DialStateError")) = some true) && (decide (PySem.W.kitOne K (.ref (He.ga K "NothingRemains")) (.ref (He.ga K "DialStateError")) = some true) && (decide (PySem.W.kitOne K (.ref (He.ga K "NotRemovable")) (.ref (He.ga K "DialStateError")) = some true) && (decide (PySem.W.kitOne K (.ref (He.ga K "NotClearing")) (.ref (He.ga K "DialStateError")) = some true) && (decide (PySem.W.kitOne K (.ref (He.ga K "WouldLoop")) (.ref (He.ga K "DialStateError")) = some true) && (decide (PySem.W.kitOne K (.ref (He.ga K "NothingToUndo")) (.ref (He.ga K "DialStateError")) = some false) && (decide (PySem.W.kitOne K (.ref (He.ga K "InvalidSelection")) (.ref (He.ga K "DialError")) = some true) && (decide (PySem.W.kitOne K (.ref (He.ga K "InvalidRun")) (.ref (He.ga K "DialError")) = some true) && (decide (PySem.W.kitOne K (.ref (He.ga K "InvalidLabel")) (.ref (He.ga K "DialError")) = some true) && (decide (PySem.W.kitOne K (.ref (He.ga K "InvalidForest")) (.ref (He.ga K "DialError")) = some true) && (decide (PySem.W.kitOne K (.ref (He.ga K "InvalidOrder")) (.ref (He.ga K "DialError")) = some true) && (decide (PySem.W.kitOne K (.ref (He.ga K "InvalidTable")) (.ref (He.ga K "DialError")) = some true) && (decide (PySem.W.kitOne K (.ref (He.ga K "InvalidPrices")) (.ref (He.ga K "DialError")) = some true) && (decide (PySem.W.kitOne K (.ref (He.ga K "InvalidNumbers")) (.ref (He.ga K "DialError")) = some true) && (decide (PySem.W.kitOne K (.ref (He.ga K "TooLarge")) (.ref (He.ga K "DialError")) = some true) && (decide (PySem.W.kitOne K (.ref (He.ga K "InvalidEdit")) (.ref (He.ga K "DialError")) = some true) && (decide (PySem.W.kitOne K (.ref (He.ga K "InvalidRank")) (.ref (He.ga K "DialError")) = some true) && (decide (PySem.W.kitOne K (.ref (He.ga K "InvalidText")) (.ref (He.ga K "DialError")) = some true) && (decide (PySem.W.kitOne K (.ref (He.ga K "NotChild")) (.ref (He.ga K "DialError")) = some false) && (decide (PySem.W.kitOne K (.ref (He.ga K "NotRoot")) (.ref (He.ga K "DialError")) = some false) && (decide (PySem.W.kitOne K (.ref (He.ga K "Unreachable")) (.ref (He.ga K "DialError")) = some false) && (decide (PySem.W.kitOne K (.ref (He.ga K "NothingRemains")) (.ref (He.ga K "DialError")) = some false) && (decide (PySem.W.kitOne K (.ref (He.ga K "NotRemovable")) (.ref (He.ga K "DialError")) = some false) && (decide (PySem.W.kitOne K (.ref (He.ga K "NotClearing")) (.ref (He.ga K "DialError")) = some false) && (decide (PySem.W.kitOne K (.ref (He.ga K "WouldLoop")) (.ref (He.ga K "DialError")) = some false) && (decide (PySem.W.kitOne K (.ref (He.ga K "NothingToUndo")) (.ref (He.ga K "DialError")) = some false) && (decide (PySem.W.kitOne K (.ref (He.ga K "InvalidSelection")) (.type "LookupError") = some false) && (decide (PySem.W.kitOne K (.ref (He.ga K "InvalidRun")) (.type "LookupError") = some false) && (decide (PySem.W.kitOne K (.ref (He.ga K "InvalidLabel")) (.type "LookupError") = some false) && (decide (PySem.W.kitOne K (.ref (He.ga K "InvalidForest")) (.type "LookupError") = some false) && (decide (PySem.W.kitOne K (.ref (He.ga K "InvalidOrder")) (.type "LookupError") = some false) && (decide (PySem.W.kitOne K (.ref (He.ga K "InvalidTable")) (.type "LookupError") = some false) && (decide (PySem.W.kitOne K (.ref (He.ga K "InvalidPrices")) (.type "LookupError") = some false) && (decide (PySem.W.kitOne K (.ref (He.ga K "InvalidNumbers")) (.type "LookupError") = some false) && (decide (PySem.W.kitOne K (.ref (He.ga K "TooLarge")) (.type "LookupError") = some false) && (decide (PySem.W.kitOne K (.ref (He.ga K "InvalidEdit")) (.type "LookupError") = some false) && (decide (PySem.W.kitOne K (.ref (He.ga K "InvalidRank")) (.type "LookupError") = some false) && (decide (PySem.W.kitOne K (.ref (He.ga K "InvalidText")) (.type "LookupError") = some false) && (decide (PySem.W.kitOne K (.ref (He.ga K "NotChild")) (.type "LookupError") = some false) && (decide (PySem.W.kitOne K (.ref (He.ga K "NotRoot")) (.type "LookupError") = some false) && (decide (PySem.W.kitOne K (.ref (He.ga K "Unreachable")) (.type "LookupError") = some false) && (decide (PySem.W.kitOne K (.ref (He.ga K "NothingRemains")) (.type "LookupError") = some false) && (decide (PySem.W.kitOne K (.ref (He.ga K "NotRemovable")) (.type "LookupError") = some false) && (decide (PySem.W.kitOne K (.ref (He.ga K "NotClearing")) (.type "LookupError") = some false) && (decide (PySem.W.kitOne K (.ref (He.ga K "WouldLoop")) (.type "LookupError") = some false) && (decide (PySem.W.kitOne K (.ref (He.ga K "NothingToUndo")) (.type "LookupError") = some true) && (decide (PySem.W.kitOne K (.ref (He.ga K "InvalidSelection")) (.type "RuntimeError") = some false) && (decide (PySem.W.kitOne K (.ref (He.ga K "InvalidRun")) (.type "RuntimeError") = some false) && (decide (PySem.W.kitOne K (.ref (He.ga K "InvalidLabel")) (.type "RuntimeError") = some false) && (decide (PySem.W.kitOne K (.ref (He.ga K "InvalidForest")) (.type "RuntimeError") = some false) && (decide (PySem.W.kitOne K (.ref (He.ga K "InvalidOrder")) (.type "RuntimeError") = some false) && (decide (PySem.W.kitOne K (.ref (He.ga K "InvalidTable")) (.type "RuntimeError") = some false) && (decide (PySem.W.kitOne K (.ref (He.ga K "InvalidPrices")) (.type "RuntimeError") = some false) && (decide (PySem.W.kitOne K (.ref (He.ga K "InvalidNumbers")) (.type "RuntimeError") = some false) && (decide (PySem.W.kitOne K (.ref (He.ga K "TooLarge")) (.type "RuntimeError") = some false) && (decide (PySem.W.kitOne K (.ref (He.ga K "InvalidEdit")) (.type "RuntimeError") = some false) && (decide (PySem.W.kitOne K (.ref (He.ga K "InvalidRank")) (.type "RuntimeError") = some false) && (decide (PySem.W.kitOne K (.ref (He.ga K "InvalidText")) (.type "RuntimeError") = some false) && (decide (PySem.W.kitOne K (.ref (He.ga K "NotChild")) (.type "RuntimeError") = some true) && (decide (PySem.W.kitOne K (.ref (He.ga K "NotRoot")) (.type "RuntimeError") = some true) && (decide (PySem.W.kitOne K (.ref (He.ga K "Unreachable")) (.type "RuntimeError") = some true) && (decide (PySem.W.kitOne K (.ref (He.ga K "NothingRemains")) (.type "RuntimeError") = some true) && (decide (PySem.W.kitOne K (.ref (He.ga K "NotRemovable")) (.type "RuntimeError") = some true) && (decide (PySem.W.kitOne K (.ref (He.ga K "NotClearing")) (.type "RuntimeError") = some true) && (decide (PySem.W.kitOne K (.ref (He.ga K "WouldLoop")) (.type "RuntimeError") = some true) && (decide (PySem.W.kitOne K (.ref (He.ga K "NothingToUndo")) (.type "RuntimeError") = some false) && (decide (PySem.W.kitOne K (.ref (He.ga K "InvalidSelection")) (.type "ValueError") = some true) && (decide (PySem.W.kitOne K (.ref (He.ga K "InvalidRun")) (.type "ValueError") = some true) && (decide (PySem.W.kitOne K (.ref (He.ga K "InvalidLabel")) (.type "ValueError") = some true) && (decide (PySem.W.kitOne K (.ref (He.ga K "InvalidForest")) (.type "ValueError") = some true) && (decide (PySem.W.kitOne K (.ref (He.ga K "InvalidOrder")) (.type "ValueError") = some true) && (decide (PySem.W.kitOne K (.ref (He.ga K "InvalidTable")) (.type "ValueError") = some true) && (decide (PySem.W.kitOne K (.ref (He.ga K "InvalidPrices")) (.type "ValueError") = some true) && (decide (PySem.W.kitOne K (.ref (He.ga K "InvalidNumbers")) (.type "ValueError") = some true) && (decide (PySem.W.kitOne K (.ref (He.ga K "TooLarge")) (.type "ValueError") = some true) && (decide (PySem.W.kitOne K (.ref (He.ga K "InvalidEdit")) (.type "ValueError") = some true) && (decide (PySem.W.kitOne K (.ref (He.ga K "InvalidRank")) (.type "ValueError") = some true) && (decide (PySem.W.kitOne K (.ref (He.ga K "InvalidText")) (.type "ValueError") = some true) && (decide (PySem.W.kitOne K (.ref (He.ga K "NotChild")) (.type "ValueError") = some false) && (decide (PySem.W.kitOne K (.ref (He.ga K "NotRoot")) (.type "ValueError") = some false) && (decide (PySem.W.kitOne K (.ref (He.ga K "Unreachable")) (.type "ValueError") = some false) && (decide (PySem.W.kitOne K (.ref (He.ga K "NothingRemains")) (.type "ValueError") = some false) && (decide (PySem.W.kitOne K (.ref (He.ga K "NotRemovable")) (.type "ValueError") = some false) && (decide (PySem.W.kitOne K (.ref (He.ga K "NotClearing")) (.type "ValueError") = some false) && (decide (PySem.W.kitOne K (.ref (He.ga K "WouldLoop")) (.type "ValueError") = some false) && (decide (PySem.W.kitOne K (.ref (He.ga K "NothingToUndo")) (.type "ValueError") = some false) && (smB K))))))))))))))))))))))))))))))))))))))))))))))))))))))))))))))))))))))))))))))))))))))))))))))))))))))))))))))))))))))))))))))))))))))))))))))))))))))))))))))))))))))))))))))))))))))))))))))))))))))))))))))))))))))))))))))))))))))))))))))))))))))))))))))))))))))))))))))))))))))))))))))))))))))))))))))))))))))))))))))))))))))))))))))))))))))))))))))))))))))))))))))))))))))))))))))))))))))))))))))))))))))))))))))))))))))))))))))))))))))))))))))))))))))))))))))))))))))))))))))))))))))))))))))))))))))))))))))))))))))))))))))))))))))))))))))))))))))))))))))))))
theorem hf_law_source {K : PySem.W.Frag} (c : SaysM chk dfs K) : ∃ fd, FunD K "_law_source" "_law_source" (defArgs s_law_source) (defBody s_law_source) (defScope s_law_source) [] [] (He.ga K "_law_source") fd := c.def_ 0 (d := ⟨("_law_source", none), "_law_source", "_law_source", defArgs s_law_source, defBody s_law_source, defScope s_law_source, [], []⟩) rfl
theorem hf_law_draw {K : PySem.W.Frag} (c : SaysM chk dfs K) : ∃ fd, FunD K "_law_draw" "_law_draw" (defArgs s_law_draw) (defBody s_law_draw) (defScope s_law_draw) [] [] (He.ga K "_law_draw") fd := c.def_ 1 (d := ⟨("_law_draw", none), "_law_draw", "_law_draw", defArgs s_law_draw, defBody s_law_draw, defScope s_law_draw, [], []⟩) rfl
theorem hf_law_pick {K : PySem.W.Frag} (c : SaysM chk dfs K) : ∃ fd, FunD K "_law_pick" "_law_pick" (defArgs s_law_pick) (defBody s_law_pick) (defScope s_law_pick) [] [] (He.ga K "_law_pick") fd := c.def_ 2 (d := ⟨("_law_pick", none), "_law_pick", "_law_pick", defArgs s_law_pick, defBody s_law_pick, defScope s_law_pick, [], []⟩) rfl
theorem hf_law_arguments {K : PySem.W.Frag} (c : SaysM chk dfs K) : ∃ fd, FunD K "_law_arguments" "_law_arguments" (defArgs s_law_arguments) (defBody s_law_arguments) (defScope s_law_arguments) [] [] (He.ga K "_law_arguments") fd := c.def_ 3 (d := ⟨("_law_arguments", none), "_law_arguments", "_law_arguments", defArgs s_law_arguments, defBody s_law_arguments, defScope s_law_arguments, [], []⟩) rfl
theorem hf_law_states {K : PySem.W.Frag} (c : SaysM chk dfs K) : ∃ fd, FunD K "_law_states" "_law_states" (defArgs s_law_states) (defBody s_law_states) (defScope s_law_states) [] [] (He.ga K "_law_states") fd := c.def_ 4 (d := ⟨("_law_states", none), "_law_states", "_law_states", defArgs s_law_states, defBody s_law_states, defScope s_law_states, [], []⟩) rfl
theorem hf_law_kinds {K : PySem.W.Frag} (c : SaysM chk dfs K) : ∃ fd, FunD K "_law_kinds" "_law_kinds" (defArgs s_law_kinds) (defBody s_law_kinds) (defScope s_law_kinds) [] [] (He.ga K "_law_kinds") fd := c.def_ 5 (d := ⟨("_law_kinds", none), "_law_kinds", "_law_kinds", defArgs s_law_kinds, defBody s_law_kinds, defScope s_law_kinds, [], []⟩) rfl
theorem hf_law_bases {K : PySem.W.Frag} (c : SaysM chk dfs K) : ∃ fd, FunD K "_law_bases" "_law_bases" (defArgs s_law_bases) (defBody s_law_bases) (defScope s_law_bases) [] [] (He.ga K "_law_bases") fd := c.def_ 6 (d := ⟨("_law_bases", none), "_law_bases", "_law_bases", defArgs s_law_bases, defBody s_law_bases, defScope s_law_bases, [], []⟩) rfl
theorem hf_law_all_right {K : PySem.W.Frag} (c : SaysM chk dfs K) : ∃ fd, FunD K "_law_all_right" "_law_all_right" (defArgs s_law_all_right) (defBody s_law_all_right) (defScope s_law_all_right) [] [] (He.ga K "_law_all_right") fd := c.def_ 7 (d := ⟨("_law_all_right", none), "_law_all_right", "_law_all_right", defArgs s_law_all_right, defBody s_law_all_right, defScope s_law_all_right, [], []⟩) rfl
theorem hf_law {K : PySem.W.Frag} (c : SaysM chk dfs K) : ∃ fd, FunD K "law" "law" (defArgs s_law) (defBody s_law) (defScope s_law) [] [] (He.ga K "law") fd := c.def_ 8 (d := ⟨("law", none), "law", "law", defArgs s_law, defBody s_law, defScope s_law, [], []⟩) rfl
theorem hfi_InvalidSelection {K : PySem.W.Frag} (c : SaysM chk dfs K) : ∃ fd, FunD K "__init__" "InvalidSelection.__init__" (defArgs si_InvalidSelection) (defBody si_InvalidSelection) (defScope si_InvalidSelection) [] [] (He.ma K (He.ga K "InvalidSelection") "__init__") fd := c.def_ 9 (d := ⟨("InvalidSelection", some "__init__"), "__init__", "InvalidSelection.__init__", defArgs si_InvalidSelection, defBody si_InvalidSelection, defScope si_InvalidSelection, [], []⟩) rfl
theorem hfi_InvalidRun {K : PySem.W.Frag} (c : SaysM chk dfs K) : ∃ fd, FunD K "__init__" "InvalidRun.__init__" (defArgs si_InvalidRun) (defBody si_InvalidRun) (defScope si_InvalidRun) [] [] (He.ma K (He.ga K "InvalidRun") "__init__") fd := c.def_ 10 (d := ⟨("InvalidRun", some "__init__"), "__init__", "InvalidRun.__init__", defArgs si_InvalidRun, defBody si_InvalidRun, defScope si_InvalidRun, [], []⟩) rfl
theorem hfi_InvalidLabel {K : PySem.W.Frag} (c : SaysM chk dfs K) : ∃ fd, FunD K "__init__" "InvalidLabel.__init__" (defArgs si_InvalidLabel) (defBody si_InvalidLabel) (defScope si_InvalidLabel) [] [] (He.ma K (He.ga K "InvalidLabel") "__init__") fd := c.def_ 11 (d := ⟨("InvalidLabel", some "__init__"), "__init__", "InvalidLabel.__init__", defArgs si_InvalidLabel, defBody si_InvalidLabel, defScope si_InvalidLabel, [], []⟩) rfl
theorem hfi_InvalidForest {K : PySem.W.Frag} (c : SaysM chk dfs K) : ∃ fd, FunD K "__init__" "InvalidForest.__init__" (defArgs si_InvalidForest) (defBody si_InvalidForest) (defScope si_InvalidForest) [] [] (He.ma K (He.ga K "InvalidForest") "__init__") fd := c.def_ 12 (d := ⟨("InvalidForest", some "__init__"), "__init__", "InvalidForest.__init__", defArgs si_InvalidForest, defBody si_InvalidForest, defScope si_InvalidForest, [], []⟩) rfl
theorem hfi_InvalidOrder {K : PySem.W.Frag} (c : SaysM chk dfs K) : ∃ fd, FunD K "__init__" "InvalidOrder.__init__" (defArgs si_InvalidOrder) (defBody si_InvalidOrder) (defScope si_InvalidOrder) [] [] (He.ma K (He.ga K "InvalidOrder") "__init__") fd := c.def_ 13 (d := ⟨("InvalidOrder", some "__init__"), "__init__", "InvalidOrder.__init__", defArgs si_InvalidOrder, defBody si_InvalidOrder, defScope si_InvalidOrder, [], []⟩) rfl
theorem hfi_InvalidTable {K : PySem.W.Frag} (c : SaysM chk dfs K) : ∃ fd, FunD K "__init__" "InvalidTable.__init__" (defArgs si_InvalidTable) (defBody si_InvalidTable) (defScope si_InvalidTable) [] [] (He.ma K (He.ga K "InvalidTable") "__init__") fd := c.def_ 14 (d := ⟨("InvalidTable", some "__init__"), "__init__", "InvalidTable.__init__", defArgs si_InvalidTable, defBody si_InvalidTable, defScope si_InvalidTable, [], []⟩) rfl
theorem hfi_InvalidPrices {K : PySem.W.Frag} (c : SaysM chk dfs K) : ∃ fd, FunD K "__init__" "InvalidPrices.__init__" (defArgs si_InvalidPrices) (defBody si_InvalidPrices) (defScope si_InvalidPrices) [] [] (He.ma K (He.ga K "InvalidPrices") "__init__") fd := c.def_ 15 (d := ⟨("InvalidPrices", some "__init__"), "__init__", "InvalidPrices.__init__", defArgs si_InvalidPrices, defBody si_InvalidPrices, defScope si_InvalidPrices, [], []⟩) rfl
theorem hfi_InvalidNumbers {K : PySem.W.Frag} (c : SaysM chk dfs K) : ∃ fd, FunD K "__init__" "InvalidNumbers.__init__" (defArgs si_InvalidNumbers) (defBody si_InvalidNumbers) (defScope si_InvalidNumbers) [] [] (He.ma K (He.ga K "InvalidNumbers") "__init__") fd := c.def_ 16 (d := ⟨("InvalidNumbers", some "__init__"), "__init__", "InvalidNumbers.__init__", defArgs si_InvalidNumbers, defBody si_InvalidNumbers, defScope si_InvalidNumbers, [], []⟩) rfl
theorem hfi_TooLarge {K : PySem.W.Frag} (c : SaysM chk dfs K) : ∃ fd, FunD K "__init__" "TooLarge.__init__" (defArgs si_TooLarge) (defBody si_TooLarge) (defScope si_TooLarge) [] [] (He.ma K (He.ga K "TooLarge") "__init__") fd := c.def_ 17 (d := ⟨("TooLarge", some "__init__"), "__init__", "TooLarge.__init__", defArgs si_TooLarge, defBody si_TooLarge, defScope si_TooLarge, [], []⟩) rfl
theorem hfi_InvalidEdit {K : PySem.W.Frag} (c : SaysM chk dfs K) : ∃ fd, FunD K "__init__" "InvalidEdit.__init__" (defArgs si_InvalidEdit) (defBody si_InvalidEdit) (defScope si_InvalidEdit) [] [] (He.ma K (He.ga K "InvalidEdit") "__init__") fd := c.def_ 18 (d := ⟨("InvalidEdit", some "__init__"), "__init__", "InvalidEdit.__init__", defArgs si_InvalidEdit, defBody si_InvalidEdit, defScope si_InvalidEdit, [], []⟩) rfl
theorem hfi_InvalidRank {K : PySem.W.Frag} (c : SaysM chk dfs K) : ∃ fd, FunD K "__init__" "InvalidRank.__init__" (defArgs si_InvalidRank) (defBody si_InvalidRank) (defScope si_InvalidRank) [] [] (He.ma K (He.ga K "InvalidRank") "__init__") fd := c.def_ 19 (d := ⟨("InvalidRank", some "__init__"), "__init__", "InvalidRank.__init__", defArgs si_InvalidRank, defBody si_InvalidRank, defScope si_InvalidRank, [], []⟩) rfl
theorem hfi_InvalidText {K : PySem.W.Frag} (c : SaysM chk dfs K) : ∃ fd, FunD K "__init__" "InvalidText.__init__" (defArgs si_InvalidText) (defBody si_InvalidText) (defScope si_InvalidText) [] [] (He.ma K (He.ga K "InvalidText") "__init__") fd := c.def_ 20 (d := ⟨("InvalidText", some "__init__"), "__init__", "InvalidText.__init__", defArgs si_InvalidText, defBody si_InvalidText, defScope si_InvalidText, [], []⟩) rfl
theorem hfi_NotChild {K : PySem.W.Frag} (c : SaysM chk dfs K) : ∃ fd, FunD K "__init__" "NotChild.__init__" (defArgs si_NotChild) (defBody si_NotChild) (defScope si_NotChild) [] [] (He.ma K (He.ga K "NotChild") "__init__") fd := c.def_ 21 (d := ⟨("NotChild", some "__init__"), "__init__", "NotChild.__init__", defArgs si_NotChild, defBody si_NotChild, defScope si_NotChild, [], []⟩) rfl
theorem hfi_NotRoot {K : PySem.W.Frag} (c : SaysM chk dfs K) : ∃ fd, FunD K "__init__" "NotRoot.__init__" (defArgs si_NotRoot) (defBody si_NotRoot) (defScope si_NotRoot) [] [] (He.ma K (He.ga K "NotRoot") "__init__") fd := c.def_ 22 (d := ⟨("NotRoot", some "__init__"), "__init__", "NotRoot.__init__", defArgs si_NotRoot, defBody si_NotRoot, defScope si_NotRoot, [], []⟩) rfl
theorem hfi_Unreachable {K : PySem.W.Frag} (c : SaysM chk dfs K) : ∃ fd, FunD K "__init__" "Unreachable.__init__" (defArgs si_Unreachable) (defBody si_Unreachable) (defScope si_Unreachable) [] [] (He.ma K (He.ga K "Unreachable") "__init__") fd := c.def_ 23 (d := ⟨("Unreachable", some "__init__"), "__init__", "Unreachable.__init__", defArgs si_Unreachable, defBody si_Unreachable, defScope si_Unreachable, [], []⟩) rfl
theorem hfi_NothingRemains {K : PySem.W.Frag} (c : SaysM chk dfs K) : ∃ fd, FunD K "__init__" "NothingRemains.__init__" (defArgs si_NothingRemains) (defBody si_NothingRemains) (defScope si_NothingRemains) [] [] (He.ma K (He.ga K "NothingRemains") "__init__") fd := c.def_ 24 (d := ⟨("NothingRemains", some "__init__"), "__init__", "NothingRemains.__init__", defArgs si_NothingRemains, defBody si_NothingRemains, defScope si_NothingRemains, [], []⟩) rfl
theorem hfi_NotRemovable {K : PySem.W.Frag} (c : SaysM chk dfs K) : ∃ fd, FunD K "__init__" "NotRemovable.__init__" (defArgs si_NotRemovable) (defBody si_NotRemovable) (defScope si_NotRemovable) [] [] (He.ma K (He.ga K "NotRemovable") "__init__") fd := c.def_ 25 (d := ⟨("NotRemovable", some "__init__"), "__init__", "NotRemovable.__init__", defArgs si_NotRemovable, defBody si_NotRemovable, defScope si_NotRemovable, [], []⟩) rfl
theorem hfi_NotClearing {K : PySem.W.Frag} (c : SaysM chk dfs K) : ∃ fd, FunD K "__init__" "NotClearing.__init__" (defArgs si_NotClearing) (defBody si_NotClearing) (defScope si_NotClearing) [] [] (He.ma K (He.ga K "NotClearing") "__init__") fd := c.def_ 26 (d := ⟨("NotClearing", some "__init__"), "__init__", "NotClearing.__init__", defArgs si_NotClearing, defBody si_NotClearing, defScope si_NotClearing, [], []⟩) rfl
theorem hfi_WouldLoop {K : PySem.W.Frag} (c : SaysM chk dfs K) : ∃ fd, FunD K "__init__" "WouldLoop.__init__" (defArgs si_WouldLoop) (defBody si_WouldLoop) (defScope si_WouldLoop) [] [] (He.ma K (He.ga K "WouldLoop") "__init__") fd := c.def_ 27 (d := ⟨("WouldLoop", some "__init__"), "__init__", "WouldLoop.__init__", defArgs si_WouldLoop, defBody si_WouldLoop, defScope si_WouldLoop, [], []⟩) rfl
theorem hfi_NothingToUndo {K : PySem.W.Frag} (c : SaysM chk dfs K) : ∃ fd, FunD K "__init__" "NothingToUndo.__init__" (defArgs si_NothingToUndo) (defBody si_NothingToUndo) (defScope si_NothingToUndo) [] [] (He.ma K (He.ga K "NothingToUndo") "__init__") fd := c.def_ 28 (d := ⟨("NothingToUndo", some "__init__"), "__init__", "NothingToUndo.__init__", defArgs si_NothingToUndo, defBody si_NothingToUndo, defScope si_NothingToUndo, [], []⟩) rfl
def clA (K : PySem.W.Frag) : Cla := ⟨fun x => He.ga K x, tabsOf K tf⟩
theorem fs_of {K : PySem.W.Frag} {h : Heap} {mg : Str → Option Value} (X : K.In h) (G : h.Ns mainGlobals mg) (c : SaysM chk dfs K) : Fs K mg (clA K) := by
  have q0 := c.chk
  unfold chk at q0
  obtain ⟨p0, q1⟩ := He.ba q0
  obtain ⟨p1, q2⟩ := He.ba q1
  obtain ⟨p2, q3⟩ := He.ba q2
  obtain ⟨p3, q4⟩ := He.ba q3
  obtain ⟨p4, q5⟩ := He.ba q4
  obtain ⟨p5, q6⟩ := He.ba q5
  obtain ⟨p6, q7⟩ := He.ba q6
  obtain ⟨p7, q8⟩ := He.ba q7
  obtain ⟨p8, q9⟩ := He.ba q8
  obtain ⟨p9, q10⟩ := He.ba q9
  obtain ⟨p10, q11⟩ := He.ba q10
  obtain ⟨p11, q12⟩ := He.ba q11
  obtain ⟨p12, q13⟩ := He.ba q12
  obtain ⟨p13, q14⟩ := He.ba q13
  obtain ⟨p14, q15⟩ := He.ba q14
  obtain ⟨p15, q16⟩ := He.ba q15
  obtain ⟨p16, q17⟩ := He.ba q16
  obtain ⟨p17, q18⟩ := He.ba q17
  obtain ⟨p18, q19⟩ := He.ba q18
  obtain ⟨p19, q20⟩ := He.ba q19
  obtain ⟨p20, q21⟩ := He.ba q20
  obtain ⟨p21, q22⟩ := He.ba q21
  obtain ⟨p22, q23⟩ := He.ba q22
  obtain ⟨p23, q24⟩ := He.ba q23
  obtain ⟨p24, q25⟩ := He.ba q24
  obtain ⟨p25, q26⟩ := He.ba q25
  obtain ⟨p26, q27⟩ := He.ba q26
  obtain ⟨p27, q28⟩ := He.ba q27
  obtain ⟨p28, q29⟩ := He.ba q28
  obtain ⟨p29, q30⟩ := He.ba q29
  obtain ⟨p30, q31⟩ := He.ba q30
  obtain ⟨p31, q32⟩ := He.ba q31
  obtain ⟨p32, q33⟩ := He.ba q32
  obtain ⟨p33, q34⟩ := He.ba q33
  obtain ⟨p34, q35⟩ := He.ba q34
  obtain ⟨p35, q36⟩ := He.ba q35
  obtain ⟨p36, q37⟩ := He.ba q36
  obtain ⟨p37, q38⟩ := He.ba q37
  obtain ⟨p38, q39⟩ := He.ba q38
  obtain ⟨p39, q40⟩ := He.ba q39
  obtain ⟨p40, q41⟩ := He.ba q40
  obtain ⟨p41, q42⟩ := He.ba q41
  obtain ⟨p42, q43⟩ := He.ba q42
  obtain ⟨p43, q44⟩ := He.ba q43
  obtain ⟨p44, q45⟩ := He.ba q44
  obtain ⟨p45, q46⟩ := He.ba q45
  obtain ⟨p46, q47⟩ := He.ba q46
  obtain ⟨p47, q48⟩ := He.ba q47
  obtain ⟨p48, q49⟩ := He.ba q48
  obtain ⟨p49, q50⟩ := He.ba q49
  obtain ⟨p50, q51⟩ := He.ba q50
  obtain ⟨p51, q52⟩ := He.ba q51
  obtain ⟨p52, q53⟩ := He.ba q52
  obtain ⟨p53, q54⟩ := He.ba q53
  obtain ⟨p54, q55⟩ := He.ba q54
  obtain ⟨p55, q56⟩ := He.ba q55
  obtain ⟨p56, q57⟩ := He.ba q56
  obtain ⟨p57, q58⟩ := He.ba q57
  obtain ⟨p58, q59⟩ := He.ba q58
  obtain ⟨p59, q60⟩ := He.ba q59
  obtain ⟨p60, q61⟩ := He.ba q60
  obtain ⟨p61, q62⟩ := He.ba q61
  obtain ⟨p62, q63⟩ := He.ba q62
  obtain ⟨p63, q64⟩ := He.ba q63
  obtain ⟨p64, q65⟩ := He.ba q64
  obtain ⟨p65, q66⟩ := He.ba q65
  obtain ⟨p66, q67⟩ := He.ba q66
  obtain ⟨p67, q68⟩ := He.ba q67
  obtain ⟨p68, q69⟩ := He.ba q68
  obtain ⟨p69, q70⟩ := He.ba q69
  obtain ⟨p70, q71⟩ := He.ba q70
  obtain ⟨p71, q72⟩ := He.ba q71
  obtain ⟨p72, q73⟩ := He.ba q72
  obtain ⟨p73, q74⟩ := He.ba q73
  obtain ⟨p74, q75⟩ := He.ba q74
  obtain ⟨p75, q76⟩ := He.ba q75
  obtain ⟨p76, q77⟩ := He.ba q76
  obtain ⟨p77, q78⟩ := He.ba q77
  obtain ⟨p78, q79⟩ := He.ba q78
  obtain ⟨p79, q80⟩ := He.ba q79
  obtain ⟨p80, q81⟩ := He.ba q80
  obtain ⟨p81, q82⟩ := He.ba q81
  obtain ⟨p82, q83⟩ := He.ba q82
  obtain ⟨p83, q84⟩ := He.ba q83
  obtain ⟨p84, q85⟩ := He.ba q84
  obtain ⟨p85, q86⟩ := He.ba q85
  obtain ⟨p86, q87⟩ := He.ba q86
  obtain ⟨p87, q88⟩ := He.ba q87
  obtain ⟨p88, q89⟩ := He.ba q88
  obtain ⟨p89, q90⟩ := He.ba q89
  obtain ⟨p90, q91⟩ := He.ba q90
  obtain ⟨p91, q92⟩ := He.ba q91
  obtain ⟨p92, q93⟩ := He.ba q92
  obtain ⟨p93, q94⟩ := He.ba q93
  obtain ⟨p94, q95⟩ := He.ba q94
  obtain ⟨p95, q96⟩ := He.ba q95
  obtain ⟨p96, q97⟩ := He.ba q96
  obtain ⟨p97, q98⟩ := He.ba q97
  obtain ⟨p98, q99⟩ := He.ba q98
  obtain ⟨p99, q100⟩ := He.ba q99
  obtain ⟨p100, q101⟩ := He.ba q100
  obtain ⟨p101, q102⟩ := He.ba q101
  obtain ⟨p102, q103⟩ := He.ba q102
  obtain ⟨p103, q104⟩ := He.ba q103
  obtain ⟨p104, q105⟩ := He.ba q104
  obtain ⟨p105, q106⟩ := He.ba q105
  obtain ⟨p106, q107⟩ := He.ba q106
  obtain ⟨p107, q108⟩ := He.ba q107
  obtain ⟨p108, q109⟩ := He.ba q108
  obtain ⟨p109, q110⟩ := He.ba q109
  obtain ⟨p110, q111⟩ := He.ba q110
  obtain ⟨p111, q112⟩ := He.ba q111
  obtain ⟨p112, q113⟩ := He.ba q112
  obtain ⟨p113, q114⟩ := He.ba q113
  obtain ⟨p114, q115⟩ := He.ba q114
  obtain ⟨p115, q116⟩ := He.ba q115
  obtain ⟨p116, q117⟩ := He.ba q116
  obtain ⟨p117, q118⟩ := He.ba q117
  obtain ⟨p118, q119⟩ := He.ba q118
  obtain ⟨p119, q120⟩ := He.ba q119
  obtain ⟨p120, q121⟩ := He.ba q120
  obtain ⟨p121, q122⟩ := He.ba q121
  obtain ⟨p122, q123⟩ := He.ba q122
  obtain ⟨p123, q124⟩ := He.ba q123
  obtain ⟨p124, q125⟩ := He.ba q124
  obtain ⟨p125, q126⟩ := He.ba q125
  obtain ⟨p126, q127⟩ := He.ba q126
  obtain ⟨p127, q128⟩ := He.ba q127
  obtain ⟨p128, q129⟩ := He.ba q128
  obtain ⟨p129, q130⟩ := He.ba q129
  obtain ⟨p130, q131⟩ := He.ba q130
  obtain ⟨p131, q132⟩ := He.ba q131
  obtain ⟨p132, q133⟩ := He.ba q132
  obtain ⟨p133, q134⟩ := He.ba q133
  obtain ⟨p134, q135⟩ := He.ba q134
  obtain ⟨p135, q136⟩ := He.ba q135
  obtain ⟨p136, q137⟩ := He.ba q136
  obtain ⟨p137, q138⟩ := He.ba q137
  obtain ⟨p138, q139⟩ := He.ba q138
  obtain ⟨p139, q140⟩ := He.ba q139
  obtain ⟨p140, q141⟩ := He.ba q140
  obtain ⟨p141, q142⟩ := He.ba q141
  obtain ⟨p142, q143⟩ := He.ba q142
  obtain ⟨p143, q144⟩ := He.ba q143
  obtain ⟨p144, q145⟩ := He.ba q144
  obtain ⟨p145, q146⟩ := He.ba q145
  obtain ⟨p146, q147⟩ := He.ba q146
  obtain ⟨p147, q148⟩ := He.ba q147
  obtain ⟨p148, q149⟩ := He.ba q148
  obtain ⟨p149, q150⟩ := He.ba q149
  obtain ⟨p150, q151⟩ := He.ba q150
  obtain ⟨p151, q152⟩ := He.ba q151
  obtain ⟨p152, q153⟩ := He.ba q152
  obtain ⟨p153, q154⟩ := He.ba q153
  obtain ⟨p154, q155⟩ := He.ba q154
  obtain ⟨p155, q156⟩ := He.ba q155
  obtain ⟨p156, q157⟩ := He.ba q156
  obtain ⟨p157, q158⟩ := He.ba q157
  obtain ⟨p158, q159⟩ := He.ba q158
  obtain ⟨p159, q160⟩ := He.ba q159
  obtain ⟨p160, q161⟩ := He.ba q160
  obtain ⟨p161, q162⟩ := He.ba q161
  obtain ⟨p162, q163⟩ := He.ba q162
  obtain ⟨p163, q164⟩ := He.ba q163
  obtain ⟨p164, q165⟩ := He.ba q164
  obtain ⟨p165, q166⟩ := He.ba q165
  obtain ⟨p166, q167⟩ := He.ba q166
  obtain ⟨p167, q168⟩ := He.ba q167
  obtain ⟨p168, q169⟩ := He.ba q168
  obtain ⟨p169, q170⟩ := He.ba q169
  obtain ⟨p170, q171⟩ := He.ba q170
  obtain ⟨p171, q172⟩ := He.ba q171
  obtain ⟨p172, q173⟩ := He.ba q172
  obtain ⟨p173, q174⟩ := He.ba q173
  obtain ⟨p174, q175⟩ := He.ba q174
  obtain ⟨p175, q176⟩ := He.ba q175
  obtain ⟨p176, q177⟩ := He.ba q176
  obtain ⟨p177, q178⟩ := He.ba q177
  obtain ⟨p178, q179⟩ := He.ba q178
  obtain ⟨p179, q180⟩ := He.ba q179
  obtain ⟨p180, q181⟩ := He.ba q180
  obtain ⟨p181, q182⟩ := He.ba q181
  obtain ⟨p182, q183⟩ := He.ba q182
  obtain ⟨p183, q184⟩ := He.ba q183
  obtain ⟨p184, q185⟩ := He.ba q184
  obtain ⟨p185, q186⟩ := He.ba q185
  obtain ⟨p186, q187⟩ := He.ba q186
  obtain ⟨p187, q188⟩ := He.ba q187
  obtain ⟨p188, q189⟩ := He.ba q188
  obtain ⟨p189, q190⟩ := He.ba q189
  obtain ⟨p190, q191⟩ := He.ba q190
  obtain ⟨p191, q192⟩ := He.ba q191
  obtain ⟨p192, q193⟩ := He.ba q192
  obtain ⟨p193, q194⟩ := He.ba q193
  obtain ⟨p194, q195⟩ := He.ba q194
  obtain ⟨p195, q196⟩ := He.ba q195
  obtain ⟨p196, q197⟩ := He.ba q196
  obtain ⟨p197, q198⟩ := He.ba q197
  obtain ⟨p198, q199⟩ := He.ba q198
  obtain ⟨p199, q200⟩ := He.ba q199
  obtain ⟨p200, q201⟩ := He.ba q200
  obtain ⟨p201, q202⟩ := He.ba q201
  obtain ⟨p202, q203⟩ := He.ba q202
  obtain ⟨p203, q204⟩ := He.ba q203
  obtain ⟨p204, q205⟩ := He.ba q204
  obtain ⟨p205, q206⟩ := He.ba q205
  obtain ⟨p206, q207⟩ := He.ba q206
  obtain ⟨p207, q208⟩ := He.ba q207
  obtain ⟨p208, q209⟩ := He.ba q208
  obtain ⟨p209, q210⟩ := He.ba q209
  obtain ⟨p210, q211⟩ := He.ba q210
  obtain ⟨p211, q212⟩ := He.ba q211
  obtain ⟨p212, q213⟩ := He.ba q212
  obtain ⟨p213, q214⟩ := He.ba q213
  obtain ⟨p214, q215⟩ := He.ba q214
  obtain ⟨p215, q216⟩ := He.ba q215
  obtain ⟨p216, q217⟩ := He.ba q216
  obtain ⟨p217, q218⟩ := He.ba q217
  obtain ⟨p218, q219⟩ := He.ba q218
  obtain ⟨p219, q220⟩ := He.ba q219
  obtain ⟨p220, q221⟩ := He.ba q220
  obtain ⟨p221, q222⟩ := He.ba q221
  obtain ⟨p222, q223⟩ := He.ba q222
  obtain ⟨p223, q224⟩ := He.ba q223
  obtain ⟨p224, q225⟩ := He.ba q224
  obtain ⟨p225, q226⟩ := He.ba q225
  obtain ⟨p226, q227⟩ := He.ba q226
  obtain ⟨p227, q228⟩ := He.ba q227
  obtain ⟨p228, q229⟩ := He.ba q228
  obtain ⟨p229, q230⟩ := He.ba q229
  obtain ⟨p230, q231⟩ := He.ba q230
  obtain ⟨p231, q232⟩ := He.ba q231
  obtain ⟨p232, q233⟩ := He.ba q232
  obtain ⟨p233, q234⟩ := He.ba q233
  obtain ⟨p234, q235⟩ := He.ba q234
  obtain ⟨p235, q236⟩ := He.ba q235
  obtain ⟨p236, q237⟩ := He.ba q236
  obtain ⟨p237, q238⟩ := He.ba q237
  obtain ⟨p238, q239⟩ := He.ba q238
  obtain ⟨p239, q240⟩ := He.ba q239
  obtain ⟨p240, q241⟩ := He.ba q240
  obtain ⟨p241, q242⟩ := He.ba q241
  obtain ⟨p242, q243⟩ := He.ba q242
  obtain ⟨p243, q244⟩ := He.ba q243
  obtain ⟨p244, q245⟩ := He.ba q244
  obtain ⟨p245, q246⟩ := He.ba q245
  obtain ⟨p246, q247⟩ := He.ba q246
  obtain ⟨p247, q248⟩ := He.ba q247
  obtain ⟨p248, q249⟩ := He.ba q248
  obtain ⟨p249, q250⟩ := He.ba q249
  obtain ⟨p250, q251⟩ := He.ba q250
  obtain ⟨p251, q252⟩ := He.ba q251
  obtain ⟨p252, q253⟩ := He.ba q252
  obtain ⟨p253, q254⟩ := He.ba q253
  obtain ⟨p254, q255⟩ := He.ba q254
  obtain ⟨p255, q256⟩ := He.ba q255
  obtain ⟨p256, q257⟩ := He.ba q256
  obtain ⟨p257, q258⟩ := He.ba q257
  obtain ⟨p258, q259⟩ := He.ba q258
  obtain ⟨p259, q260⟩ := He.ba q259
  obtain ⟨p260, q261⟩ := He.ba q260
  obtain ⟨p261, q262⟩ := He.ba q261
  obtain ⟨p262, q263⟩ := He.ba q262
  obtain ⟨p263, q264⟩ := He.ba q263
  obtain ⟨p264, q265⟩ := He.ba q264
  obtain ⟨p265, q266⟩ := He.ba q265
  obtain ⟨p266, q267⟩ := He.ba q266
  obtain ⟨p267, q268⟩ := He.ba q267
  obtain ⟨p268, q269⟩ := He.ba q268
  obtain ⟨p269, q270⟩ := He.ba q269
  obtain ⟨p270, q271⟩ := He.ba q270
  obtain ⟨p271, q272⟩ := He.ba q271
  obtain ⟨p272, q273⟩ := He.ba q272
  obtain ⟨p273, q274⟩ := He.ba q273
  obtain ⟨p274, q275⟩ := He.ba q274
  obtain ⟨p275, q276⟩ := He.ba q275
  obtain ⟨p276, q277⟩ := He.ba q276
  obtain ⟨p277, q278⟩ := He.ba q277
  obtain ⟨p278, q279⟩ := He.ba q278
  obtain ⟨p279, q280⟩ := He.ba q279
  obtain ⟨p280, q281⟩ := He.ba q280
  obtain ⟨p281, q282⟩ := He.ba q281
  obtain ⟨p282, q283⟩ := He.ba q282
  obtain ⟨p283, q284⟩ := He.ba q283
  obtain ⟨p284, q285⟩ := He.ba q284
  obtain ⟨p285, q286⟩ := He.ba q285
  obtain ⟨p286, q287⟩ := He.ba q286
  obtain ⟨p287, q288⟩ := He.ba q287
  obtain ⟨p288, q289⟩ := He.ba q288
  obtain ⟨p289, q290⟩ := He.ba q289
  obtain ⟨p290, q291⟩ := He.ba q290
  obtain ⟨p291, q292⟩ := He.ba q291
  obtain ⟨p292, q293⟩ := He.ba q292
  obtain ⟨p293, q294⟩ := He.ba q293
  obtain ⟨p294, q295⟩ := He.ba q294
  obtain ⟨p295, q296⟩ := He.ba q295
  obtain ⟨p296, q297⟩ := He.ba q296
  obtain ⟨p297, q298⟩ := He.ba q297
  obtain ⟨p298, q299⟩ := He.ba q298
  obtain ⟨p299, q300⟩ := He.ba q299
  obtain ⟨p300, q301⟩ := He.ba q300
  obtain ⟨p301, q302⟩ := He.ba q301
  obtain ⟨p302, q303⟩ := He.ba q302
  obtain ⟨p303, q304⟩ := He.ba q303
  obtain ⟨p304, q305⟩ := He.ba q304
  obtain ⟨p305, q306⟩ := He.ba q305
  obtain ⟨p306, q307⟩ := He.ba q306
  obtain ⟨p307, q308⟩ := He.ba q307
  obtain ⟨p308, q309⟩ := He.ba q308
  obtain ⟨p309, q310⟩ := He.ba q309
  obtain ⟨p310, q311⟩ := He.ba q310
  obtain ⟨p311, q312⟩ := He.ba q311
  obtain ⟨p312, q313⟩ := He.ba q312
  obtain ⟨p313, q314⟩ := He.ba q313
  obtain ⟨p314, q315⟩ := He.ba q314
  obtain ⟨p315, q316⟩ := He.ba q315
  obtain ⟨p316, q317⟩ := He.ba q316
  obtain ⟨p317, q318⟩ := He.ba q317
  obtain ⟨p318, q319⟩ := He.ba q318
  obtain ⟨p319, q320⟩ := He.ba q319
  obtain ⟨p320, q321⟩ := He.ba q320
  obtain ⟨p321, q322⟩ := He.ba q321
  obtain ⟨p322, q323⟩ := He.ba q322
  obtain ⟨p323, q324⟩ := He.ba q323
  obtain ⟨p324, q325⟩ := He.ba q324
  obtain ⟨p325, q326⟩ := He.ba q325
  obtain ⟨p326, q327⟩ := He.ba q326
  obtain ⟨p327, q328⟩ := He.ba q327
  obtain ⟨p328, q329⟩ := He.ba q328
  obtain ⟨p329, q330⟩ := He.ba q329
  obtain ⟨p330, q331⟩ := He.ba q330
  obtain ⟨p331, q332⟩ := He.ba q331
  obtain ⟨p332, q333⟩ := He.ba q332
  obtain ⟨p333, q334⟩ := He.ba q333
  obtain ⟨p334, q335⟩ := He.ba q334
  obtain ⟨p335, q336⟩ := He.ba q335
  obtain ⟨p336, q337⟩ := He.ba q336
  obtain ⟨p337, q338⟩ := He.ba q337
  obtain ⟨p338, q339⟩ := He.ba q338
  obtain ⟨p339, q340⟩ := He.ba q339
  obtain ⟨p340, q341⟩ := He.ba q340
  obtain ⟨p341, q342⟩ := He.ba q341
  obtain ⟨p342, q343⟩ := He.ba q342
  obtain ⟨p343, q344⟩ := He.ba q343
  obtain ⟨p344, q345⟩ := He.ba q344
  obtain ⟨p345, q346⟩ := He.ba q345
  obtain ⟨p346, q347⟩ := He.ba q346
  obtain ⟨p347, q348⟩ := He.ba q347
  obtain ⟨p348, q349⟩ := He.ba q348
  obtain ⟨p349, q350⟩ := He.ba q349
  obtain ⟨p350, q351⟩ := He.ba q350
  obtain ⟨p351, q352⟩ := He.ba q351
  obtain ⟨p352, q353⟩ := He.ba q352
  obtain ⟨p353, q354⟩ := He.ba q353
  obtain ⟨p354, q355⟩ := He.ba q354
  obtain ⟨p355, q356⟩ := He.ba q355
  obtain ⟨p356, q357⟩ := He.ba q356
  obtain ⟨p357, q358⟩ := He.ba q357
  obtain ⟨p358, q359⟩ := He.ba q358
  obtain ⟨p359, q360⟩ := He.ba q359
  obtain ⟨p360, q361⟩ := He.ba q360
  obtain ⟨p361, q362⟩ := He.ba q361
  obtain ⟨p362, q363⟩ := He.ba q362
  obtain ⟨p363, q364⟩ := He.ba q363
  obtain ⟨p364, q365⟩ := He.ba q364
  obtain ⟨p365, q366⟩ := He.ba q365
  obtain ⟨p366, q367⟩ := He.ba q366
  obtain ⟨p367, q368⟩ := He.ba q367
  obtain ⟨p368, q369⟩ := He.ba q368
  obtain ⟨p369, q370⟩ := He.ba q369
  obtain ⟨p370, q371⟩ := He.ba q370
  obtain ⟨p371, q372⟩ := He.ba q371
  obtain ⟨p372, q373⟩ := He.ba q372
  obtain ⟨p373, q374⟩ := He.ba q373
  obtain ⟨p374, q375⟩ := He.ba q374
  obtain ⟨p375, q376⟩ := He.ba q375
  obtain ⟨p376, q377⟩ := He.ba q376
  obtain ⟨p377, q378⟩ := He.ba q377
  obtain ⟨p378, q379⟩ := He.ba q378
  obtain ⟨p379, q380⟩ := He.ba q379
  obtain ⟨p380, q381⟩ := He.ba q380
  obtain ⟨p381, q382⟩ := He.ba q381
  obtain ⟨p382, q383⟩ := He.ba q382
  obtain ⟨p383, q384⟩ := He.ba q383
  obtain ⟨p384, q385⟩ := He.ba q384
  obtain ⟨p385, q386⟩ := He.ba q385
  obtain ⟨p386, q387⟩ := He.ba q386
  obtain ⟨p387, q388⟩ := He.ba q387
  obtain ⟨p388, q389⟩ := He.ba q388
  obtain ⟨p389, q390⟩ := He.ba q389
  obtain ⟨p390, q391⟩ := He.ba q390
  obtain ⟨p391, q392⟩ := He.ba q391
  obtain ⟨p392, q393⟩ := He.ba q392
  obtain ⟨p393, q394⟩ := He.ba q393
  obtain ⟨p394, q395⟩ := He.ba q394
  obtain ⟨p395, q396⟩ := He.ba q395
  obtain ⟨p396, q397⟩ := He.ba q396
  obtain ⟨p397, q398⟩ := He.ba q397
  obtain ⟨p398, q399⟩ := He.ba q398
  obtain ⟨p399, q400⟩ := He.ba q399
  obtain ⟨p400, q401⟩ := He.ba q400
  obtain ⟨p401, q402⟩ := He.ba q401
  obtain ⟨p402, q403⟩ := He.ba q402
  obtain ⟨p403, q404⟩ := He.ba q403
  obtain ⟨p404, q405⟩ := He.ba q404
  obtain ⟨p405, q406⟩ := He.ba q405
  obtain ⟨p406, q407⟩ := He.ba q406
  obtain ⟨p407, q408⟩ := He.ba q407
  obtain ⟨p408, q409⟩ := He.ba q408
  obtain ⟨p409, q410⟩ := He.ba q409
  obtain ⟨p410, q411⟩ := He.ba q410
  obtain ⟨p411, q412⟩ := He.ba q411
  obtain ⟨p412, q413⟩ := He.ba q412
  obtain ⟨p413, q414⟩ := He.ba q413
  obtain ⟨p414, q415⟩ := He.ba q414
  obtain ⟨p415, q416⟩ := He.ba q415
  obtain ⟨p416, q417⟩ := He.ba q416
  obtain ⟨p417, q418⟩ := He.ba q417
  obtain ⟨p418, q419⟩ := He.ba q418
  obtain ⟨p419, q420⟩ := He.ba q419
  obtain ⟨p420, q421⟩ := He.ba q420
  obtain ⟨p421, q422⟩ := He.ba q421
  obtain ⟨p422, q423⟩ := He.ba q422
  obtain ⟨p423, q424⟩ := He.ba q423
  obtain ⟨p424, q425⟩ := He.ba q424
  obtain ⟨p425, q426⟩ := He.ba q425
  obtain ⟨p426, q427⟩ := He.ba q426
  obtain ⟨p427, q428⟩ := He.ba q427
  obtain ⟨p428, q429⟩ := He.ba q428
  obtain ⟨p429, q430⟩ := He.ba q429
  obtain ⟨p430, q431⟩ := He.ba q430
  obtain ⟨p431, q432⟩ := He.ba q431
  obtain ⟨p432, q433⟩ := He.ba q432
  obtain ⟨p433, q434⟩ := He.ba q433
  obtain ⟨p434, q435⟩ := He.ba q434
  obtain ⟨p435, q436⟩ := He.ba q435
  obtain ⟨p436, q437⟩ := He.ba q436
  obtain ⟨p437, q438⟩ := He.ba q437
  obtain ⟨p438, q439⟩ := He.ba q438
  obtain ⟨p439, q440⟩ := He.ba q439
  obtain ⟨p440, q441⟩ := He.ba q440
  obtain ⟨p441, q442⟩ := He.ba q441
  obtain ⟨p442, q443⟩ := He.ba q442
  obtain ⟨p443, q444⟩ := He.ba q443
  obtain ⟨p444, q445⟩ := He.ba q444
  obtain ⟨p445, q446⟩ := He.ba q445
  obtain ⟨p446, q447⟩ := He.ba q446
  obtain ⟨p447, q448⟩ := He.ba q447
  obtain ⟨p448, q449⟩ := He.ba q448
  obtain ⟨p449, q450⟩ := He.ba q449
  obtain ⟨p450, q451⟩ := He.ba q450
  obtain ⟨p451, q452⟩ := He.ba q451
  obtain ⟨p452, q453⟩ := He.ba q452
  obtain ⟨p453, q454⟩ := He.ba q453
  obtain ⟨p454, q455⟩ := He.ba q454
  obtain ⟨p455, q456⟩ := He.ba q455
  obtain ⟨p456, q457⟩ := He.ba q456
  obtain ⟨p457, q458⟩ := He.ba q457
  obtain ⟨p458, q459⟩ := He.ba q458
  obtain ⟨p459, q460⟩ := He.ba q459
  obtain ⟨p460, q461⟩ := He.ba q460
  obtain ⟨p461, q462⟩ := He.ba q461
  obtain ⟨p462, q463⟩ := He.ba q462
  obtain ⟨p463, q464⟩ := He.ba q463
  obtain ⟨p464, q465⟩ := He.ba q464
  obtain ⟨p465, q466⟩ := He.ba q465
  obtain ⟨p466, q467⟩ := He.ba q466
  obtain ⟨p467, q468⟩ := He.ba q467
  obtain ⟨p468, q469⟩ := He.ba q468
  obtain ⟨p469, q470⟩ := He.ba q469
  obtain ⟨p470, q471⟩ := He.ba q470
  obtain ⟨p471, q472⟩ := He.ba q471
  obtain ⟨p472, q473⟩ := He.ba q472
  obtain ⟨p473, q474⟩ := He.ba q473
  obtain ⟨p474, q475⟩ := He.ba q474
  obtain ⟨p475, q476⟩ := He.ba q475
  obtain ⟨p476, q477⟩ := He.ba q476
  obtain ⟨p477, q478⟩ := He.ba q477
  obtain ⟨p478, q479⟩ := He.ba q478
  obtain ⟨p479, q480⟩ := He.ba q479
  obtain ⟨p480, q481⟩ := He.ba q480
  obtain ⟨p481, q482⟩ := He.ba q481
  obtain ⟨p482, q483⟩ := He.ba q482
  obtain ⟨p483, q484⟩ := He.ba q483
  obtain ⟨p484, q485⟩ := He.ba q484
  obtain ⟨p485, q486⟩ := He.ba q485
  obtain ⟨p486, q487⟩ := He.ba q486
  obtain ⟨p487, q488⟩ := He.ba q487
  obtain ⟨p488, q489⟩ := He.ba q488
  obtain ⟨p489, q490⟩ := He.ba q489
  obtain ⟨p490, q491⟩ := He.ba q490
  obtain ⟨p491, q492⟩ := He.ba q491
  obtain ⟨p492, q493⟩ := He.ba q492
  obtain ⟨p493, q494⟩ := He.ba q493
  obtain ⟨p494, q495⟩ := He.ba q494
  obtain ⟨p495, q496⟩ := He.ba q495
  obtain ⟨p496, q497⟩ := He.ba q496
  obtain ⟨p497, q498⟩ := He.ba q497
  obtain ⟨p498, q499⟩ := He.ba q498
  obtain ⟨p499, q500⟩ := He.ba q499
  obtain ⟨p500, q501⟩ := He.ba q500
  obtain ⟨p501, q502⟩ := He.ba q501
  obtain ⟨p502, q503⟩ := He.ba q502
  obtain ⟨p503, q504⟩ := He.ba q503
  obtain ⟨p504, q505⟩ := He.ba q504
  obtain ⟨p505, q506⟩ := He.ba q505
  obtain ⟨p506, q507⟩ := He.ba q506
  obtain ⟨p507, q508⟩ := He.ba q507
  obtain ⟨p508, q509⟩ := He.ba q508
  obtain ⟨p509, q510⟩ := He.ba q509
  obtain ⟨p510, q511⟩ := He.ba q510
  obtain ⟨p511, q512⟩ := He.ba q511
  obtain ⟨p512, q513⟩ := He.ba q512
  obtain ⟨p513, q514⟩ := He.ba q513
  obtain ⟨p514, q515⟩ := He.ba q514
  obtain ⟨p515, q516⟩ := He.ba q515
  obtain ⟨p516, q517⟩ := He.ba q516
  obtain ⟨p517, q518⟩ := He.ba q517
  obtain ⟨p518, q519⟩ := He.ba q518
  obtain ⟨p519, q520⟩ := He.ba q519
  obtain ⟨p520, q521⟩ := He.ba q520
  obtain ⟨p521, q522⟩ := He.ba q521
  obtain ⟨p522, q523⟩ := He.ba q522
  obtain ⟨p523, q524⟩ := He.ba q523
  obtain ⟨p524, q525⟩ := He.ba q524
  obtain ⟨p525, q526⟩ := He.ba q525
  obtain ⟨p526, q527⟩ := He.ba q526
  obtain ⟨p527, q528⟩ := He.ba q527
  obtain ⟨p528, q529⟩ := He.ba q528
  obtain ⟨p529, q530⟩ := He.ba q529
  obtain ⟨p530, q531⟩ := He.ba q530
  obtain ⟨p531, q532⟩ := He.ba q531
  obtain ⟨p532, q533⟩ := He.ba q532
  obtain ⟨p533, q534⟩ := He.ba q533
  obtain ⟨p534, q535⟩ := He.ba q534
  obtain ⟨p535, q536⟩ := He.ba q535
  obtain ⟨p536, q537⟩ := He.ba q536
  obtain ⟨p537, q538⟩ := He.ba q537
  obtain ⟨p538, q539⟩ := He.ba q538
  obtain ⟨p539, q540⟩ := He.ba q539
  obtain ⟨p540, q541⟩ := He.ba q540
  obtain ⟨p541, q542⟩ := He.ba q541
  obtain ⟨p542, q543⟩ := He.ba q542
  obtain ⟨p543, q544⟩ := He.ba q543
  obtain ⟨p544, q545⟩ := He.ba q544
  obtain ⟨p545, q546⟩ := He.ba q545
  obtain ⟨p546, q547⟩ := He.ba q546
  obtain ⟨p547, q548⟩ := He.ba q547
  obtain ⟨p548, q549⟩ := He.ba q548
  obtain ⟨p549, q550⟩ := He.ba q549
  obtain ⟨p550, q551⟩ := He.ba q550
  obtain ⟨p551, q552⟩ := He.ba q551
  obtain ⟨p552, q553⟩ := He.ba q552
  obtain ⟨p553, q554⟩ := He.ba q553
  obtain ⟨p554, q555⟩ := He.ba q554
  obtain ⟨p555, q556⟩ := He.ba q555
  obtain ⟨p556, q557⟩ := He.ba q556
  obtain ⟨p557, q558⟩ := He.ba q557
  obtain ⟨p558, q559⟩ := He.ba q558
  obtain ⟨p559, q560⟩ := He.ba q559
  obtain ⟨p560, q561⟩ := He.ba q560
  obtain ⟨p561, q562⟩ := He.ba q561
  have p562 := q562
  have fr : ∀ x ∈ frees, mg x = none := fun x m => He.free_ok X G (List.all_eq_true.mp p0 x m)
  have gl : ∀ x ∈ gloes, mg x = some (.ref (He.ga K x)) := fun x m => He.glo_ok X G (List.all_eq_true.mp p1 x m)
  obtain ⟨fd0, F0⟩ := hf_law_source c
  obtain ⟨fd1, F1⟩ := hf_law_draw c
  obtain ⟨fd2, F2⟩ := hf_law_pick c
  obtain ⟨fd3, F3⟩ := hf_law_arguments c
  obtain ⟨fd4, F4⟩ := hf_law_states c
  obtain ⟨fd5, F5⟩ := hf_law_kinds c
  obtain ⟨fd6, F6⟩ := hf_law_bases c
  obtain ⟨fd7, F7⟩ := hf_law_all_right c
  obtain ⟨fd8, F8⟩ := hf_law c
  obtain ⟨fdi_InvalidSelection, Fi_InvalidSelection⟩ := hfi_InvalidSelection c
  obtain ⟨fdi_InvalidRun, Fi_InvalidRun⟩ := hfi_InvalidRun c
  obtain ⟨fdi_InvalidLabel, Fi_InvalidLabel⟩ := hfi_InvalidLabel c
  obtain ⟨fdi_InvalidForest, Fi_InvalidForest⟩ := hfi_InvalidForest c
  obtain ⟨fdi_InvalidOrder, Fi_InvalidOrder⟩ := hfi_InvalidOrder c
  obtain ⟨fdi_InvalidTable, Fi_InvalidTable⟩ := hfi_InvalidTable c
  obtain ⟨fdi_InvalidPrices, Fi_InvalidPrices⟩ := hfi_InvalidPrices c
  obtain ⟨fdi_InvalidNumbers, Fi_InvalidNumbers⟩ := hfi_InvalidNumbers c
  obtain ⟨fdi_TooLarge, Fi_TooLarge⟩ := hfi_TooLarge c
  obtain ⟨fdi_InvalidEdit, Fi_InvalidEdit⟩ := hfi_InvalidEdit c
  obtain ⟨fdi_InvalidRank, Fi_InvalidRank⟩ := hfi_InvalidRank c
  obtain ⟨fdi_InvalidText, Fi_InvalidText⟩ := hfi_InvalidText c
  obtain ⟨fdi_NotChild, Fi_NotChild⟩ := hfi_NotChild c
  obtain ⟨fdi_NotRoot, Fi_NotRoot⟩ := hfi_NotRoot c
  obtain ⟨fdi_Unreachable, Fi_Unreachable⟩ := hfi_Unreachable c
  obtain ⟨fdi_NothingRemains, Fi_NothingRemains⟩ := hfi_NothingRemains c
  obtain ⟨fdi_NotRemovable, Fi_NotRemovable⟩ := hfi_NotRemovable c
  obtain ⟨fdi_NotClearing, Fi_NotClearing⟩ := hfi_NotClearing c
  obtain ⟨fdi_WouldLoop, Fi_WouldLoop⟩ := hfi_WouldLoop c
  obtain ⟨fdi_NothingToUndo, Fi_NothingToUndo⟩ := hfi_NothingToUndo c
  exact ⟨fr _ (by decide),
    fr _ (by decide),
    fr _ (by decide),
    fr _ (by decide),
    fr _ (by decide),
    fr _ (by decide),
    fr _ (by decide),
    defF_ok X G F0 (gl _ (by decide)),
    defF_ok X G F1 (gl _ (by decide)),
    defF_ok X G F2 (gl _ (by decide)),
    defF_ok X G F3 (gl _ (by decide)),
    defF_ok X G F4 (gl _ (by decide)),
    defF_ok X G F5 (gl _ (by decide)),
    defF_ok X G F6 (gl _ (by decide)),
    defF_ok X G F7 (gl _ (by decide)),
    defF_ok X G F8 (gl _ (by decide)),
    excFB_ok p2 (gl _ (by decide)) (gl _ (by decide)) Fi_InvalidSelection,
    excFB_ok p3 (gl _ (by decide)) (gl _ (by decide)) Fi_InvalidRun,
    excFB_ok p4 (gl _ (by decide)) (gl _ (by decide)) Fi_InvalidLabel,
    excFB_ok p5 (gl _ (by decide)) (gl _ (by decide)) Fi_InvalidForest,
    excFB_ok p6 (gl _ (by decide)) (gl _ (by decide)) Fi_InvalidOrder,
    excFB_ok p7 (gl _ (by decide)) (gl _ (by decide)) Fi_InvalidTable,
    excFB_ok p8 (gl _ (by decide)) (gl _ (by decide)) Fi_InvalidPrices,
    excFB_ok p9 (gl _ (by decide)) (gl _ (by decide)) Fi_InvalidNumbers,
    excFB_ok p10 (gl _ (by decide)) (gl _ (by decide)) Fi_TooLarge,
    excFB_ok p11 (gl _ (by decide)) (gl _ (by decide)) Fi_InvalidEdit,
    excFB_ok p12 (gl _ (by decide)) (gl _ (by decide)) Fi_InvalidRank,
    excFB_ok p13 (gl _ (by decide)) (gl _ (by decide)) Fi_InvalidText,
    excFTB_ok p14 (gl _ (by decide)) (gl _ (by decide)) Fi_NotChild,
    excFTB_ok p15 (gl _ (by decide)) (gl _ (by decide)) Fi_NotRoot,
    excFTB_ok p16 (gl _ (by decide)) (gl _ (by decide)) Fi_Unreachable,
    excFTB_ok p17 (gl _ (by decide)) (gl _ (by decide)) Fi_NothingRemains,
    excFTB_ok p18 (gl _ (by decide)) (gl _ (by decide)) Fi_NotRemovable,
    excFTB_ok p19 (gl _ (by decide)) (gl _ (by decide)) Fi_NotClearing,
    excFTB_ok p20 (gl _ (by decide)) (gl _ (by decide)) Fi_WouldLoop,
    excFTB_ok p21 (gl _ (by decide)) (gl _ (by decide)) Fi_NothingToUndo,
    excCB_ok p22,
    excCB_ok p23,
    excCB_ok p24,
    excCB_ok p25,
    excCB_ok p26,
    excCB_ok p27,
    excCB_ok p28,
    excCB_ok p29,
    excCB_ok p30,
    excCB_ok p31,
    excCB_ok p32,
    excCB_ok p33,
    excCB_ok p34,
    excCB_ok p35,
    excCB_ok p36,
    excCB_ok p37,
    excCB_ok p38,
    excCB_ok p39,
    excCB_ok p40,
    excCB_ok p41,
    gl _ (by decide),
    gl _ (by decide),
    gl _ (by decide),
    gl _ (by decide),
    gl _ (by decide),
    gl _ (by decide),
    gl _ (by decide),
    gl _ (by decide),
    gl _ (by decide),
    gl _ (by decide),
    gl _ (by decide),
    gl _ (by decide),
    gl _ (by decide),
    gl _ (by decide),
    gl _ (by decide),
    gl _ (by decide),
    gl _ (by decide),
    gl _ (by decide),
    gl _ (by decide),
    gl _ (by decide),
    gl _ (by decide),
    gl _ (by decide),
    gl _ (by decide),
    of_decide_eq_true p42,
    of_decide_eq_true p43,
    of_decide_eq_true p44,
    of_decide_eq_true p45,
    of_decide_eq_true p46,
    of_decide_eq_true p47,
    of_decide_eq_true p48,
    of_decide_eq_true p49,
    of_decide_eq_true p50,
    of_decide_eq_true p51,
    of_decide_eq_true p52,
    of_decide_eq_true p53,
    of_decide_eq_true p54,
    of_decide_eq_true p55,
    of_decide_eq_true p56,
    of_decide_eq_true p57,
    of_decide_eq_true p58,
    of_decide_eq_true p59,
    of_decide_eq_true p60,
    of_decide_eq_true p61,
    of_decide_eq_true p62,
    of_decide_eq_true p63,
    of_decide_eq_true p64,
    of_decide_eq_true p65,
    of_decide_eq_true p66,
    of_decide_eq_true p67,
    of_decide_eq_true p68,
    of_decide_eq_true p69,
    of_decide_eq_true p70,
    of_decide_eq_true p71,
    of_decide_eq_true p72,
    of_decide_eq_true p73,
    of_decide_eq_true p74,
    of_decide_eq_true p75,
    of_decide_eq_true p76,
    of_decide_eq_true p77,
    of_decide_eq_true p78,
    of_decide_eq_true p79,
    of_decide_eq_true p80,
    of_decide_eq_true p81,
    of_decide_eq_true p82,
    of_decide_eq_true p83,
    of_decide_eq_true p84,
    of_decide_eq_true p85,
    of_decide_eq_true p86,
    of_decide_eq_true p87,
    of_decide_eq_true p88,
    of_decide_eq_true p89,
    of_decide_eq_true p90,
    of_decide_eq_true p91,
    of_decide_eq_true p92,
    of_decide_eq_true p93,
    of_decide_eq_true p94,
    of_decide_eq_true p95,
    of_decide_eq_true p96,
    of_decide_eq_true p97,
    of_decide_eq_true p98,
    of_decide_eq_true p99,
    of_decide_eq_true p100,
    of_decide_eq_true p101,
    of_decide_eq_true p102,
    of_decide_eq_true p103,
    of_decide_eq_true p104,
    of_decide_eq_true p105,
    of_decide_eq_true p106,
    of_decide_eq_true p107,
    of_decide_eq_true p108,
    of_decide_eq_true p109,
    of_decide_eq_true p110,
    of_decide_eq_true p111,
    of_decide_eq_true p112,
    of_decide_eq_true p113,
    of_decide_eq_true p114,
    of_decide_eq_true p115,
    of_decide_eq_true p116,
    of_decide_eq_true p117,
    of_decide_eq_true p118,
    of_decide_eq_true p119,
    of_decide_eq_true p120,
    of_decide_eq_true p121,
    of_decide_eq_true p122,
    of_decide_eq_true p123,
    of_decide_eq_true p124,
    of_decide_eq_true p125,
    of_decide_eq_true p126,
    of_decide_eq_true p127,
    of_decide_eq_true p128,
    of_decide_eq_true p129,
    of_decide_eq_true p130,
    of_decide_eq_true p131,
    of_decide_eq_true p132,
    of_decide_eq_true p133,
    of_decide_eq_true p134,
    of_decide_eq_true p135,
    of_decide_eq_true p136,
    of_decide_eq_true p137,
    of_decide_eq_true p138,
    of_decide_eq_true p139,
    of_decide_eq_true p140,
    of_decide_eq_true p141,
    of_decide_eq_true p142,
    of_decide_eq_true p143,
    of_decide_eq_true p144,
    of_decide_eq_true p145,
    of_decide_eq_true p146,
    of_decide_eq_true p147,
    of_decide_eq_true p148,
    of_decide_eq_true p149,
    of_decide_eq_true p150,
    of_decide_eq_true p151,
    of_decide_eq_true p152,
    of_decide_eq_true p153,
    of_decide_eq_true p154,
    of_decide_eq_true p155,
    of_decide_eq_true p156,
    of_decide_eq_true p157,
    of_decide_eq_true p158,
    of_decide_eq_true p159,
    of_decide_eq_true p160,
    of_decide_eq_true p161,
    of_decide_eq_true p162,
    of_decide_eq_true p163,
    of_decide_eq_true p164,
    of_decide_eq_true p165,
    of_decide_eq_true p166,
    of_decide_eq_true p167,
    of_decide_eq_true p168,
    of_decide_eq_true p169,
    of_decide_eq_true p170,
    of_decide_eq_true p171,
    of_decide_eq_true p172,
    of_decide_eq_true p173,
    of_decide_eq_true p174,
    of_decide_eq_true p175,
    of_decide_eq_true p176,
    of_decide_eq_true p177,
    of_decide_eq_true p178,
    of_decide_eq_true p179,
    of_decide_eq_true p180,
    of_decide_eq_true p181,
    of_decide_eq_true p182,
    of_decide_eq_true p183,
    of_decide_eq_true p184,
    of_decide_eq_true p185,
    of_decide_eq_true p186,
    of_decide_eq_true p187,
    of_decide_eq_true p188,
    of_decide_eq_true p189,
    of_decide_eq_true p190,
    of_decide_eq_true p191,
    of_decide_eq_true p192,
    of_decide_eq_true p193,
    of_decide_eq_true p194,
    of_decide_eq_true p195,
    of_decide_eq_true p196,
    of_decide_eq_true p197,
    of_decide_eq_true p198,
    of_decide_eq_true p199,
    of_decide_eq_true p200,
    of_decide_eq_true p201,
    of_decide_eq_true p202,
    of_decide_eq_true p203,
    of_decide_eq_true p204,
    of_decide_eq_true p205,
    of_decide_eq_true p206,
    of_decide_eq_true p207,
    of_decide_eq_true p208,
    of_decide_eq_true p209,
    of_decide_eq_true p210,
    of_decide_eq_true p211,
    of_decide_eq_true p212,
    of_decide_eq_true p213,
    of_decide_eq_true p214,
    of_decide_eq_true p215,
    of_decide_eq_true p216,
    of_decide_eq_true p217,
    of_decide_eq_true p218,
    of_decide_eq_true p219,
    of_decide_eq_true p220,
    of_decide_eq_true p221,
    of_decide_eq_true p222,
    of_decide_eq_true p223,
    of_decide_eq_true p224,
    of_decide_eq_true p225,
    of_decide_eq_true p226,
    of_decide_eq_true p227,
    of_decide_eq_true p228,
    of_decide_eq_true p229,
    of_decide_eq_true p230,
    of_decide_eq_true p231,
    of_decide_eq_true p232,
    of_decide_eq_true p233,
    of_decide_eq_true p234,
    of_decide_eq_true p235,
    of_decide_eq_true p236,
    of_decide_eq_true p237,
    of_decide_eq_true p238,
    of_decide_eq_true p239,
    of_decide_eq_true p240,
    of_decide_eq_true p241,
    of_decide_eq_true p242,
    of_decide_eq_true p243,
    of_decide_eq_true p244,
    of_decide_eq_true p245,
    of_decide_eq_true p246,
    of_decide_eq_true p247,
    of_decide_eq_true p248,
    of_decide_eq_true p249,
    of_decide_eq_true p250,
    of_decide_eq_true p251,
    of_decide_eq_true p252,
    of_decide_eq_true p253,
    of_decide_eq_true p254,
    of_decide_eq_true p255,
    of_decide_eq_true p256,
    of_decide_eq_true p257,
    of_decide_eq_true p258,
    of_decide_eq_true p259,
    of_decide_eq_true p260,
    of_decide_eq_true p261,
    of_decide_eq_true p262,
    of_decide_eq_true p263,
    of_decide_eq_true p264,
    of_decide_eq_true p265,
    of_decide_eq_true p266,
    of_decide_eq_true p267,
    of_decide_eq_true p268,
    of_decide_eq_true p269,
    of_decide_eq_true p270,
    of_decide_eq_true p271,
    of_decide_eq_true p272,
    of_decide_eq_true p273,
    of_decide_eq_true p274,
    of_decide_eq_true p275,
    of_decide_eq_true p276,
    of_decide_eq_true p277,
    of_decide_eq_true p278,
    of_decide_eq_true p279,
    of_decide_eq_true p280,
    of_decide_eq_true p281,
    of_decide_eq_true p282,
    of_decide_eq_true p283,
    of_decide_eq_true p284,
    of_decide_eq_true p285,
    of_decide_eq_true p286,
    of_decide_eq_true p287,
    of_decide_eq_true p288,
    of_decide_eq_true p289,
    of_decide_eq_true p290,
    of_decide_eq_true p291,
    of_decide_eq_true p292,
    of_decide_eq_true p293,
    of_decide_eq_true p294,
    of_decide_eq_true p295,
    of_decide_eq_true p296,
    of_decide_eq_true p297,
    of_decide_eq_true p298,
    of_decide_eq_true p299,
    of_decide_eq_true p300,
    of_decide_eq_true p301,
    of_decide_eq_true p302,
    of_decide_eq_true p303,
    of_decide_eq_true p304,
    of_decide_eq_true p305,
    of_decide_eq_true p306,
    of_decide_eq_true p307,
    of_decide_eq_true p308,
    of_decide_eq_true p309,
    of_decide_eq_true p310,
    of_decide_eq_true p311,
    of_decide_eq_true p312,
    of_decide_eq_true p313,
    of_decide_eq_true p314,
    of_decide_eq_true p315,
    of_decide_eq_true p316,
    of_decide_eq_true p317,
    of_decide_eq_true p318,
    of_decide_eq_true p319,
    of_decide_eq_true p320,
    of_decide_eq_true p321,
    of_decide_eq_true p322,
    of_decide_eq_true p323,
    of_decide_eq_true p324,
    of_decide_eq_true p325,
    of_decide_eq_true p326,
    of_decide_eq_true p327,
    of_decide_eq_true p328,
    of_decide_eq_true p329,
    of_decide_eq_true p330,
    of_decide_eq_true p331,
    of_decide_eq_true p332,
    of_decide_eq_true p333,
    of_decide_eq_true p334,
    of_decide_eq_true p335,
    of_decide_eq_true p336,
    of_decide_eq_true p337,
    of_decide_eq_true p338,
    of_decide_eq_true p339,
    of_decide_eq_true p340,
    of_decide_eq_true p341,
    of_decide_eq_true p342,
    of_decide_eq_true p343,
    of_decide_eq_true p344,
    of_decide_eq_true p345,
    of_decide_eq_true p346,
    of_decide_eq_true p347,
    of_decide_eq_true p348,
    of_decide_eq_true p349,
    of_decide_eq_true p350,
    of_decide_eq_true p351,
    of_decide_eq_true p352,
    of_decide_eq_true p353,
    of_decide_eq_true p354,
    of_decide_eq_true p355,
    of_decide_eq_true p356,
    of_decide_eq_true p357,
    of_decide_eq_true p358,
    of_decide_eq_true p359,
    of_decide_eq_true p360,
    of_decide_eq_true p361,
    of_decide_eq_true p362,
    of_decide_eq_true p363,
    of_decide_eq_true p364,
    of_decide_eq_true p365,
    of_decide_eq_true p366,
    of_decide_eq_true p367,
    of_decide_eq_true p368,
    of_decide_eq_true p369,
    of_decide_eq_true p370,
    of_decide_eq_true p371,
    of_decide_eq_true p372,
    of_decide_eq_true p373,
    of_decide_eq_true p374,
    of_decide_eq_true p375,
    of_decide_eq_true p376,
    of_decide_eq_true p377,
    of_decide_eq_true p378,
    of_decide_eq_true p379,
    of_decide_eq_true p380,
    of_decide_eq_true p381,
    of_decide_eq_true p382,
    of_decide_eq_true p383,
    of_decide_eq_true p384,
    of_decide_eq_true p385,
    of_decide_eq_true p386,
    of_decide_eq_true p387,
    of_decide_eq_true p388,
    of_decide_eq_true p389,
    of_decide_eq_true p390,
    of_decide_eq_true p391,
    of_decide_eq_true p392,
    of_decide_eq_true p393,
    of_decide_eq_true p394,
    of_decide_eq_true p395,
    of_decide_eq_true p396,
    of_decide_eq_true p397,
    of_decide_eq_true p398,
    of_decide_eq_true p399,
    of_decide_eq_true p400,
    of_decide_eq_true p401,
    of_decide_eq_true p402,
    of_decide_eq_true p403,
    of_decide_eq_true p404,
    of_decide_eq_true p405,
    of_decide_eq_true p406,
    of_decide_eq_true p407,
    of_decide_eq_true p408,
    of_decide_eq_true p409,
    of_decide_eq_true p410,
    of_decide_eq_true p411,
    of_decide_eq_true p412,
    of_decide_eq_true p413,
    of_decide_eq_true p414,
    of_decide_eq_true p415,
    of_decide_eq_true p416,
    of_decide_eq_true p417,
    of_decide_eq_true p418,
    of_decide_eq_true p419,
    of_decide_eq_true p420,
    of_decide_eq_true p421,
    of_decide_eq_true p422,
    of_decide_eq_true p423,
    of_decide_eq_true p424,
    of_decide_eq_true p425,
    of_decide_eq_true p426,
    of_decide_eq_true p427,
    of_decide_eq_true p428,
    of_decide_eq_true p429,
    of_decide_eq_true p430,
    of_decide_eq_true p431,
    of_decide_eq_true p432,
    of_decide_eq_true p433,
    of_decide_eq_true p434,
    of_decide_eq_true p435,
    of_decide_eq_true p436,
    of_decide_eq_true p437,
    of_decide_eq_true p438,
    of_decide_eq_true p439,
    of_decide_eq_true p440,
    of_decide_eq_true p441,
    of_decide_eq_true p442,
    of_decide_eq_true p443,
    of_decide_eq_true p444,
    of_decide_eq_true p445,
    of_decide_eq_true p446,
    of_decide_eq_true p447,
    of_decide_eq_true p448,
    of_decide_eq_true p449,
    of_decide_eq_true p450,
    of_decide_eq_true p451,
    of_decide_eq_true p452,
    of_decide_eq_true p453,
    of_decide_eq_true p454,
    of_decide_eq_true p455,
    of_decide_eq_true p456,
    of_decide_eq_true p457,
    of_decide_eq_true p458,
    of_decide_eq_true p459,
    of_decide_eq_true p460,
    of_decide_eq_true p461,
    of_decide_eq_true p462,
    of_decide_eq_true p463,
    of_decide_eq_true p464,
    of_decide_eq_true p465,
    of_decide_eq_true p466,
    of_decide_eq_true p467,
    of_decide_eq_true p468,
    of_decide_eq_true p469,
    of_decide_eq_true p470,
    of_decide_eq_true p471,
    of_decide_eq_true p472,
    of_decide_eq_true p473,
    of_decide_eq_true p474,
    of_decide_eq_true p475,
    of_decide_eq_true p476,
    of_decide_eq_true p477,
    of_decide_eq_true p478,
    of_decide_eq_true p479,
    of_decide_eq_true p480,
    of_decide_eq_true p481,
    of_decide_eq_true p482,
    of_decide_eq_true p483,
    of_decide_eq_true p484,
    of_decide_eq_true p485,
    of_decide_eq_true p486,
    of_decide_eq_true p487,
    of_decide_eq_true p488,
    of_decide_eq_true p489,
    of_decide_eq_true p490,
    of_decide_eq_true p491,
    of_decide_eq_true p492,
    of_decide_eq_true p493,
    of_decide_eq_true p494,
    of_decide_eq_true p495,
    of_decide_eq_true p496,
    of_decide_eq_true p497,
    of_decide_eq_true p498,
    of_decide_eq_true p499,
    of_decide_eq_true p500,
    of_decide_eq_true p501,
    of_decide_eq_true p502,
    of_decide_eq_true p503,
    of_decide_eq_true p504,
    of_decide_eq_true p505,
    of_decide_eq_true p506,
    of_decide_eq_true p507,
    of_decide_eq_true p508,
    of_decide_eq_true p509,
    of_decide_eq_true p510,
    of_decide_eq_true p511,
    of_decide_eq_true p512,
    of_decide_eq_true p513,
    of_decide_eq_true p514,
    of_decide_eq_true p515,
    of_decide_eq_true p516,
    of_decide_eq_true p517,
    of_decide_eq_true p518,
    of_decide_eq_true p519,
    of_decide_eq_true p520,
    of_decide_eq_true p521,
    of_decide_eq_true p522,
    of_decide_eq_true p523,
    of_decide_eq_true p524,
    of_decide_eq_true p525,
    of_decide_eq_true p526,
    of_decide_eq_true p527,
    of_decide_eq_true p528,
    of_decide_eq_true p529,
    of_decide_eq_true p530,
    of_decide_eq_true p531,
    of_decide_eq_true p532,
    of_decide_eq_true p533,
    of_decide_eq_true p534,
    of_decide_eq_true p535,
    of_decide_eq_true p536,
    of_decide_eq_true p537,
    of_decide_eq_true p538,
    of_decide_eq_true p539,
    of_decide_eq_true p540,
    of_decide_eq_true p541,
    of_decide_eq_true p542,
    of_decide_eq_true p543,
    of_decide_eq_true p544,
    of_decide_eq_true p545,
    of_decide_eq_true p546,
    of_decide_eq_true p547,
    of_decide_eq_true p548,
    of_decide_eq_true p549,
    of_decide_eq_true p550,
    of_decide_eq_true p551,
    of_decide_eq_true p552,
    of_decide_eq_true p553,
    of_decide_eq_true p554,
    of_decide_eq_true p555,
    of_decide_eq_true p556,
    of_decide_eq_true p557,
    of_decide_eq_true p558,
    of_decide_eq_true p559,
    of_decide_eq_true p560,
    of_decide_eq_true p561,
    p562⟩
theorem fb_of {K : PySem.W.Frag} {h : Heap} {mg : Str → Option Value} {base : Heap} (X : K.In h) (G : h.Ns mainGlobals mg) (c : SaysM chk dfs K) (TB : ∀ p ∈ tf.map (fun p => He.cT K p.1), LamX.TabB base mg p.1 p.2) : Fb K mg (clA K) base := by
  have F := fs_of X G c
  exact { F with }
def loose0 : List Str := (["__name__", "DialError", "DialStateError", "DialLookupError", "InvalidForest", "InvalidLabel", "InvalidRun", "InvalidSelection", "InvalidNumbers", "InvalidPrices", "InvalidTable", "InvalidOrder", "InvalidText", "InvalidRank", "InvalidEdit", "TooLarge", "NotRemovable", "NothingRemains", "Unreachable", "NotRoot", "NotChild", "WouldLoop", "NotClearing", "NothingToUndo", "_law_source", "_law_draw", "_law_pick", "_law_arguments", "_law_states", "_law_kinds"] : List Str)
def loose1 : List Str := (["_law_bases", "_law_all_right"] : List Str)
def loose : List Str := loose0 ++ loose1
abbrev R : PySem.W.OpenRow := PySem.W.OpenLaw.row PySem.Challenge.rw_dialforest_k08_errors_by_hand
abbrev hk : PySem.W.Hook := hookZ 5 chk dfs (tf.map (·.1))
def ob (s : PySem.W.SharedT) : He.AlD × Bool := obsZ 5 chk dfs (tf.map (·.1)) (HandSHeadRun.getT s)
theorem ob_eq (s : PySem.W.SharedT) : ob s = hk.obs s.abs := obsZ_eq (HandSHeadRun.getT_eq s)
theorem run (w : World) : HandSHeadRun.RunEq R (PySem.W.view R.prog [33]) hk ob 30000 loose w := by
  intro os
  kernel_rfl
end K08

set_option Elab.async false
set_option linter.all false
set_option maxRecDepth 100000
/-! E_k08: the end, printed by gen.py. -/
open PySem PySem.W PySem.Calls PyProof.Rows
set_option maxHeartbeats 0 in
theorem PySem.Challenge.cw_dialforest_k08_errors_by_hand_holds : PySem.Challenge.rw_dialforest_k08_errors_by_hand.Holds := by
  w_on; o_law
  refine HandSHeadRun.head_any (r := OpenLaw.row PySem.Challenge.rw_dialforest_k08_errors_by_hand) (q := view (OpenLaw.row PySem.Challenge.rw_dialforest_k08_errors_by_hand).prog [33]) (H := K08.hk) (ob := K08.ob) (M := 30000) (loose := K08.loose) (d := HandSHeadRun.topDef (OpenLaw.row PySem.Challenge.rw_dialforest_k08_errors_by_hand).prog 33) (kwd := []) K08.ob_eq
    (by kernel_rfl) (fun s => by kernel_rfl) K08.run (by kernel_rfl) (by kernel_rfl) (by kernel_rfl) (by rfl) (by first | assumption | decide +kernel) (by decide +kernel) ⟨rfl, rfl, rfl, rfl, rfl, by decide +kernel⟩ ?hw ?hc
  case hw => w_witness2
  case hc =>
    refine DL.walk_DT (l := PySem.Challenge.rw_dialforest_k08_errors_by_hand) (n := 63) (k := 4) (x := "script") (cl := K08.clA) rfl (by decide) (by kernel_rfl) ⟨⟨rfl, by decide, by decide⟩, rfl⟩ ?F
    intro w mg fa h Y G hmg0
    obtain ⟨K, KX, ⟨c, hd, out, emp⟩⟩ := Y
    have hmg : mg ("law" : PySem.Str) = some (.ref fa) := by
      have e : (HandSHeadRun.topDef (OpenLaw.row PySem.Challenge.rw_dialforest_k08_errors_by_hand).prog 33).name = ("law" : PySem.Str) := by kernel_rfl
      rw [← e]
      exact hmg0
    have F := K08.fs_of KX G c
    obtain ⟨f, fd, dv, FD, hdv, rdv, hm⟩ := F.d_law
    have ef := hmg.symm.trans hm
    cases ef
    have hb : ∀ (s : Shared) (u : Value), BindsTo s fd ⟨[u], []⟩ [(("script" : PySem.Str), u)] := fun s u => L2.FunD.bindsA (ps := ["script"]) FD (fun _ _ _ _ _ _ us hl => match us, hl with | [_], _ => rfl) s [u] rfl
    obtain ⟨oc, od, dV, kV, doc, pm, an, cdv, ct, osl, rfl, lk, hcd, hD, _⟩ := FD.ex
    have hdV : dV = .none := hD.elim (fun z => z.2) fun z => absurd rfl z.1
    subst hdV
    refine ⟨K, _, K08.den_law, K08.tf.map (fun p => He.cT K p.1), KX, fun p hp => ?_, fun p hp => ?_, fun p hp => ?_, fun p hp => ?_, hb, K08.law_ok, fun base _ _ TB => ?_⟩
    rotate_right
    · have FB := K08.fb_of KX G c TB
      exact DL.fnD_of lk hcd K08.sc_law fun A outer s H E hr => K08.bd_law FB hr
    · obtain ⟨q, hq, rfl⟩ := List.mem_map.mp hp
      exact emp _ (List.mem_map.mpr ⟨q, hq, rfl⟩)
    · obtain ⟨q, hq, rfl⟩ := List.mem_map.mp hp
      exact out _ (List.mem_map.mpr ⟨q, hq, rfl⟩)
    · obtain ⟨q, hq, rfl⟩ := List.mem_map.mp hp
      exact PySem.W.codeHd_of_K KX (hd _ (List.mem_map.mpr ⟨q, hq, rfl⟩))
    · obtain ⟨q, hq, rfl⟩ := List.mem_map.mp hp
      exact List.mem_map.mpr ⟨He.cT K q.1, List.mem_map.mpr ⟨q, hq, rfl⟩, rfl⟩
