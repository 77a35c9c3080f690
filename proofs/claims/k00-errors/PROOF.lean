import PyProof.Rows.All
import Wide.All
import OpenK.AllK
import Wide.FinOn
import HandS.ForMost
import HandS.ForExc
import HandS.Flow
import HandS.TryMany
import HandS.EndBits
import HandS.TupAny
import HandS.IsInst
import HandS.WideBits
import HandS.Wide
import HandS.Zip
import HandS.ExcField
import HandS.ExcIs
import HandS.TupMul
import HandS.TupLe
import HandS.Style
import PyProof.ReprRoads
import KE.SortData
import KE.DataCmp
import KE.DataEq
import HandS.Dict
import HandS.More
import HandS.SortRule
import HandS.ListItems
import HandS.DictTup
import KE.KExcSuper
import HandS.ExcInit
import KE.KExcIs
import HandS.Conv
import HandS.SetKeys
import HandS.Iter
import HandS.Walk
import KE.GoesMore
import PyProof.Draws
import PyProof.EnumMake
import HandS.HotCalls
import PySem.Challenge.RW_packedwhole_k00_errors_and_limits
import KE.BitLaws
import KE.KEqSeq
import HandS.Text
import PyProof.Rows.StrJoinMade
import PyProof.ReprLen
import PyProof.ReprBulk
import PyProof.FitsInt
/-! ## Fw1 -/
set_option Elab.async false
set_option linter.all false
set_option maxRecDepth 100000
set_option maxHeartbeats 4000000
/-! Values without the heap, the store of what may change, and how both lie in the abstract heap. -/
namespace Fw
open PySem L2

/-- a Python value: what may change stands in the store and is named by its number there -/
inductive D where
  | non | bl (b : Bool) | int (i : Int) | str (x : Str)
  | tup (ds : List D) | lst (ds : List D)
  | scr (ds : List D) | ref (n : Nat) | fn (f : Nat)
  deriving Inhabited

/-- what stands in the store -/
inductive Ob where
  | lst (ds : List D)
  | ins (c : Nat) (fs : List (Nat × D))
  | dic (kvs : List (Key × D))
  deriving Inhabited
abbrev Store := List Ob

/-- the written part, the addresses of functions and classes, and the names of fields -/
structure G where
  K : PySem.W.Frag
  fn : Nat → Option Addr
  cls : Nat → Option Addr
  nm : Nat → Str
  okF : Nat → Bool
  inj : ∀ i j, okF i = true → okF j = true → nm i = nm j → i = j

section
variable (g : G) (μ α : List Addr) (H : Hp)
def LstAt (a : Addr) (xs : List V) : Prop := H a = some (.lst xs) ∧ a ∉ α
def ScrAt (a : Addr) (xs : List V) : Prop :=
  (Rd H a (.lst xs) ∧ a ∉ α) ∨
    ∃ (o : Obj) (its : Array Value) (n : Nat), g.K.lookup a = some o ∧ o.cls = .type "list" ∧ o.dict = none ∧ o.data = .seq its n ∧ its.size ≤ sizeLine ∧ Vals xs its.toList
def TupAt (a : Addr) (xs : List V) : Prop :=
  (Rd H a (.tup xs) ∧ a ∉ α) ∨
    ∃ (o : Obj) (its : Array Value) (n : Nat), g.K.lookup a = some o ∧ o.cls = .type "tuple" ∧ o.data = .seq its n ∧ its.size ≤ sizeLine ∧ Vals xs its.toList

mutual
/-- v is d: numbers of the store by μ; what does not change is not in α -/
inductive RV : D → V → Prop
  | non : RV .non .non
  | bl (b : Bool) : RV (.bl b) (.bl b)
  | int (i : Int) : RV (.int i) (.int i)
  | str (x : Str) : RV (.str x) (.str x)
  | tup {ds : List D} {a : Addr} {xs : List V} : TupAt g α H a xs → RVs ds xs → RV (.tup ds) (.ref a)
  | lst {ds : List D} {a : Addr} {xs : List V} : LstAt α H a xs → RVs ds xs → RV (.lst ds) (.ref a)
  | scr {ds : List D} {a : Addr} {xs : List V} : ScrAt g α H a xs → RVs ds xs → RV (.scr ds) (.ref a)
  | ref {n : Nat} {a : Addr} : μ[n]? = some a → RV (.ref n) (.ref a)
  | fn {f : Nat} {a : Addr} : g.fn f = some a → RV (.fn f) (.ref a)
inductive RVs : List D → List V → Prop
  | nil : RVs [] []
  | cons {d : D} {v : V} {ds : List D} {vs : List V} : RV d v → RVs ds vs → RVs (d :: ds) (v :: vs)
end

/-- fields by their numbers, and by their names -/
def RF (fs : List (Nat × D)) (vs : List (Str × V)) : Prop := vs.map (·.1) = fs.map (fun p => g.nm p.1) ∧ (∀ p ∈ fs, g.okF p.1 = true) ∧ RVs g μ α H (fs.map (·.2)) (vs.map (·.2))

/-- keys and values of a dict -/
inductive RKs : List (Key × D) → List (Key × V) → Prop
  | nil : RKs [] []
  | cons {k : Key} {d : D} {v : V} {r : List (Key × D)} {r' : List (Key × V)} : RV g μ α H d v → RKs r r' → RKs ((k, d) :: r) ((k, v) :: r')
/-- what an object of the store is at its address -/
inductive RO : Ob → Addr → Prop
  | lst {ds : List D} {a : Addr} {xs : List V} : H a = some (.lst xs) → RVs g μ α H ds xs → RO (.lst ds) a
  | ins {c : Nat} {fs : List (Nat × D)} {a C dx : Addr} {vs : List (Str × V)} : g.cls c = some C → H a = some (.ins C dx vs) → RF g μ α H fs vs → RO (.ins c fs) a
  | dic {kvs : List (Key × D)} {a : Addr} {kvs2 : List (Key × V)} : H a = some (.dK kvs2) → RKs g μ α H kvs kvs2 → RO (.dic kvs) a

structure RS (st : Store) : Prop where
  len : st.length = μ.length
  nd : μ.Nodup
  ob : ∀ (n : Nat) (o : Ob) (a : Addr), st[n]? = some o → μ[n]? = some a → RO g μ α H o a
end

theorem LstAt.sq {g : G} {α H a xs} (h : LstAt α H a xs) : SqL g.K H a xs := .inl (.inl h.1)
theorem ScrAt.sq {g : G} {α H a xs} (h : ScrAt g α H a xs) : SqL g.K H a xs := h.elim (fun z => .inl z.1) .inr
theorem TupAt.sq {g : G} {α H a xs} (h : TupAt g α H a xs) : SqT g.K H a xs := h.elim (fun z => .inl z.1) .inr

/-- the heap goes on: what the store does not name is as it was; new names, and what is kept apart, are new -/
structure Step (μ : List Addr) (H : Hp) (μ' α' : List Addr) (H' : Hp) : Prop where
  pre : ∃ ν, μ' = μ ++ ν
  sub : ∀ p ∈ μ', p ∈ α'
  new : ∀ p ∈ α', p ∈ μ ∨ H p = none
  keep : ∀ p o, H p = some o → p ∉ μ → H' p = some o
  there : ∀ p o, H p = some o → H' p ≠ none

theorem Step.refl {μ H} : Step μ H μ μ H := ⟨⟨[], by simp⟩, fun _ h => h, fun _ h => .inl h, fun _ _ h _ => h, fun _ _ h => by rw [h]; simp⟩
theorem Step.trans {μ H μ1 α1 H1 μ2 α2 H2} (a : Step μ H μ1 α1 H1) (b : Step μ1 H1 μ2 α2 H2) : Step μ H μ2 α2 H2 := by
  obtain ⟨ν, e1⟩ := a.pre
  obtain ⟨ν', e2⟩ := b.pre
  have none_ : ∀ p, H1 p = none → H p = none := fun p h => by
    cases e : H p with
    | none => rfl
    | some o => exact absurd h (a.there p o e)
  have new1 : ∀ p ∈ μ1, p ∈ μ ∨ H p = none := fun p h => a.new p (a.sub p h)
  refine ⟨⟨ν ++ ν', by rw [e2, e1, List.append_assoc]⟩, b.sub, fun p hp => ?_, fun p o e hp => ?_, fun p o e => ?_⟩
  · rcases b.new p hp with h | h
    · exact new1 p h
    · exact .inr (none_ p h)
  · refine b.keep p o (a.keep p o e hp) fun hm => ?_
    rcases new1 p hm with h | h
    · exact hp h
    · rw [h] at e; cases e
  · cases e1 : H1 p with
    | none => exact absurd e1 (a.there p o e)
    | some o1 => exact b.there p o1 e1

section
variable {g : G} {μ μ' α α' : List Addr} {H H' : Hp}
theorem Step.notin (s : Step μ H μ' α' H') {a : Addr} {o : HO} (e : H a = some o) (h : a ∉ μ) : a ∉ α' := by
  intro hm
  rcases s.new a hm with h1 | h1
  · exact h h1
  · rw [h1] at e; cases e
theorem Step.rd (s : Step μ H μ' α' H') {a : Addr} {u : HO} (e : Rd H a u) (h : a ∉ μ) : Rd H' a u ∧ a ∉ α' := by
  rcases e with e | ⟨o, e⟩
  · exact ⟨.inl (s.keep _ _ e h), s.notin e h⟩
  · exact ⟨.inr ⟨o, s.keep _ _ e h⟩, s.notin e h⟩
theorem LstAt.step (s : Step μ H μ' α' H') {a xs} (h : LstAt μ H a xs) : LstAt α' H' a xs := ⟨s.keep _ _ h.1 h.2, s.notin h.1 h.2⟩
theorem ScrAt.step (s : Step μ H μ' α' H') {a xs} (h : ScrAt g μ H a xs) : ScrAt g α' H' a xs := h.elim (fun z => .inl (s.rd z.1 z.2)) .inr
theorem TupAt.step (s : Step μ H μ' α' H') {a xs} (h : TupAt g μ H a xs) : TupAt g α' H' a xs := h.elim (fun z => .inl (s.rd z.1 z.2)) .inr
theorem Step.at (s : Step μ H μ' α' H') {n : Nat} {a : Addr} (h : μ[n]? = some a) : μ'[n]? = some a := by
  obtain ⟨ν, rfl⟩ := s.pre
  obtain ⟨hl, _⟩ := List.getElem?_eq_some_iff.mp h
  rw [List.getElem?_append_left hl]; exact h
/-- another way to say what is the same -/
structure Imp (g : G) (μ α : List Addr) (H : Hp) (μ' α' : List Addr) (H' : Hp) : Prop where
  lst : ∀ a xs, LstAt α H a xs → LstAt α' H' a xs
  scr : ∀ a xs, ScrAt g α H a xs → ScrAt g α' H' a xs
  tup : ∀ a xs, TupAt g α H a xs → TupAt g α' H' a xs
  at_ : ∀ (n : Nat) (a : Addr), μ[n]? = some a → μ'[n]? = some a
mutual
theorem RV.imp (s : Imp g μ α H μ' α' H') : ∀ {d : D} {v : V}, RV g μ α H d v → RV g μ' α' H' d v
  | _, _, .non => .non
  | _, _, .bl b => .bl b
  | _, _, .int i => .int i
  | _, _, .str x => .str x
  | _, _, .tup h r => .tup (s.tup _ _ h) (RVs.imp s r)
  | _, _, .lst h r => .lst (s.lst _ _ h) (RVs.imp s r)
  | _, _, .scr h r => .scr (s.scr _ _ h) (RVs.imp s r)
  | _, _, .ref h => .ref (s.at_ _ _ h)
  | _, _, .fn h => .fn h
theorem RVs.imp (s : Imp g μ α H μ' α' H') : ∀ {ds : List D} {vs : List V}, RVs g μ α H ds vs → RVs g μ' α' H' ds vs
  | _, _, .nil => .nil
  | _, _, .cons h r => .cons (RV.imp s h) (RVs.imp s r)
end
theorem RKs.imp (s : Imp g μ α H μ' α' H') : ∀ {r : List (Key × D)} {r' : List (Key × V)}, RKs g μ α H r r' → RKs g μ' α' H' r r'
  | _, _, .nil => .nil
  | _, _, .cons h r => .cons (h.imp s) (RKs.imp s r)
theorem Step.imp (s : Step μ H μ' α' H') : Imp g μ μ H μ' α' H' := ⟨fun _ _ h => h.step s, fun _ _ h => h.step s, fun _ _ h => h.step s, fun _ _ h => s.at h⟩
theorem RV.step (s : Step μ H μ' α' H') {d : D} {v : V} (h : RV g μ μ H d v) : RV g μ' α' H' d v := h.imp s.imp
theorem RVs.step (s : Step μ H μ' α' H') {d : List D} {v : List V} (h : RVs g μ μ H d v) : RVs g μ' α' H' d v := h.imp s.imp
/-- fewer things kept apart -/
theorem Imp.less (h : ∀ p ∈ α', p ∈ α) : Imp g μ α H μ α' H :=
  ⟨fun _ _ z => ⟨z.1, fun m => z.2 (h _ m)⟩, fun _ _ z => z.elim (fun z => .inl ⟨z.1, fun m => z.2 (h _ m)⟩) .inr, fun _ _ z => z.elim (fun z => .inl ⟨z.1, fun m => z.2 (h _ m)⟩) .inr, fun _ _ z => z⟩
theorem RVs.length : ∀ {ds : List D} {vs : List V}, RVs g μ α H ds vs → ds.length = vs.length
  | _, _, .nil => rfl
  | _, _, .cons _ r => by simp [RVs.length r]
theorem RVs.append : ∀ {ds es : List D} {vs ws : List V}, RVs g μ α H ds vs → RVs g μ α H es ws → RVs g μ α H (ds ++ es) (vs ++ ws)
  | _, _, _, _, .nil, s => s
  | _, _, _, _, .cons h r, s => .cons h (RVs.append r s)
theorem RVs.get : ∀ {ds : List D} {vs : List V} {i : Nat} {d : D}, RVs g μ α H ds vs → ds[i]? = some d → ∃ v, vs[i]? = some v ∧ RV g μ α H d v
  | _, _, _, _, .nil, e => by simp at e
  | _, _, 0, _, .cons h _, e => by simp at e; subst e; exact ⟨_, rfl, h⟩
  | _, _, i + 1, _, .cons _ r, e => by
    obtain ⟨v, h1, h2⟩ := RVs.get (i := i) r (by simpa using e)
    exact ⟨v, by simpa using h1, h2⟩
theorem RVs.getV : ∀ {ds : List D} {vs : List V} {i : Nat} {v : V}, RVs g μ α H ds vs → vs[i]? = some v → ∃ d, ds[i]? = some d ∧ RV g μ α H d v
  | _, _, _, _, .nil, e => by simp at e
  | _, _, 0, _, .cons h _, e => by simp at e; subst e; exact ⟨_, rfl, h⟩
  | _, _, i + 1, _, .cons _ r, e => by
    obtain ⟨v, h1, h2⟩ := RVs.getV (i := i) r (by simpa using e)
    exact ⟨v, by simpa using h1, h2⟩
theorem RVs.take : ∀ {ds : List D} {vs : List V} (n : Nat), RVs g μ α H ds vs → RVs g μ α H (ds.take n) (vs.take n)
  | _, _, 0, _ => by simp; exact .nil
  | _, _, _ + 1, .nil => by simp; exact .nil
  | _, _, n + 1, .cons h r => by simp; exact .cons h (RVs.take n r)
theorem RVs.drop : ∀ {ds : List D} {vs : List V} (n : Nat), RVs g μ α H ds vs → RVs g μ α H (ds.drop n) (vs.drop n)
  | _, _, 0, r => by simpa using r
  | _, _, _ + 1, .nil => by simp; exact .nil
  | _, _, n + 1, .cons _ r => by simp; exact RVs.drop n r
theorem RVs.set {d : D} {v : V} (q : RV g μ α H d v) : ∀ {ds : List D} {vs : List V} (n : Nat), RVs g μ α H ds vs → RVs g μ α H (ds.set n d) (vs.set n v)
  | _, _, _, .nil => by simp; exact .nil
  | _, _, 0, .cons _ r => by simp; exact .cons q r
  | _, _, n + 1, .cons h r => by simp; exact .cons h (RVs.set q n r)
theorem RVs.reverse {ds : List D} {vs : List V} (h : RVs g μ α H ds vs) : RVs g μ α H ds.reverse vs.reverse := by
  induction ds generalizing vs with
  | nil => cases h; exact .nil
  | cons d ds ih =>
    cases h with
    | cons h1 h2 => simp; exact (ih h2).append (.cons h1 .nil)
theorem RVs.rep {ds : List D} {vs : List V} (h : RVs g μ α H ds vs) : ∀ k : Nat, RVs g μ α H (List.replicate k ds).flatten (List.replicate k vs).flatten
  | 0 => .nil
  | k + 1 => by simp only [List.replicate_succ, List.flatten_cons]; exact h.append (h.rep k)
theorem RF.imp {fs vs} (h : RF g μ α H fs vs) (s : Imp g μ α H μ' α' H') : RF g μ' α' H' fs vs := ⟨h.1, h.2.1, h.2.2.imp s⟩
end
end Fw

/-! ## Fw2 -/
set_option Elab.async false
set_option linter.all false
set_option maxRecDepth 100000
set_option maxHeartbeats 4000000
/-! The small language: what a def of the text says, without positions and names; and what it computes. -/
namespace Fw
open PySem L2

inductive B where
  | len | tuple_ | int_ | abs_ | sum_ | all_ | any_ | max1 | min1 | max2 | min2 | list_ | repr_ | str_ | sorted_ | bool_
  deriving DecidableEq
inductive BM where
  | append | bitlen
  deriving DecidableEq
inductive Ty where
  | int | bool | tuple | str
  deriving DecidableEq

inductive T where
  | nil | cons (h t : T) | no
  | var (i : Nat) | int (i : Int) | str (x : Str) | bl (b : Bool) | non
  | cst (k : Nat) | fnv (f : Nat) | efld (f : Nat) | eisi (c : Nat)
  | bin (o : Operator) (a b : T) | neg (a : T)
  | not (a : T) | and (a b : T) | or (a b : T)
  | cmp (o : CmpOp) (a b : T) | chain (o o' : CmpOp) (a b c : T)
  | ite (c a b : T)
  | tup (es : T) | lst (es : T)
  | call (f : Nat) (es : T) | callv (n : Nat) (f : T) (es : T)
  | new (c f : Nat) (es : T) | meth (c m f : Nat) (o es : T)
  | blt (b : B) (es : T) | isi (k : Ty) (e : T) | bm (m : BM) (o es : T)
  | idx (a i : T) | sl (a lo hi : T) | rev (a : T)
  | fld (f : Nat) (o : T)
  | lc (own : List Nat) (tg it cd el : T) | lcq (own : List Nat) (tg it cd el : T) | lc2 (own : List Nat) (tg it cd tg2 it2 cd2 el : T)
  | alloc (e : T) | dnew | dget (o k x : T) | dset (o k x : T) | lcL (own : List Nat) (tg : T) (i : Nat) (cd el : T)
  | itE (e : T) | itR1 (a : T) | itR2 (a b : T) | itR3 (a b c : T) | itZ (a b : T) | itN (a : T) | itEn (e : T) | sit (o : T)
  | tgN (i : Nat) | tgT (is : List Nat)
  | set (i : Nat) (e : T) | unp (is : List Nat) (e : T) | par (is : List Nat) (es : T)
  | unpF (f k : Nat) (o x e : T) | fset (f : Nat) (o e : T) | iset (o i e : T) | aug (o : Operator) (i : Nat) (e : T) | faug (o : Operator) (f : Nat) (x e : T) | dput (o k e : T) | iaug (o : Operator) (a i e : T) | forL (tg : T) (i : Nat) (body : T)
  | ex (e : T) | ret (e : T) | retN | if_ (c a b : T) | for_ (tg it body : T) | wh (c body : T) | pass | brk
  | rais (c : Nat) (es : T) | try_ (body hs : T) | hd (c : Nat) (i : Option Nat) (suite : T)
  | forget (is : List Nat)
  deriving DecidableEq

/-- a value, or a list that was just made -/
inductive W where
  | v (d : D) | fr (ds : List D)
def W.d : W → D
  | .v d => d
  | .fr ds => .lst ds
inductive Res (α : Type) where
  | ok (a : α) (st : Store) | exc (c : Nat) (fs : List (Nat × D)) (st : Store) | stuck
def Res.bind {α β : Type} : Res α → (α → Store → Res β) → Res β
  | .ok a st, k => k a st
  | .exc c fs st, _ => .exc c fs st
  | .stuck, _ => .stuck
@[simp] theorem bind_ok {α β : Type} (a : α) (st : Store) (k : α → Store → Res β) : (Res.ok a st).bind k = k a st := rfl
@[simp] theorem bind_exc {α β : Type} (c fs) (st : Store) (k : α → Store → Res β) : (Res.exc c fs st).bind k = .exc c fs st := rfl
@[simp] theorem bind_stuck {α β : Type} (k : α → Store → Res β) : (Res.stuck (α := α)).bind k = .stuck := rfl
@[simp] theorem W.d_v (d : D) : (W.v d).d = d := rfl
@[simp] theorem W.d_fr (ds : List D) : (W.fr ds).d = .lst ds := rfl

abbrev Lc := List (Option D)
inductive Out where
  | nx (ρ : Lc) (st : Store) | ret (w : W) (st : Store) | bk (ρ : Lc) (st : Store)
  | exc (c : Nat) (fs : List (Nat × D)) (ρ : Lc) (st : Store) | stuck

/-- what the text's defs compute; its constants; the exception that a suite holds -/
structure Dl where
  fns : Nat → List D → Store → Res W
  cst : Nat → D
  exf : Nat → List Nat          -- an exception class's fields
  sub : Nat → Nat → Bool        -- a class is another's subclass
  flds : Nat → List Nat         -- a class's attributes
  lv : Nat → Nat                -- how deep a def's calls go
  xn : Option (Nat × List (Nat × D)) := none

/-! ### operations -/
def seqL (st : Store) : D → Option (List D)
  | .lst ds => some ds
  | .ref n => match st[n]? with
    | some (.lst ds) => some ds
    | _ => none
  | _ => none
def seqD (st : Store) : D → Option (List D)
  | .tup ds => some ds
  | d => seqL st d

mutual
def toPy : D → PyData
  | .non => .none
  | .bl b => .bool b
  | .int i => .int i
  | .str x => .str x
  | .tup ds => .tuple (toPys ds)
  | .lst ds => .list (toPys ds)
  | .scr _ => .none
  | .ref _ => .none
  | .fn _ => .none
def toPys : List D → List PyData
  | [] => []
  | d :: ds => toPy d :: toPys ds
end
mutual
/-- data: nothing that may change, no function -/
def isData : D → Bool
  | .non | .bl _ | .int _ | .str _ => true
  | .tup ds | .lst ds => isDatas ds
  | .ref _ | .fn _ | .scr _ => false
def isDatas : List D → Bool
  | [] => true
  | d :: ds => isData d && isDatas ds
end
mutual
/-- numbers of the store below n alone -/
def below (n : Nat) : D → Bool
  | .non | .bl _ | .int _ | .str _ | .fn _ => true
  | .tup ds | .lst ds | .scr ds => belows n ds
  | .ref k => decide (k < n)
def belows (n : Nat) : List D → Bool
  | [] => true
  | d :: ds => below n d && belows n ds
end
def belowO (n : Nat) : Ob → Bool
  | .lst ds => belows n ds
  | .ins _ fs => belows n (fs.map (·.2))
  | .dic kvs => belows n (kvs.map (·.2))

abbrev big : Nat := 16777216
/-- dicts: keys are numbers and texts -/
def keyD : D → Option Key
  | .int i => some (.inl i)
  | .str x => some (.inr x)
  | _ => none
def valD (kvs : List (Key × D)) (k : Key) : Option D := (kvs.find? fun kv => decide (kv.1 = k)).map (·.2)
def putD (kvs : List (Key × D)) (k : Key) (d : D) : List (Key × D) := if (valD kvs k).isSome then kvs.map (fun kv => if kv.1 = k then (kv.1, d) else kv) else kvs ++ [(k, d)]
def dicD (st : Store) (d : D) : Option (Nat × List (Key × D)) := match d with
  | .ref n => match st[n]? with
    | some (.dic kvs) => some (n, kvs)
    | _ => none
  | _ => none
/-- data in order -/
def ltOk (x y : D) : Bool := isData x && isData y && PySem.W.alike (toPy x) (toPy y) && (match x with | .non => false | _ => true) && decide ((toPy x).depth ≤ 40)
noncomputable def ltD (x y : D) : Bool := PySem.W.dataLt (toPy x) (toPy y)
def inOk (x : D) (ds : List D) : Bool := isData x && isDatas ds && (toPy x).plain && PyData.plainAll (toPys ds) && decide ((toPy x).depth ≤ 40)
def sortOk (ds : List D) : Bool := isDatas ds && (ds.all fun a => ds.all fun b => PySem.W.alike (toPy a) (toPy b)) && ((ds.all fun d => match d with | .tup (_ :: _) => true | _ => false) || (ds.all fun d => match d with | .tup _ => false | .non => false | _ => true)) && ds.all (fun d => decide ((toPy d).depth ≤ 60)) && decide (ds.length ≤ big)
noncomputable def sortD (ds : List D) : List D := ds.mergeSort fun a b => !PySem.W.dataLt (toPy b) (toPy a)
def keyV : Key → D
  | .inl i => .int i
  | .inr x => .str x
def itemsD (kvs : List (Key × D)) : List D := kvs.map fun kv => .tup [keyV kv.1, kv.2]
def intK : List (Key × D) → Option (List Int)
  | [] => some []
  | (.inl i, _) :: r => (intK r).map (i :: ·)
  | _ => none
def sortI (ns : List Int) : List Int := ns.mergeSort fun a b => decide (a ≤ b)
def opDix (x y : D) (st : Store) : Res W := match dicD st x, keyD y with
  | some (_, kvs), some k => match valD kvs k with
    | some d => .ok (.v d) st
    | none => .stuck
  | _, _ => .stuck
def mulOk (i j : Int) : Bool := decide ((-(2 ^ 64) < i ∧ i < 2 ^ 64) ∨ (-(2 ^ 64) < j ∧ j < 2 ^ 64))
def opBin (o : Operator) (x y : D) (st : Store) : Res W :=
  match o, x, y with
  | .Add, .int i, .int j => .ok (.v (.int (i + j))) st
  | .Add, .tup a, .tup b => if a.length + b.length ≤ big then .ok (.v (.tup (a ++ b))) st else .stuck
  | .Add, .str a, .str b => if a.length + b.length ≤ big then .ok (.v (.str (a ++ b))) st else .stuck
  | .Add, a, b => match seqL st a, seqL st b with
    | some a, some b => if a.length + b.length ≤ big then .ok (.fr (a ++ b)) st else .stuck
    | _, _ => .stuck
  | .Sub, .int i, .int j => .ok (.v (.int (i - j))) st
  | .Mult, .int i, .int j => if mulOk i j then .ok (.v (.int (i * j))) st else .stuck
  | .Mult, .tup a, .int k => if k ≤ 1000000 ∧ -1000000 ≤ k ∧ a.length * k.toNat ≤ 1000000 then .ok (.v (.tup (List.replicate k.toNat a).flatten)) st else .stuck
  | .Mult, a, .int k => match seqL st a with
    | some a => if k ≤ 1000000 ∧ -1000000 ≤ k ∧ a.length * k.toNat ≤ 1000000 then .ok (.fr (List.replicate k.toNat a).flatten) st else .stuck
    | none => .stuck
  | .FloorDiv, .int i, .int j => if 0 < j ∧ j < 1073741824 then .ok (.v (.int (i / j))) st else .stuck
  | .Mod, .int i, .int j => if 0 < j then .ok (.v (.int (i % j))) st else .stuck
  | .Pow, .int i, .int j => if 0 ≤ j ∧ j ≤ 1000000 ∧ i.natAbs < 2 ^ 64 then .ok (.v (.int (i ^ j.toNat))) st else .stuck
  | .LShift, .int i, .int j => if 0 ≤ j ∧ (PySem.Builtin.Int.intBits i : Int) + j ≤ 2 ^ 27 then .ok (.v (.int (i * 2 ^ j.toNat))) st else .stuck
  | .RShift, .int i, .int j => if 0 ≤ j then .ok (.v (.int (i / 2 ^ j.toNat))) st else .stuck
  | .BitAnd, .int i, .int j => .ok (.v (.int (PySem.Builtin.bitAnd i j))) st
  | .BitOr, .int i, .int j => .ok (.v (.int (PySem.Builtin.bitOr i j))) st
  | .BitXor, .int i, .int j => .ok (.v (.int (PySem.Builtin.bitXor i j))) st
  | _, _, _ => .stuck
/-- name op= value -/
def opAug (o : Operator) (x y : D) (st : Store) : Res D :=
  match x, y with
  | .int i, .int j => if o = .Pow then .stuck else match opBin o (.int i) (.int j) st with
    | .ok w st' => .ok w.d st'
    | _ => .stuck
  | .ref n, b => match o, st[n]?, seqL st b with
    | .Add, some (.lst a), some b => if a.length + b.length ≤ big then .ok (.ref n) (st.set n (.lst (a ++ b))) else .stuck
    | _, _, _ => .stuck
  | _, _ => .stuck

def isFlat : D → Bool
  | .non | .bl _ | .int _ | .str _ => true
  | _ => false
def shapedD (d : D) : Bool := isData d && PySem.SeqAt.shaped (toPy d)
def eqD (x y : D) : Bool := PyData.eqv (toPy x) (toPy y)
/-- data for a look, lists of the store by what they hold -/
def look (st : Store) (d : D) : D := match d with
  | .ref n => match st[n]? with
    | some (.lst ds) => .lst ds
    | _ => d
  | d => d
noncomputable def opCmp (o : CmpOp) (x y : D) (st : Store) : Res D :=
  match o with
  | .Eq => if shapedD (look st x) && shapedD (look st y) then .ok (.bl (eqD (look st x) (look st y))) st else .stuck
  | .NotEq => if shapedD (look st x) && shapedD (look st y) then .ok (.bl (!eqD (look st x) (look st y))) st else .stuck
  | .Lt => match x, y with
    | .int i, .int j => .ok (.bl (decide (i < j))) st
    | _, _ => if ltOk x y then .ok (.bl (ltD x y)) st else .stuck
  | .LtE => match x, y with
    | .int i, .int j => .ok (.bl (decide (i ≤ j))) st
    | _, _ => if ltOk x y then .ok (.bl (!ltD y x)) st else .stuck
  | .Gt => match x, y with
    | .int i, .int j => .ok (.bl (decide (j < i))) st
    | _, _ => if ltOk x y then .ok (.bl (ltD y x)) st else .stuck
  | .GtE => match x, y with
    | .int i, .int j => .ok (.bl (decide (j ≤ i))) st
    | _, _ => if ltOk x y then .ok (.bl (!ltD x y)) st else .stuck
  | .Is => match y with
    | .non => match x with
      | .non => .ok (.bl true) st
      | _ => .ok (.bl false) st
    | _ => .stuck
  | .IsNot => match y with
    | .non => match x with
      | .non => .ok (.bl false) st
      | _ => .ok (.bl true) st
    | _ => .stuck
  | .In => match seqD st y with
    | some ds => if isFlat x && ds.all isFlat then .ok (.bl (ds.any fun d => eqD d x)) st else if inOk x ds then .ok (.bl (ds.any fun d => eqD d x)) st else .stuck
    | none => match dicD st y, keyD x with
      | some (_, kvs), some k => .ok (.bl ((valD kvs k).isSome)) st
      | _, _ => .stuck
  | .NotIn => match seqD st y with
    | some ds => if isFlat x && ds.all isFlat then .ok (.bl (!ds.any fun d => eqD d x)) st else if inOk x ds then .ok (.bl (!ds.any fun d => eqD d x)) st else .stuck
    | none => match dicD st y, keyD x with
      | some (_, kvs), some k => .ok (.bl (!(valD kvs k).isSome)) st
      | _, _ => .stuck
/-- the truth of a value -/
def truth (st : Store) : D → Option Bool
  | .non => some false
  | .bl b => some b
  | .int i => some (i != 0)
  | .str x => if x.length ≤ big then some (x.length != 0) else none
  | d => (seqD st d).map fun ds => !ds.isEmpty

def sIxN (n d : Nat) (o : Option Int) : Nat := match o with
  | none => d
  | some i => if i < 0 then (i + n).toNat else min i.toNat n
def cut (ds : List D) (lo hi : Option Int) : List D := (ds.drop (sIxN ds.length 0 lo)).take (sIxN ds.length ds.length hi - sIxN ds.length 0 lo)
def atD (ds : List D) (i : Int) : Option D := if 0 ≤ i then ds[i.toNat]? else if -(ds.length : Int) ≤ i then ds[(i + ds.length).toNat]? else none

def intsD : List D → Option (List Int)
  | [] => some []
  | .int i :: ds => (intsD ds).map (i :: ·)
  | _ => none
def blsD : List D → Option (List Bool)
  | [] => some []
  | .bl b :: ds => (blsD ds).map (b :: ·)
  | .int i :: ds => (blsD ds).map ((i != 0) :: ·)
  | _ => none
def maxL : List Int → Int
  | [] => 0
  | [i] => i
  | i :: j :: r => max i (maxL (j :: r))
def minL : List Int → Int
  | [] => 0
  | [i] => i
  | i :: j :: r => min i (minL (j :: r))

noncomputable def opB (b : B) (xs : List D) (st : Store) : Res W :=
  match b, xs with
  | .len, [.str x] => if x.length ≤ big then .ok (.v (.int x.length)) st else .stuck
  | .len, [x] => match seqD st x with
    | some ds => .ok (.v (.int ds.length)) st
    | none => match dicD st x with
      | some (_, kvs) => .ok (.v (.int kvs.length)) st
      | none => .stuck
  | .tuple_, [x] => match seqD st x with
    | some ds => .ok (.v (.tup ds)) st
    | none => .stuck
  | .list_, [x] => match seqD st x with
    | some ds => .ok (.fr ds) st
    | none => .stuck
  | .int_, [.int i] => .ok (.v (.int i)) st
  | .int_, [.bl k] => .ok (.v (.int (if k then 1 else 0))) st
  | .bool_, [.int i] => .ok (.v (.bl (i != 0))) st
  | .bool_, [.bl k] => .ok (.v (.bl k)) st
  | .abs_, [.int i] => .ok (.v (.int (if i < 0 then -i else i))) st
  | .max2, [.int i, .int j] => .ok (.v (.int (if j > i then j else i))) st
  | .min2, [.int i, .int j] => .ok (.v (.int (if j < i then j else i))) st
  | .sum_, [x] => match (seqD st x).bind intsD with
    | some ns => .ok (.v (.int ns.sum)) st
    | none => .stuck
  | .max1, [x] => match (seqL st x).bind intsD with
    | some ns => if 0 < ns.length then .ok (.v (.int (maxL ns))) st else .stuck
    | none => .stuck
  | .min1, [x] => match (seqL st x).bind intsD with
    | some ns => if 0 < ns.length then .ok (.v (.int (minL ns))) st else .stuck
    | none => .stuck
  | .all_, [x] => match (seqL st x).bind blsD with
    | some bs => .ok (.v (.bl (bs.all id))) st
    | none => .stuck
  | .any_, [x] => match (seqL st x).bind blsD with
    | some bs => .ok (.v (.bl (bs.any id))) st
    | none => .stuck
  | .repr_, [x] => if isData x && PyData.showable (toPy x) && decide ((PyData.shown (toPy x)).length ≤ big) && decide ((toPy x).depth ≤ 64) then .ok (.v (.str (PyData.shown (toPy x)))) st else .stuck
  | .sorted_, [x] => match dicD st x with
    | some (_, kvs) => match intK kvs with
      | some ns => if ns.length < 64 then .ok (.fr ((sortI ns).map .int)) st else .stuck
      | none => .stuck
    | none => match seqL st x with
      | some ds => if sortOk ds then .ok (.fr (sortD ds)) st else .stuck
      | none => .stuck
  | _, _ => .stuck

/-- sorted(d.items()) -/
noncomputable def opSit (x : D) (st : Store) : Res W := match dicD st x with
  | some (_, kvs) => if sortOk (itemsD kvs) then .ok (.fr (sortD (itemsD kvs))) st else .stuck
  | none => .stuck
def isTy (k : Ty) (d : D) : Option Bool := match k, d with
  | _, .fn _ => none
  | _, .ref _ => none
  | _, .scr _ => none
  | .int, .int _ => some true
  | .int, .bl _ => some true
  | .bool, .bl _ => some true
  | .tuple, .tup _ => some true
  | .str, .str _ => some true
  | _, _ => some false

def bmOk (m : BM) (o : D) (st : Store) : Bool := match m, o with
  | .append, .ref n => match st[n]? with
    | some (.lst _) => true
    | _ => false
  | .bitlen, .int _ => true
  | _, _ => false
def opBM (m : BM) (o : D) (xs : List D) (st : Store) : Res W :=
  match m, o, xs with
  | .append, .ref n, [x] => match st[n]? with
    | some (.lst ds) => if ds.length < big then .ok (.v .non) (st.set n (.lst (ds ++ [x]))) else .stuck
    | _ => .stuck
  | .bitlen, .int i, [] => .ok (.v (.int (PySem.Builtin.Int.intBits i : Nat))) st
  | _, _, _ => .stuck

def opIx (x y : D) (st : Store) : Res W :=
  match y with
  | .int i => match seqD st x with
    | some ds => match atD ds i with
      | some d => .ok (.v d) st
      | none => .stuck
    | none => opDix x y st
  | _ => opDix x y st
def opSl (x : D) (lo hi : Option Int) (st : Store) : Res W :=
  match x with
  | .tup ds => .ok (.v (.tup (cut ds lo hi))) st
  | .scr ds => .ok (.fr (cut ds lo hi)) st
  | x => match seqL st x with
    | some ds => .ok (.fr (cut ds lo hi)) st
    | none => .stuck
def opRev (x : D) (st : Store) : Res W := match x with
  | .tup ds => .ok (.v (.tup ds.reverse)) st
  | x => match seqL st x with
    | some ds => .ok (.fr ds.reverse) st
    | none => .stuck
def opSet (o i x : D) (st : Store) : Res Unit :=
  match o, i with
  | .ref n, .int k => match st[n]? with
    | some (.lst ds) => if 0 ≤ k then (if k < ds.length then .ok () (st.set n (.lst (ds.set k.toNat x))) else .stuck)
        else if -(ds.length : Int) ≤ k then .ok () (st.set n (.lst (ds.set (k + ds.length).toNat x))) else .stuck
    | _ => .stuck
  | _, _ => .stuck
def opDget (x y z : D) (st : Store) : Res W := match dicD st x, keyD y with
  | some (_, kvs), some k => match valD kvs k with
    | some d => .ok (.v d) st
    | none => .ok (.v z) st
  | _, _ => .stuck
def opDset (x y z : D) (st : Store) : Res W := match dicD st x, keyD y with
  | some (n, kvs), some k => if kvs.length < big then match valD kvs k with
    | some d => .ok (.v d) st
    | none => .ok (.v z) (st.set n (.dic (putD kvs k z)))
    else .stuck
  | _, _ => .stuck
def opDput (x y z : D) (st : Store) : Res Unit := match dicD st x, keyD y with
  | some (n, kvs), some k => if kvs.length < big then .ok () (st.set n (.dic (putD kvs k z))) else .stuck
  | _, _ => .stuck
/-- a place of a list of the store -/
def opAt (x y : D) (st : Store) : Res D := match x, y with
  | .ref n, .int i => match st[n]? with
    | some (.lst ds) => if 0 ≤ i ∧ i < 2 ^ 62 then match ds[i.toNat]? with
      | some d => .ok d st
      | none => .stuck
      else .stuck
    | _ => .stuck
  | _, _ => .stuck
def putN (f : Nat) (x : D) : List (Nat × D) → List (Nat × D)
  | [] => [(f, x)]
  | (g, y) :: r => if g = f then (f, x) :: r else (g, y) :: putN f x r
def getF (fl : Nat → List Nat) (st : Store) (o : D) (f : Nat) : Option D := match o with
  | .ref n => match st[n]? with
    | some (.ins c fs) => if (fl c).contains f then fs.lookup f else none
    | _ => none
  | _ => none
def clsId (st : Store) (o : D) : Option Nat := match o with
  | .ref n => match st[n]? with
    | some (.ins c _) => some c
    | _ => none
  | _ => none
def setF (fl : Nat → List Nat) (o : D) (f : Nat) (x : D) (st : Store) : Res Unit := match o with
  | .ref n => match st[n]? with
    | some (.ins c fs) => if (fl c).contains f && decide (fs.length < 900) then .ok () (st.set n (.ins c (putN f x fs))) else .stuck
    | _ => .stuck
  | _ => .stuck

/-- the two items of a tuple -/
def pairF (d : D) (k : D → D → Res Unit) : Res Unit := match d with
  | .tup [a, b] => k a b
  | _ => .stuck
/-! ### names -/
def Lc.get (ρ : Lc) (i : Nat) : Option D := match ρ[i]? with
  | some (some d) => some d
  | _ => none
def Lc.put (ρ : Lc) (i : Nat) (d : D) : Lc := ρ.set i (some d)
def Lc.puts : Lc → List Nat → List D → Lc
  | ρ, i :: is, d :: ds => Lc.puts (ρ.set i (some d)) is ds
  | ρ, _, _ => ρ
def Lc.wipe (ρ : Lc) : List Nat → Lc
  | [] => ρ
  | i :: is => (Lc.wipe ρ is).set i none
/-- the target of a loop takes an item -/
def tgt (t : T) (d : D) (ρ : Lc) : Option Lc := match t with
  | .tgN i => some (ρ.put i d)
  | .tgT is => match d with
    | .tup ds => if ds.length = is.length then some (ρ.puts is ds) else none
    | _ => none
  | _ => none

/-- zip -/
def zipD : List D → List D → List D
  | a :: as, b :: bs => .tup [a, b] :: zipD as bs
  | _, _ => []
def opZip (x y : D) (st : Store) : Res (List D) := match x, y with
  | .tup a, .tup b => .ok (zipD a b) st
  | .lst a, .lst b => .ok (zipD a b) st
  | _, _ => .stuck
/-! ### loops -/
def rng (lo : Int) : Nat → List D
  | 0 => []
  | n + 1 => .int lo :: rng (lo + 1) n
def rngC (lo c : Int) : Nat → List D
  | 0 => []
  | n + 1 => .int lo :: rngC (lo + c) c n
def turns (lo hi c : Int) : Nat := (PySem.Builtin.Range.rangeSize lo hi c).toNat
def enumD : Int → List D → List D
  | _, [] => []
  | k, d :: ds => .tup [.int k, d] :: enumD (k + 1) ds
def forM (step : D → Lc → Store → Out) : List D → Lc → Store → Out
  | [], ρ, st => .nx ρ st
  | d :: ds, ρ, st => match step d ρ st with
    | .nx ρ' st' => forM step ds ρ' st'
    | .bk ρ' st' => .nx ρ' st'
    | o => o
def whN (c : Lc → Store → Res Bool) (b : Lc → Store → Out) : Nat → Lc → Store → Option Out
  | 0, _, _ => none
  | n + 1, ρ, st => match c ρ st with
    | .stuck => none
    | .exc k fs st' => some (.exc k fs ρ st')
    | .ok false st' => some (.nx ρ st')
    | .ok true st' => match b ρ st' with
      | .nx ρ' st'' => whN c b n ρ' st''
      | .bk ρ' st'' => some (.nx ρ' st'')
      | .stuck => none
      | o => some o
open Classical in
noncomputable def whl (c : Lc → Store → Res Bool) (b : Lc → Store → Out) (ρ : Lc) (st : Store) : Out :=
  if h : ∃ o n, whN c b n ρ st = some o then Classical.choose h else .stuck
theorem whN_mono (c b) : ∀ {n m : Nat} {ρ st o}, whN c b n ρ st = some o → n ≤ m → whN c b m ρ st = some o
  | 0, _, _, _, _, h, _ => by simp [whN] at h
  | n + 1, 0, _, _, _, _, h => absurd h (by omega)
  | n + 1, m + 1, ρ, st, o, h, hm => by
    unfold whN at h ⊢
    cases e : c ρ st with
    | stuck => rw [e] at h; exact h
    | exc k fs st' => rw [e] at h; exact h
    | ok k st' =>
      rw [e] at h
      cases k with
      | false => exact h
      | true =>
        dsimp only at h ⊢
        cases e2 : b ρ st' with
        | nx ρ' st'' => rw [e2] at h; exact whN_mono c b h (by omega)
        | bk ρ' st'' => rw [e2] at h; exact h
        | ret w st'' => rw [e2] at h; exact h
        | exc k fs ρ' st'' => rw [e2] at h; exact h
        | stuck => rw [e2] at h; exact h
theorem whl_eq {c b} {ρ st o} {n : Nat} (h : whN c b n ρ st = some o) : whl c b ρ st = o := by
  have ex : ∃ o n, whN c b n ρ st = some o := ⟨o, n, h⟩
  unfold whl
  rw [dif_pos ex]
  obtain ⟨m, hm⟩ := Classical.choose_spec ex
  have h1 := whN_mono c b h (Nat.le_max_left n m)
  have h2 := whN_mono c b hm (Nat.le_max_right n m)
  rw [h1] at h2
  exact (Option.some.inj h2).symm
theorem whl_some {c b} {ρ st} (h : whl c b ρ st ≠ .stuck) : ∃ n, whN c b n ρ st = some (whl c b ρ st) := by
  unfold whl at h ⊢
  by_cases ex : ∃ o n, whN c b n ρ st = some o
  · rw [dif_pos ex]
    obtain ⟨m, hm⟩ := Classical.choose_spec ex
    exact ⟨m, hm⟩
  · rw [dif_neg ex] at h; exact absurd rfl h
/-- one turn more -/
theorem whl_unfold (c b) (ρ st) : whl c b ρ st = (match c ρ st with
    | .stuck => .stuck
    | .exc k fs st' => .exc k fs ρ st'
    | .ok false st' => .nx ρ st'
    | .ok true st' => match b ρ st' with
      | .nx ρ' st'' => whl c b ρ' st''
      | .bk ρ' st'' => .nx ρ' st''
      | o => o) := by
  cases e : c ρ st with
  | stuck =>
    by_cases h : whl c b ρ st = .stuck
    · exact h
    · obtain ⟨n, hn⟩ := whl_some h
      cases n with
      | zero => simp [whN] at hn
      | succ n => unfold whN at hn; rw [e] at hn; cases hn
  | exc k fs st' => exact whl_eq (n := 1) (by unfold whN; rw [e])
  | ok k st' =>
    cases k with
    | false => exact whl_eq (n := 1) (by unfold whN; rw [e])
    | true =>
      dsimp only
      cases e2 : b ρ st' with
      | bk ρ' st'' => exact whl_eq (n := 1) (by unfold whN; rw [e]; dsimp only; rw [e2])
      | ret w st'' => exact whl_eq (n := 1) (by unfold whN; rw [e]; dsimp only; rw [e2])
      | exc k fs ρ' st'' => exact whl_eq (n := 1) (by unfold whN; rw [e]; dsimp only; rw [e2])
      | stuck =>
        by_cases h : whl c b ρ st = .stuck
        · exact h
        · obtain ⟨n, hn⟩ := whl_some h
          cases n with
          | zero => simp [whN] at hn
          | succ n => unfold whN at hn; rw [e] at hn; dsimp only at hn; rw [e2] at hn; cases hn
      | nx ρ' st'' =>
        dsimp only
        by_cases h : whl c b ρ' st'' = .stuck
        · rw [h]
          by_cases h' : whl c b ρ st = .stuck
          · exact h'
          · obtain ⟨n, hn⟩ := whl_some h'
            cases n with
            | zero => simp [whN] at hn
            | succ n =>
              have hn0 := hn
              unfold whN at hn; rw [e] at hn; dsimp only at hn; rw [e2] at hn
              dsimp only at hn
              have := whl_eq hn
              rw [h] at this
              exact this.symm
        · obtain ⟨n, hn⟩ := whl_some h
          exact whl_eq (n := n + 1) (by unfold whN; rw [e]; dsimp only; rw [e2]; dsimp only; exact hn)

/-- a walk of a list that the store holds: it stays as it is -/
def listAt (d : Option D) (st : Store) : Option (Nat × List D) := match d with
  | some (.ref n) => match st[n]? with
    | some (.lst ds) => some (n, ds)
    | _ => none
  | _ => none
open Classical in
noncomputable def gdL (n : Nat) (ds : List D) (st : Store) : Bool := decide (st[n]? = some (.lst ds))
def forG (gd : Store → Bool) (step : D → Lc → Store → Out) : List D → Lc → Store → Out
  | [], ρ, st => if gd st then .nx ρ st else .stuck
  | d :: ds, ρ, st => if gd st then match step d ρ st with
    | .nx ρ' st' => forG gd step ds ρ' st'
    | .bk ρ' st' => .nx ρ' st'
    | o => o
    else .stuck
def lcG (gd : Store → Bool) (step : D → Store → Res (Option D)) : List D → Store → Res (List D)
  | [], st => if gd st then .ok [] st else .stuck
  | d :: ds, st => if gd st then (step d st).bind fun r st => (lcG gd step ds st).bind fun rs st => match r with
    | some x => .ok (x :: rs) st
    | none => .ok rs st
    else .stuck
/-! ### what a term computes -/
def toB : Res D → Res Bool
  | .ok (.bl b) st => .ok b st
  | .ok _ _ => .stuck
  | .exc c fs st => .exc c fs st
  | .stuck => .stuck
noncomputable def cmpB (o : CmpOp) (x y : D) (st : Store) : Res Bool := toB (opCmp o x y st)
/-- the items that pass, each made into one -/
def lcM (step : D → Store → Res (Option D)) : List D → Store → Res (List D)
  | [], st => .ok [] st
  | d :: ds, st => (step d st).bind fun r st => (lcM step ds st).bind fun rs st => match r with
    | some x => .ok (x :: rs) st
    | none => .ok rs st
/-- nothing is raised -/
def noX {α : Type} : Res α → Res α
  | .ok a st => .ok a st
  | _ => .stuck
/-- behind an except suite: the name is gone; nothing is raised there -/
def outN (i : Option Nat) : Out → Out
  | .nx ρ st => .nx (ρ.wipe i.toList) st
  | .bk ρ st => .bk (ρ.wipe i.toList) st
  | .ret w st => .ret w st
  | .exc _ _ _ _ => .stuck
  | .stuck => .stuck
noncomputable section
mutual
def evE (Δ : Dl) : T → Lc → Store → Res W
  | .var i, ρ, st => match ρ.get i with
    | some d => .ok (.v d) st
    | none => .stuck
  | .int i, _, st => .ok (.v (.int i)) st
  | .str x, _, st => .ok (.v (.str x)) st
  | .bl b, _, st => .ok (.v (.bl b)) st
  | .non, _, st => .ok (.v .non) st
  | .cst k, _, st => .ok (.v (Δ.cst k)) st
  | .fnv f, _, st => .ok (.v (.fn f)) st
  | .efld f, _, st => match Δ.xn with
    | some (c, fs) => if (Δ.exf c).contains f then match fs.lookup f with
      | some d => .ok (.v d) st
      | none => .stuck
      else .stuck
    | none => .stuck
  | .eisi c, _, st => match Δ.xn with
    | some (c', _) => if (Δ.exf c').isEmpty then .stuck else .ok (.v (.bl (Δ.sub c' c))) st
    | none => .stuck
  | .bin o a b, ρ, st => (evE Δ a ρ st).bind fun x st => (evE Δ b ρ st).bind fun y st => opBin o x.d y.d st
  | .neg a, ρ, st => (evE Δ a ρ st).bind fun x st => match x.d with
    | .int i => .ok (.v (.int (-i))) st
    | _ => .stuck
  | .not a, ρ, st => (evE Δ a ρ st).bind fun w st => match truth st w.d with
    | some k => .ok (.v (.bl (!k))) st
    | none => .stuck
  | .and a b, ρ, st => (evE Δ a ρ st).bind fun w st => match truth st w.d with
    | some k => if k then evE Δ b ρ st else .ok (.v w.d) st
    | none => .stuck
  | .or a b, ρ, st => (evE Δ a ρ st).bind fun w st => match truth st w.d with
    | some k => if k then .ok (.v w.d) st else evE Δ b ρ st
    | none => .stuck
  | .cmp o a b, ρ, st => (evE Δ a ρ st).bind fun x st => (evE Δ b ρ st).bind fun y st => (opCmp o x.d y.d st).bind fun d st => .ok (.v d) st
  | .chain o o' a b c, ρ, st => (evE Δ a ρ st).bind fun x st => (evE Δ b ρ st).bind fun y st => (cmpB o x.d y.d st).bind fun k st =>
      if k then (evE Δ c ρ st).bind fun z st => (cmpB o' y.d z.d st).bind fun k st => .ok (.v (.bl k)) st else .ok (.v (.bl false)) st
  | .ite c a b, ρ, st => (evT Δ c ρ st).bind fun k st => if k then evE Δ a ρ st else evE Δ b ρ st
  | .tup es, ρ, st => (evEs Δ es ρ st).bind fun ds st => if ds.length ≤ big then .ok (.v (.tup ds)) st else .stuck
  | .lst es, ρ, st => (evEs Δ es ρ st).bind fun ds st => if ds.length ≤ big then .ok (.fr ds) st else .stuck
  | .call f es, ρ, st => (evEs Δ es ρ st).bind fun ds st => Δ.fns f ds st
  | .callv n f es, ρ, st => (evE Δ f ρ st).bind fun x st => match x.d with
    | .fn f => if Δ.lv f < n then (evEs Δ es ρ st).bind fun ds st => Δ.fns f ds st else .stuck
    | _ => .stuck
  | .rev a, ρ, st => (evE Δ a ρ st).bind fun x st => opRev x.d st
  | .new c f es, ρ, st => (evEs Δ es ρ st).bind fun ds st => (Δ.fns f (.ref st.length :: ds) (st ++ [.ins c []])).bind fun w st' => match w with
    | .v .non => .ok (.v (.ref st.length)) st'
    | _ => .stuck
  | .meth c m f o es, ρ, st => (evE Δ o ρ st).bind fun x st => match x.d with
    | .ref n => match st[n]? with
      | some (.ins c' fs) => if c' = c ∧ fs.lookup m = none then (evEs Δ es ρ st).bind fun ds st => Δ.fns f (.ref n :: ds) st else .stuck
      | _ => .stuck
    | _ => .stuck
  | .blt b es, ρ, st => (evEs Δ es ρ st).bind fun ds st => opB b ds st
  | .isi k e, ρ, st => (evE Δ e ρ st).bind fun x st => match isTy k x.d with
    | some b => .ok (.v (.bl b)) st
    | none => .stuck
  | .bm m o es, ρ, st => (evE Δ o ρ st).bind fun x st => if bmOk m x.d st then (evEs Δ es ρ st).bind fun ds st => opBM m x.d ds st else .stuck
  | .idx a i, ρ, st => (evE Δ a ρ st).bind fun x st => (evE Δ i ρ st).bind fun y st => opIx x.d y.d st
  | .sl a lo hi, ρ, st => (evE Δ a ρ st).bind fun x st => (evP Δ lo ρ st).bind fun l st => (evP Δ hi ρ st).bind fun h st => opSl x.d l h st
  | .fld f o, ρ, st => (evE Δ o ρ st).bind fun x st => match getF Δ.flds st x.d f with
    | some d => .ok (.v d) st
    | none => .stuck
  | .lc own tg it cd el, ρ, st => (evI Δ it ρ st).bind fun ds st => if ds.length ≤ big then (lcM (fun d st => match tgt tg d (ρ.wipe own) with
      | none => .stuck
      | some ρ' => (evT Δ cd ρ' st).bind fun k st => if k then (evE Δ el ρ' st).bind fun w st => .ok (some w.d) st else .ok none st) ds st).bind fun ds st => .ok (.fr ds) st else .stuck
  | .lcq own tg it cd el, ρ, st => (evI Δ it ρ st).bind fun ds st => if ds.length ≤ big then (lcM (fun d st => match tgt tg d (ρ.wipe own) with
      | none => .stuck
      | some ρ' => noX ((evT Δ cd ρ' st).bind fun k st => if k then (evE Δ el ρ' st).bind fun w st => .ok (some w.d) st else .ok none st)) ds st).bind fun ds st => .ok (.fr ds) st else .stuck
  | .alloc e, ρ, st => (evE Δ e ρ st).bind fun w st => match w with
    | .fr ds => .ok (.v (.ref st.length)) (st ++ [.lst ds])
    | _ => .stuck
  | .dnew, _, st => .ok (.v (.ref st.length)) (st ++ [.dic []])
  | .dget o k x, ρ, st => (evE Δ o ρ st).bind fun a st => if (dicD st a.d).isSome then (evE Δ k ρ st).bind fun y st => (evE Δ x ρ st).bind fun z st => opDget a.d y.d z.d st else .stuck
  | .dset o k x, ρ, st => (evE Δ o ρ st).bind fun a st => if (dicD st a.d).isSome then (evE Δ k ρ st).bind fun y st => (evE Δ x ρ st).bind fun z st => opDset a.d y.d z.d st else .stuck
  | .lcL own tg i cd el, ρ, st => match listAt (ρ.get i) st with
    | some (n, ds) => if ds.length ≤ big then (lcG (gdL n ds) (fun d st => match tgt tg d (ρ.wipe own) with
      | none => .stuck
      | some ρ' => noX ((evT Δ cd ρ' st).bind fun k st => if k then (evE Δ el ρ' st).bind fun w st => .ok (some w.d) st else .ok none st)) ds st).bind fun ds st => .ok (.fr ds) st else .stuck
    | none => .stuck
  | .sit a, ρ, st => (evE Δ a ρ st).bind fun x st => opSit x.d st
  | .itN a, ρ, st => (evI Δ a ρ st).bind fun ds st => if ds.length ≤ big then .ok (.v (.tup ds)) st else .stuck
  | _, _, _ => .stuck
def evEs (Δ : Dl) : T → Lc → Store → Res (List D)
  | .nil, _, st => .ok [] st
  | .cons h t, ρ, st => (evE Δ h ρ st).bind fun w st => (evEs Δ t ρ st).bind fun ds st => .ok (w.d :: ds) st
  | _, _, _ => .stuck
/-- a test -/
def evT (Δ : Dl) : T → Lc → Store → Res Bool
  | .bl b, _, st => .ok b st
  | .not a, ρ, st => (evT Δ a ρ st).bind fun b st => .ok (!b) st
  | .and a b, ρ, st => (evT Δ a ρ st).bind fun k st => if k then evT Δ b ρ st else .ok false st
  | .or a b, ρ, st => (evT Δ a ρ st).bind fun k st => if k then .ok true st else evT Δ b ρ st
  | .cmp o a b, ρ, st => (evE Δ a ρ st).bind fun x st => (evE Δ b ρ st).bind fun y st => cmpB o x.d y.d st
  | .chain o o' a b c, ρ, st => (evE Δ a ρ st).bind fun x st => (evE Δ b ρ st).bind fun y st => (cmpB o x.d y.d st).bind fun k st =>
      if k then (evE Δ c ρ st).bind fun z st => cmpB o' y.d z.d st else .ok false st
  | e, ρ, st => (evE Δ e ρ st).bind fun w st => match truth st w.d with
    | some b => .ok b st
    | none => .stuck
/-- a part of a slice -/
def evP (Δ : Dl) : T → Lc → Store → Res (Option Int)
  | .no, _, st => .ok none st
  | e, ρ, st => (evE Δ e ρ st).bind fun w st => match w.d with
    | .int i => .ok (some i) st
    | _ => .stuck
/-- what is walked -/
def evI (Δ : Dl) : T → Lc → Store → Res (List D)
  | .itE e, ρ, st => (evE Δ e ρ st).bind fun w st => match w.d with
    | .tup ds => .ok ds st
    | .lst ds => .ok ds st
    | _ => .stuck
  | .itZ a b, ρ, st => (evE Δ a ρ st).bind fun x st => (evE Δ b ρ st).bind fun y st => opZip x.d y.d st
  | .itEn e, ρ, st => (evE Δ e ρ st).bind fun w st => match w.d with
    | .tup ds => .ok (enumD 0 ds) st
    | .lst ds => .ok (enumD 0 ds) st
    | _ => .stuck
  | .itR1 a, ρ, st => (evE Δ a ρ st).bind fun w st => match w.d with
    | .int n => if -(2 ^ 62) ≤ n ∧ n < 2 ^ 62 then .ok (rng 0 n.toNat) st else .stuck
    | _ => .stuck
  | .itR2 a b, ρ, st => (evE Δ a ρ st).bind fun x st => (evE Δ b ρ st).bind fun y st => match x.d, y.d with
    | .int i, .int j => if -(2 ^ 62) ≤ i ∧ i < 2 ^ 62 ∧ -(2 ^ 62) ≤ j ∧ j < 2 ^ 62 then .ok (rng i (j - i).toNat) st else .stuck
    | _, _ => .stuck
  | .itR3 a b c, ρ, st => (evE Δ a ρ st).bind fun x st => (evE Δ b ρ st).bind fun y st => (evE Δ c ρ st).bind fun z st => match x.d, y.d, z.d with
    | .int i, .int j, .int c => if -(2 ^ 40) ≤ i ∧ i < 2 ^ 40 ∧ -(2 ^ 40) ≤ j ∧ j < 2 ^ 40 ∧ c ≠ 0 ∧ -1000000 ≤ c ∧ c ≤ 1000000 then .ok (rngC i c (turns i j c)) st else .stuck
    | _, _, _ => .stuck
  | _, _, _ => .stuck
end
mutual
def exS (Δ : Dl) : T → Lc → Store → Out
  | .set i e, ρ, st => match evE Δ e ρ st with
    | .ok w st => .nx (ρ.put i w.d) st
    | .exc c fs st => .exc c fs ρ st
    | .stuck => .stuck
  | .unp is e, ρ, st => match evE Δ e ρ st with
    | .ok w st => match tgt (.tgT is) w.d ρ with
      | some ρ => .nx ρ st
      | none => .stuck
    | .exc c fs st => .exc c fs ρ st
    | .stuck => .stuck
  | .par is es, ρ, st => match evEs Δ es ρ st with
    | .ok ds st => if ds.length = is.length then .nx (ρ.puts is ds) st else .stuck
    | .exc c fs st => .exc c fs ρ st
    | .stuck => .stuck
  | .unpF f k o x e, ρ, st => match (evE Δ e ρ st).bind fun w st => pairF w.d fun d d2 => (evE Δ o ρ st).bind fun u st => (setF Δ.flds u.d f d st).bind fun _ st => (evE Δ x ρ st).bind fun u st => setF Δ.flds u.d k d2 st with
    | .ok _ st => .nx ρ st
    | .exc c fs st => .exc c fs ρ st
    | .stuck => .stuck
  | .fset f o e, ρ, st => match (evE Δ e ρ st).bind fun y st => (evE Δ o ρ st).bind fun x st => setF Δ.flds x.d f y.d st with
    | .ok _ st => .nx ρ st
    | .exc c fs st => .exc c fs ρ st
    | .stuck => .stuck
  | .iset o i e, ρ, st => match (evE Δ e ρ st).bind fun y st => (evE Δ o ρ st).bind fun x st => (evE Δ i ρ st).bind fun z st => opSet x.d z.d y.d st with
    | .ok _ st => .nx ρ st
    | .exc c fs st => .exc c fs ρ st
    | .stuck => .stuck
  | .dput o k e, ρ, st => match (evE Δ e ρ st).bind fun y st => (evE Δ o ρ st).bind fun x st => (evE Δ k ρ st).bind fun z st => opDput x.d z.d y.d st with
    | .ok _ st => .nx ρ st
    | .exc c fs st => .exc c fs ρ st
    | .stuck => .stuck
  | .iaug o a i e, ρ, st => match (evE Δ a ρ st).bind fun x st => (evE Δ i ρ st).bind fun z st => (opAt x.d z.d st).bind fun v st => (evE Δ e ρ st).bind fun y st => (opAug o v y.d st).bind fun u st => opSet x.d z.d u st with
    | .ok _ st => .nx ρ st
    | .exc c fs st => .exc c fs ρ st
    | .stuck => .stuck
  | .forL tg i body, ρ, st => match listAt (ρ.get i) st with
    | some (n, ds) => forG (gdL n ds) (fun d ρ st => match tgt tg d ρ with
      | none => .stuck
      | some ρ => exSs Δ body ρ st) ds ρ st
    | none => .stuck
  | .aug o i e, ρ, st => match ρ.get i with
    | some x => match (evE Δ e ρ st).bind fun y st => opAug o x y.d st with
      | .ok z st => .nx (ρ.put i z) st
      | .exc c fs st => .exc c fs ρ st
      | .stuck => .stuck
    | none => .stuck
  | .faug o f x e, ρ, st => match (evE Δ x ρ st).bind fun x st => match getF Δ.flds st x.d f with
      | some v => (evE Δ e ρ st).bind fun y st' => (opAug o v y.d st').bind fun z st'' => if clsId st x.d = clsId st'' x.d then setF Δ.flds x.d f z st'' else .stuck
      | none => .stuck with
    | .ok _ st => .nx ρ st
    | .exc c fs st => .exc c fs ρ st
    | .stuck => .stuck
  | .ex e, ρ, st => match evE Δ e ρ st with
    | .ok _ st => .nx ρ st
    | .exc c fs st => .exc c fs ρ st
    | .stuck => .stuck
  | .ret e, ρ, st => match evE Δ e ρ st with
    | .ok w st => .ret w st
    | .exc c fs st => .exc c fs ρ st
    | .stuck => .stuck
  | .retN, _, st => .ret (.v .non) st
  | .if_ c a b, ρ, st => match evT Δ c ρ st with
    | .ok k st => if k then exSs Δ a ρ st else exSs Δ b ρ st
    | .exc c fs st => .exc c fs ρ st
    | .stuck => .stuck
  | .for_ tg it body, ρ, st => match evI Δ it ρ st with
    | .ok ds st => forM (fun d ρ st => match tgt tg d ρ with
      | none => .stuck
      | some ρ => exSs Δ body ρ st) ds ρ st
    | .exc c fs st => .exc c fs ρ st
    | .stuck => .stuck
  | .wh c body, ρ, st => whl (fun ρ st => evT Δ c ρ st) (fun ρ st => exSs Δ body ρ st) ρ st
  | .pass, ρ, st => .nx ρ st
  | .brk, ρ, st => .bk ρ st
  | .rais c es, ρ, st => match evEs Δ es ρ st with
    | .ok ds st => if ds.length = (Δ.exf c).length then .exc c ((Δ.exf c).zip ds) ρ st else .stuck
    | .exc c fs st => .exc c fs ρ st
    | .stuck => .stuck
  | .try_ body hs, ρ, st => match exSs Δ body ρ st with
    | .exc c fs ρ st => exH Δ hs c fs ρ st
    | o => o
  | _, _, _ => .stuck
def exSs (Δ : Dl) : T → Lc → Store → Out
  | .nil, ρ, st => .nx ρ st
  | .cons (.forget is) t, ρ, st => exSs Δ t (ρ.wipe is) st
  | .cons h t, ρ, st => match exS Δ h ρ st with
    | .nx ρ st => exSs Δ t ρ st
    | o => o
  | _, _, _ => .stuck
def exH (Δ : Dl) : T → Nat → List (Nat × D) → Lc → Store → Out
  | .nil, c, fs, ρ, st => .exc c fs ρ st
  | .cons (.hd k i suite) t, c, fs, ρ, st => if (Δ.exf c).isEmpty then .stuck else if Δ.sub c k then outN i (exSs { Δ with xn := some (c, fs) } suite (ρ.wipe i.toList) st) else exH Δ t c fs ρ st
  | _, _, _, _, _ => .stuck
end
end

/-- a def -/
structure Fn where
  np : Nat
  ns : Nat
  body : T
/-- the store without what a call left behind -/
def takeOk (st st' : Store) : Prop := st.length ≤ st'.length ∧ ∀ (n : Nat) (o : Ob), n < st.length → st'[n]? = some o → st[n]? = some o ∨ belowO st.length o = true
open Classical in
noncomputable def finish (st : Store) (w : W) (st' : Store) : Res W :=
  if takeOk st st' then
    match w with
    | .fr ds => if belows st.length ds then .ok (.fr ds) (st'.take st.length) else .ok (.fr ds) st'
    | .v d => if below st.length d then .ok (.v d) (st'.take st.length) else match d with
      | .ref n => match st'[n]? with
        | some (.lst ds) => if belows st.length ds then .ok (.fr ds) (st'.take st.length) else .ok (.v d) st'
        | _ => .ok (.v d) st'
      | _ => .ok (.v d) st'
  else .ok w st'
noncomputable def runFn (Δ : Dl) (fn : Fn) (args : List D) (st : Store) : Res W :=
  if args.length = fn.np then
    match exSs Δ fn.body (args.map some ++ List.replicate (fn.ns - fn.np) none) st with
    | .ret w st' => finish st w st'
    | .nx _ st' => finish st (.v .non) st'
    | .exc c fs _ st' => .exc c fs st'
    | _ => .stuck
  else .stuck
end Fw

/-! ## Fw3 -/
set_option Elab.async false
set_option linter.all false
set_option maxRecDepth 100000
set_option maxHeartbeats 4000000
/-! How what a term computes lies in the heap; the operations. -/
namespace Fw
open PySem L2

abbrev Rel (α β : Type) := α → Store → β → List Addr → List Addr → Hp → Prop
/-- an exception of the class c with these fields -/
def RX (g : G) (μ : List Addr) (H : Hp) (xa : Option (Addr × Addr)) (xn : Option (Nat × List (Nat × D))) : Prop := match xn with
  | none => True
  | some (c, fs) => ∃ C dd vs, xa = some (C, dd) ∧ g.cls c = some C ∧ H dd = some (.xd vs) ∧ dd ∉ μ ∧ RF g μ μ H fs vs
def relW (g : G) : Rel W V := fun w st v μ α H => match w with
  | .v d => α = μ ∧ RV g μ μ H d v ∧ RS g μ μ H st
  | .fr ds => ∃ p xs, v = .ref p ∧ α = p :: μ ∧ p ∉ μ ∧ H p = some (.lst xs) ∧ RVs g μ (p :: μ) H ds xs ∧ RS g μ (p :: μ) H st
def relD (g : G) : Rel D V := fun d st v μ α H => α = μ ∧ RV g μ μ H d v ∧ RS g μ μ H st
def relDs (g : G) : Rel (List D) (List V) := fun ds st vs μ α H => α = μ ∧ RVs g μ μ H ds vs ∧ RS g μ μ H st
def relE {α : Type} (g : G) : Rel α α := fun b st b' μ α H => b' = b ∧ α = μ ∧ RS g μ μ H st
def relU (g : G) : Rel Unit Unit := fun _ st _ μ α H => α = μ ∧ RS g μ μ H st
def PostR {α β : Type} (g : G) (Wx : XK) (μ : List Addr) (H : Hp) (r : Res α) (rel : Rel α β) (Q : β → Hp → Prop) : Prop := match r with
  | .stuck => False
  | .ok a st => ∀ b μ' α' H', Step μ H μ' α' H' → rel a st b μ' α' H' → Q b H'
  | .exc c fs st => ∀ C dd μ' H', Step μ H μ' μ' H' → RX g μ' H' (some (C, dd)) (some (c, fs)) → RS g μ' μ' H' st → Wx (.ref C) (some dd) H'

section
variable {g : G} {μ μ' α α' : List Addr} {H H' : Hp} {st : Store} {Wx : XK}
theorem RO.imp (s : Imp g μ α H μ' α' H') {o : Ob} {a : Addr} (e : H' a = H a) (h : RO g μ α H o a) : RO g μ' α' H' o a := by
  cases h with
  | lst h1 h2 => exact .lst (e.trans h1) (h2.imp s)
  | ins h1 h2 h3 => exact .ins h1 (e.trans h2) (h3.imp s)
  | dic h1 h2 => exact .dic (e.trans h1) (h2.imp s)
theorem RO.there {o : Ob} {a : Addr} (h : RO g μ α H o a) : ∃ u, H a = some u := by
  cases h with
  | lst h1 h2 => exact ⟨_, h1⟩
  | ins h1 h2 h3 => exact ⟨_, h2⟩
  | dic h1 h2 => exact ⟨_, h1⟩
theorem RO.mut {o : Ob} {a : Addr} (h : RO g μ α H o a) : Mut (H a) := by
  cases h with
  | lst h1 h2 => rw [h1]; trivial
  | ins h1 h2 h3 => rw [h2]; trivial
  | dic h1 h2 => rw [h1]; trivial
theorem RS.at_ (r : RS g μ α H st) {n : Nat} {o : Ob} (h : st[n]? = some o) : ∃ a, μ[n]? = some a ∧ RO g μ α H o a := by
  obtain ⟨hl, _⟩ := List.getElem?_eq_some_iff.mp h
  have hm : n < μ.length := by rw [← r.len]; exact hl
  exact ⟨μ[n], by simp [hm], r.ob n o _ h (by simp [hm])⟩
theorem RS.mem (r : RS g μ α H st) {a : Addr} (h : a ∈ μ) : ∃ u, H a = some u := by
  obtain ⟨n, hn⟩ := List.mem_iff_getElem?.mp h
  obtain ⟨hl, _⟩ := List.getElem?_eq_some_iff.mp hn
  have hs : n < st.length := by rw [r.len]; exact hl
  exact (r.ob n st[n] a (by simp [hs]) hn).there
theorem RS.fresh (r : RS g μ α H st) {p : Addr} (h : H p = none) : p ∉ μ := fun hm => by
  obtain ⟨u, e⟩ := r.mem hm
  rw [h] at e; cases e
theorem RS.imp (r : RS g μ α H st) (s : Imp g μ α H μ α' H') (e : ∀ a ∈ μ, H' a = H a) : RS g μ α' H' st :=
  ⟨r.len, r.nd, fun n o a h1 h2 => (r.ob n o a h1 h2).imp s (e a (List.mem_iff_getElem?.mpr ⟨n, h2⟩))⟩
/-- a new object that the store does not name -/
theorem Step.fr0 {p : Addr} {o : HO} (h : H p = none) : Step μ H μ μ (upd H p o) :=
  ⟨⟨[], by simp⟩, fun _ z => z, fun _ z => .inl z, fun q u e _ => by rw [upd_ne (ne_of_none e h)]; exact e, fun q u e => by rw [upd_ne (ne_of_none e h), e]; simp⟩
theorem Step.fr1 {p : Addr} {o : HO} (h : H p = none) : Step μ H μ (p :: μ) (upd H p o) :=
  ⟨⟨[], by simp⟩, fun _ z => List.mem_cons_of_mem _ z, fun q z => by
    rcases List.mem_cons.mp z with e | e
    · subst e; exact .inr h
    · exact .inl e, fun q u e _ => by rw [upd_ne (ne_of_none e h)]; exact e, fun q u e => by rw [upd_ne (ne_of_none e h), e]; simp⟩
theorem RS.new (r : RS g μ μ H st) {p : Addr} {o : HO} (h : H p = none) : RS g μ μ (upd H p o) st :=
  r.imp (Step.fr0 h).imp fun a ha => upd_ne fun z => r.fresh h (z ▸ ha)
theorem RS.newF (r : RS g μ μ H st) {p : Addr} {o : HO} (h : H p = none) : RS g μ (p :: μ) (upd H p o) st :=
  r.imp (Step.fr1 h).imp fun a ha => upd_ne fun z => r.fresh h (z ▸ ha)
/-- what was kept apart is let go -/
theorem Step.frz {α1 : List Addr} (s : Step μ H μ' α1 H') : Step μ H μ' μ' H' := ⟨s.pre, fun _ h => h, fun p h => s.new p (s.sub p h), s.keep, s.there⟩
theorem RS.less (r : RS g μ α H st) (h : ∀ p ∈ α', p ∈ α) : RS g μ α' H st := r.imp (Imp.less h) fun _ _ => rfl
theorem relW.frz {w : W} {v : V} (h : relW g w st v μ α H) : RV g μ μ H w.d v ∧ RS g μ μ H st := by
  cases w with
  | v d => exact h.2
  | fr ds =>
    obtain ⟨p, xs, rfl, rfl, hp, e, hr, hs⟩ := h
    exact ⟨.lst ⟨e, hp⟩ (hr.imp (Imp.less fun q z => List.mem_cons_of_mem _ z)), hs.less fun q z => List.mem_cons_of_mem _ z⟩
theorem PostR.step {α β : Type} {r : Res α} {rel : Rel α β} {Q : β → Hp → Prop} {α' : List Addr} (s : Step μ H μ' α' H') (h : PostR g Wx μ H r rel Q) : PostR g Wx μ' H' r rel Q := by
  cases r with
  | stuck => exact h
  | ok a st => exact fun b μ2 α2 H2 s2 hr => h b μ2 α2 H2 (s.trans s2) hr
  | exc c fs st => exact fun C dd μ2 H2 s2 hx hr => h C dd μ2 H2 (s.trans s2) hx hr
theorem PostR.bind {α β γ δ : Type} {r : Res α} {k : α → Store → Res γ} {rel1 : Rel α β} {rel : Rel γ δ} {Q : δ → Hp → Prop} (h : PostR g Wx μ H (r.bind k) rel Q) :
    PostR g Wx μ H r rel1 fun b H1 => ∃ a st1 μ1 α1, Step μ H μ1 α1 H1 ∧ rel1 a st1 b μ1 α1 H1 ∧ PostR g Wx μ1 H1 (k a st1) rel Q := by
  cases r with
  | stuck => exact h
  | exc c fs st => exact h
  | ok a st => exact fun b μ1 α1 H1 s hr => ⟨a, st, μ1, α1, s, hr, h.step s⟩
theorem PostR.bindW {γ δ : Type} {r : Res W} {k : W → Store → Res γ} {rel : Rel γ δ} {Q : δ → Hp → Prop} (h : PostR g Wx μ H (r.bind k) rel Q) :
    PostR g Wx μ H r (relW g) fun v H1 => ∃ w st1 μ1, Step μ H μ1 μ1 H1 ∧ RV g μ1 μ1 H1 w.d v ∧ RS g μ1 μ1 H1 st1 ∧ PostR g Wx μ1 H1 (k w st1) rel Q := by
  cases r with
  | stuck => exact h
  | exc c fs st => exact h
  | ok a st => exact fun b μ1 α1 H1 s hr => ⟨a, st, μ1, s.frz, hr.frz.1, hr.frz.2, h.step s⟩
theorem PostR.mono {α β : Type} {r : Res α} {rel : Rel α β} {Q Q' : β → Hp → Prop} (h : PostR g Wx μ H r rel Q) (q : ∀ b H', Q b H' → Q' b H') : PostR g Wx μ H r rel Q' := by
  cases r with
  | stuck => exact h
  | exc c fs st => exact h
  | ok a st => exact fun b μ1 α1 H1 s hr => q _ _ (h b μ1 α1 H1 s hr)
/-- a result that is here -/
theorem PostR.v {d : D} {v : V} {Q : VK} (h : PostR g Wx μ H (.ok (.v d) st) (relW g) Q) (hs : RS g μ μ H st) (r : RV g μ μ H d v) : Q v H := h v μ μ H .refl ⟨rfl, r, hs⟩
theorem PostR.d {d : D} {v : V} {Q : VK} (h : PostR g Wx μ H (.ok d st) (relD g) Q) (hs : RS g μ μ H st) (r : RV g μ μ H d v) : Q v H := h v μ μ H .refl ⟨rfl, r, hs⟩
/-- a new tuple -/
theorem PostR.newT {ds : List D} {xs : List V} {Q : VK} (h : PostR g Wx μ H (.ok (.v (.tup ds)) st) (relW g) Q) (hs : RS g μ μ H st) (r : RVs g μ μ H ds xs) : ∀ p, H p = none → Q (.ref p) (upd H p (.tup xs)) := fun p hp =>
  h _ μ μ _ (Step.fr0 hp) ⟨rfl, .tup (.inl ⟨.inl upd_same, hs.fresh hp⟩) (r.step (Step.fr0 hp)), hs.new hp⟩
/-- a new list -/
theorem PostR.newL {ds : List D} {xs : List V} {Q : VK} (h : PostR g Wx μ H (.ok (.fr ds) st) (relW g) Q) (hs : RS g μ μ H st) (r : RVs g μ μ H ds xs) : ∀ p, H p = none → Q (.ref p) (upd H p (.lst xs)) := fun p hp =>
  h _ μ (p :: μ) _ (Step.fr1 hp) ⟨p, xs, rfl, rfl, hs.fresh hp, upd_same, r.step (Step.fr1 hp), hs.newF hp⟩
/-- a list that is read -/
theorem seqL_rel {d : D} {v : V} {ds : List D} (hs : RS g μ μ H st) (r : RV g μ μ H d v) (e : seqL st d = some ds) : ∃ a xs, v = .ref a ∧ H a = some (.lst xs) ∧ RVs g μ μ H ds xs := by
  cases r with
  | lst h1 h2 => cases e; exact ⟨_, _, rfl, h1.1, h2⟩
  | ref h1 =>
    rename_i n a
    cases q : st[n]? with
    | none => simp only [seqL, q] at e; cases e
    | some o =>
      simp only [seqL, q] at e
      cases o with
      | lst es =>
        cases e
        have := hs.ob n _ a q h1
        cases this with
        | lst h2 h3 => exact ⟨_, _, rfl, h2, h3⟩
      | ins _ _ => cases e
      | dic _ => cases e
  | _ => cases e
theorem seqD_rel {d : D} {v : V} {ds : List D} (hs : RS g μ μ H st) (r : RV g μ μ H d v) (e : seqD st d = some ds) : ∃ a xs, v = .ref a ∧ (SqL g.K H a xs ∨ SqT g.K H a xs) ∧ RVs g μ μ H ds xs := by
  cases d with
  | tup es =>
    cases e
    cases r with
    | tup h1 h2 => exact ⟨_, _, rfl, .inr h1.sq, h2⟩
  | _ =>
    obtain ⟨a, xs, h1, h2, h3⟩ := seqL_rel hs r e
    exact ⟨a, xs, h1, .inl (SqL.of h2), h3⟩
theorem RVs.ints {ds : List D} {vs : List V} {ns : List Int} (r : RVs g μ α H ds vs) (e : intsD ds = some ns) : vs = ns.map V.int := by
  induction ds generalizing vs ns with
  | nil => cases e; cases r; rfl
  | cons d ds ih =>
    cases r with
    | cons h1 h2 =>
      cases h1 with
      | int i =>
        simp only [intsD, Option.map_eq_some_iff] at e
        obtain ⟨ms, e1, rfl⟩ := e
        rw [ih h2 e1]; rfl
      | _ => simp [intsD] at e
/-- the truth of a bool or an int -/
def trV : V → Option Bool
  | .bl b => some b
  | .int i => some (i != 0)
  | _ => none
theorem RVs.bls {ds : List D} {vs : List V} {ns : List Bool} (r : RVs g μ α H ds vs) (e : blsD ds = some ns) : vs.map trV = ns.map some := by
  induction ds generalizing vs ns with
  | nil => cases e; cases r; rfl
  | cons d ds ih =>
    cases r with
    | cons h1 h2 =>
      cases h1 with
      | bl i =>
        simp only [blsD, Option.map_eq_some_iff] at e
        obtain ⟨ms, e1, rfl⟩ := e
        rw [List.map_cons, ih h2 e1]; rfl
      | int i =>
        simp only [blsD, Option.map_eq_some_iff] at e
        obtain ⟨ms, e1, rfl⟩ := e
        rw [List.map_cons, ih h2 e1]; rfl
      | _ => simp [blsD] at e
mutual
theorem RV.dp : ∀ {d : D} {v : V}, RV g μ α H d v → isData d = true → Dp g.K H v (toPy d)
  | _, _, .non, _ => .non
  | _, _, .bl b, _ => .bl b
  | _, _, .int i, _ => .int i
  | _, _, .str x, _ => .str x
  | _, _, .tup h r, e => .tup h.sq (RVs.dp r e)
  | _, _, .lst h r, e => .lst h.sq (RVs.dp r e)
  | _, _, .ref h, e => by simp [isData] at e
  | _, _, .scr h r, e => by simp [isData] at e
  | _, _, .fn h, e => by simp [isData] at e
theorem RVs.dp : ∀ {ds : List D} {vs : List V}, RVs g μ α H ds vs → isDatas ds = true → DpAll g.K H vs (toPys ds)
  | _, _, .nil, _ => .nil
  | _, _, .cons h r, e => by
    simp only [isDatas, Bool.and_eq_true] at e
    exact .cons (RV.dp h e.1) (RVs.dp r e.2)
end
theorem look_dp {d : D} {v : V} (hs : RS g μ μ H st) (r : RV g μ μ H d v) (e : isData (look st d) = true) : Dp g.K H v (toPy (look st d)) := by
  cases r with
  | ref h1 =>
    rename_i n a
    cases q : st[n]? with
    | none => simp [look, q, isData] at e
    | some o =>
      simp only [look, q] at e ⊢
      cases o with
      | lst es =>
        have := hs.ob n _ a q h1
        cases this with
        | lst h2 h3 => exact .lst (SqL.of h2) (h3.dp e)
      | ins _ _ => simp [isData] at e
      | dic _ => simp [isData] at e
  | non => exact .non
  | bl b => exact .bl b
  | int b => exact .int b
  | str b => exact .str b
  | tup h r => exact (RV.tup h r).dp e
  | lst h r => exact (RV.lst h r).dp e
  | fn h => simp [look, isData] at e
  | scr h r => simp [look, isData] at e
theorem cut_eq (ds : List D) (lo hi : Option Int) : ∀ (n d : Nat) (o : Option Int), d ≤ n → sIxN n d o = HT.sIx n d o := by
  intro n d o hd
  cases o with
  | none => rfl
  | some i =>
    rfl
end
end Fw

/-! ## Fs0 -/
set_option Elab.async false
set_option linter.all false
set_option maxRecDepth 100000
set_option maxHeartbeats 4000000
/-! Dicts of the store; comparisons of data. -/
namespace Fw
open PySem PySem.Spec PyProof.Rows L2
theorem big_eq : big = sizeLine := by rw [sizeLine_eq]
section
variable {g : G} {μ α : List Addr} {H : Hp} {st : Store}
theorem RKs.length : ∀ {r : List (Key × D)} {r' : List (Key × V)}, RKs g μ α H r r' → r.length = r'.length
  | _, _, .nil => rfl
  | _, _, .cons _ r => by simp [RKs.length r]
theorem RKs.val (k : Key) : ∀ {r : List (Key × D)} {r' : List (Key × V)}, RKs g μ α H r r' → (valD r k = none ∧ valV r' k = none) ∨ ∃ d v, valD r k = some d ∧ valV r' k = some v ∧ RV g μ α H d v
  | _, _, .nil => .inl ⟨rfl, rfl⟩
  | (k', d) :: r, _, .cons h rest => by
    by_cases e : k' = k
    · exact .inr ⟨d, _, by simp [valD, List.find?_cons, e], valV_pos e, h⟩
    · have a : valD ((k', d) :: r) k = valD r k := by simp [valD, List.find?_cons, e]
      rw [a, valV_neg e]
      exact RKs.val k rest
theorem RKs.map {d : D} {v : V} (h : RV g μ α H d v) (k : Key) : ∀ {r : List (Key × D)} {r' : List (Key × V)}, RKs g μ α H r r' → RKs g μ α H (r.map fun kv => if kv.1 = k then (kv.1, d) else kv) (r'.map fun kv => if kv.1 = k then (kv.1, v) else kv)
  | _, _, .nil => .nil
  | (k', d') :: r, _, .cons h' rest => by
    simp only [List.map_cons]
    by_cases e : k' = k
    · rw [if_pos e, if_pos e]; exact .cons h (RKs.map h k rest)
    · rw [if_neg e, if_neg e]; exact .cons h' (RKs.map h k rest)
theorem RKs.snoc {d : D} {v : V} (h : RV g μ α H d v) (k : Key) : ∀ {r : List (Key × D)} {r' : List (Key × V)}, RKs g μ α H r r' → RKs g μ α H (r ++ [(k, d)]) (r' ++ [(k, v)])
  | _, _, .nil => .cons h .nil
  | _, _, .cons h' rest => .cons h' (RKs.snoc h k rest)
theorem RKs.put {d : D} {v : V} (h : RV g μ α H d v) (k : Key) {r : List (Key × D)} {r' : List (Key × V)} (q : RKs g μ α H r r') : RKs g μ α H (putD r k d) (putK r' k v) := by
  unfold putD putK
  rw [valV_any]
  rcases q.val k with ⟨e1, e2⟩ | ⟨d0, v0, e1, e2, _⟩
  · rw [e1, e2]; exact q.snoc h k
  · rw [e1, e2]; exact q.map h k
theorem dic_rel {d : D} {v : V} {n : Nat} {kvs : List (Key × D)} (hs : RS g μ μ H st) (r : RV g μ μ H d v) (e : dicD st d = some (n, kvs)) : ∃ p kvs2, v = .ref p ∧ μ[n]? = some p ∧ H p = some (.dK kvs2) ∧ RKs g μ μ H kvs kvs2 := by
  cases r with
  | ref h1 =>
    rename_i m p
    cases q : st[m]? with
    | none => simp only [dicD, q] at e; cases e
    | some ob =>
      simp only [dicD, q] at e
      cases ob with
      | dic kv =>
        cases e
        have ro := hs.ob _ _ _ q h1
        cases ro with
        | dic hp rk => exact ⟨p, _, rfl, h1, hp, rk⟩
      | _ => cases e
  | _ => cases e
theorem key_rel {d : D} {v : V} {k : Key} (r : RV g μ μ H d v) (e : keyD d = some k) : v = kV k := by
  cases r with
  | int i => cases e; rfl
  | str x => cases e; rfl
  | _ => cases e
theorem dicD_isSome {st : Store} {d : D} (h : (dicD st d).isSome = true) : ∃ n kvs, dicD st d = some (n, kvs) := by
  cases e : dicD st d with
  | none => rw [e] at h; cases h
  | some p => exact ⟨p.1, p.2, rfl⟩
end

section
variable {X : Cx}
/-- k in d, d[k], len(d) -/
theorem op_in_dict (hu : X.A.units + 1 < cLine) : OpR X (compareOp .In) (fun x y H Q => ∃ (a : Addr) (kvs : List (Key × V)) (k : Key), y = .ref a ∧ x = kV k ∧ H a = some (.dK kvs) ∧ Q (.bl (valV kvs k).isSome) H) := by
  intro pins s σ H x y v u Q I rx ry h
  obtain ⟨a, kvs, k, rfl, rfl, ha, q⟩ := h
  obtain rfl : u = Value.ref a := ry
  exact d_in hu I (DGet.k ha) rx fun s3 I3 => ⟨.bl _, H, I3, rfl, q⟩
theorem op_notIn_dict (hu : X.A.units + 1 < cLine) : OpR X (compareOp .NotIn) (fun x y H Q => ∃ (a : Addr) (kvs : List (Key × V)) (k : Key), y = .ref a ∧ x = kV k ∧ H a = some (.dK kvs) ∧ Q (.bl (!(valV kvs k).isSome)) H) := by
  intro pins s σ H x y v u Q I rx ry h
  obtain ⟨a, kvs, k, rfl, rfl, ha, q⟩ := h
  obtain rfl : u = Value.ref a := ry
  exact d_notIn hu I (DGet.k ha) rx fun s3 I3 => ⟨.bl _, H, I3, rfl, q⟩
theorem ix_dict (hu : X.A.units + 1 < cLine) : IxR X (fun x y H Q => ∃ (a : Addr) (kvs : List (Key × V)) (k : Key) (v : V), x = .ref a ∧ y = kV k ∧ H a = some (.dK kvs) ∧ valV kvs k = some v ∧ Q v H) := by
  intro value slice pins s σ H x y v u Q I rx ry h hs
  obtain ⟨a, kvs, k, w, rfl, rfl, ha, hv, q⟩ := h
  obtain rfl : v = Value.ref a := rx
  have g : DGet H a (kV k) (some w) := by rw [← hv]; exact DGet.k ha
  unfold subscriptTail
  refine wpAny_bind ?_
  rw [getitemInPython_of_ne (dict_typeIs I g).not_modules]
  refine wpAny_bind (wpAny_specialOf (dict_typeIs I g) PySem.F.slot_dict_getitem.lookup ?_)
  have fin : wpAny (model X.prog X.w) X.A (subscripted slice false (.ref a) u) (fun r s₃ => wpAny (model X.prog X.w) X.A (letTemporaryGo value (.ref a) r >>= fun _ => pure r) (EP X pins σ Q) X.xe s₃) X.xe s := by
    rw [hs]
    exact wpAny_operating (d_getItem hu I g ry fun w' s3 I3 rw' => wpAny_bind (wpAny_letTemporaryGo (wpAny_pure ⟨w, H, I3, rw', q⟩)))
  first
    | exact wpAny_pure (wpAny_bind fin)
    | exact wpAny_bind (wpAny_pure (wpAny_bind fin))
    | exact wpAny_bind fin
theorem cr_len_dict : CallR X (.builtin "len") (fun xs H Q => ∃ (a : Addr) (kvs : List (Key × V)), xs = [.ref a] ∧ H a = some (.dK kvs) ∧ Q (.int kvs.length) H) := by
  intro pins s σ H xs us Q I r h
  obtain ⟨a, kvs, rfl, ha, q⟩ := h
  obtain rfl := Vals.ref1 r
  exact d_len I (.inl ha) fun t s3 I3 => ⟨.int _, H, I3, ⟨_, rfl⟩, q⟩
/-- < <= > >= of data -/
def rDat (K : PySem.W.Frag) (f : PyData → PyData → Bool) : R2 := fun x y H Q => ∃ d e, Dp K H x d ∧ Dp K H y e ∧ PySem.W.alike d e = true ∧ d ≠ .none ∧ d.depth ≤ 40 ∧ Q (.bl (f d e)) H
theorem op_ltD (hu : X.A.units + 64 < cLine) : OpR X (compareOp .Lt) (rDat X.K fun d e => PySem.W.dataLt d e) := by
  intro pins s σ H x y v u Q I rx ry h
  obtain ⟨d, e, hd, he, ha, hn, hz, q⟩ := h
  obtain ⟨as, r1⟩ := Dp.reads I d x v hd rx
  obtain ⟨bs, r2⟩ := Dp.reads I e y u he ry
  exact PySem.W.lt_data r1 r2 ha hn (by omega) ⟨.bl _, H, I, rfl, q⟩
theorem op_gtD (hu : X.A.units + 64 < cLine) : OpR X (compareOp .Gt) (rDat X.K fun d e => PySem.W.dataLt e d) := by
  intro pins s σ H x y v u Q I rx ry h
  obtain ⟨d, e, hd, he, ha, hn, hz, q⟩ := h
  obtain ⟨as, r1⟩ := Dp.reads I d x v hd rx
  obtain ⟨bs, r2⟩ := Dp.reads I e y u he ry
  exact PySem.W.gt_data r1 r2 ha hn (by omega) ⟨.bl _, H, I, rfl, q⟩
theorem op_leD (hu : X.A.units + 64 < cLine) : OpR X (compareOp .LtE) (rDat X.K fun d e => !PySem.W.dataLt e d) := by
  intro pins s σ H x y v u Q I rx ry h
  obtain ⟨d, e, hd, he, ha, hn, hz, q⟩ := h
  obtain ⟨as, r1⟩ := Dp.reads I d x v hd rx
  obtain ⟨bs, r2⟩ := Dp.reads I e y u he ry
  exact PySem.W.le_data r1 r2 ha hn (by omega) ⟨.bl _, H, I, rfl, q⟩
theorem op_geD (hu : X.A.units + 64 < cLine) : OpR X (compareOp .GtE) (rDat X.K fun d e => !PySem.W.dataLt d e) := by
  intro pins s σ H x y v u Q I rx ry h
  obtain ⟨d, e, hd, he, ha, hn, hz, q⟩ := h
  obtain ⟨as, r1⟩ := Dp.reads I d x v hd rx
  obtain ⟨bs, r2⟩ := Dp.reads I e y u he ry
  exact PySem.W.ge_data r1 r2 ha hn (by omega) ⟨.bl _, H, I, rfl, q⟩
/-- x in xs, data -/
def rInD (K : PySem.W.Frag) (no : Bool) : R2 := fun x y H Q => ∃ (d e : PyData) (xs : List PyData), Dp K H x d ∧ Dp K H y e ∧ (e = .list xs ∨ e = .tuple xs) ∧ d.plain = true ∧ PyData.plainAll xs = true ∧ d.depth ≤ 40 ∧ Q (.bl (if no then !xs.any (fun z => PyData.eqv z d) else xs.any fun z => PyData.eqv z d)) H
theorem op_inD (hu : X.A.units + 64 < cLine) : OpR X (compareOp .In) (rInD X.K false) := by
  intro pins s σ H x y v u Q I rx ry h
  obtain ⟨d, e, xs, hd, he, hs, h1, h2, hz, q⟩ := h
  obtain ⟨as, r1⟩ := Dp.reads I d x v hd rx
  obtain ⟨bs, r2⟩ := Dp.reads I e y u he ry
  rcases hs with rfl | rfl
  · exact SeqAt.in_list_data r2 r1 h2 h1 (by omega) ⟨.bl _, H, I, rfl, q⟩
  · exact SeqAt.in_tuple_data r2 r1 h2 h1 (by omega) ⟨.bl _, H, I, rfl, q⟩
theorem op_notInD (hu : X.A.units + 64 < cLine) : OpR X (compareOp .NotIn) (rInD X.K true) := by
  intro pins s σ H x y v u Q I rx ry h
  obtain ⟨d, e, xs, hd, he, hs, h1, h2, hz, q⟩ := h
  obtain ⟨as, r1⟩ := Dp.reads I d x v hd rx
  obtain ⟨bs, r2⟩ := Dp.reads I e y u he ry
  rcases hs with rfl | rfl
  · exact SeqAt.notIn_list_data r2 r1 h2 h1 (by omega) ⟨.bl _, H, I, rfl, q⟩
  · exact SeqAt.notIn_tuple_data r2 r1 h2 h1 (by omega) ⟨.bl _, H, I, rfl, q⟩
end
end Fw

/-! ## Fs1 -/
set_option Elab.async false
set_option linter.all false
set_option maxRecDepth 100000
set_option maxHeartbeats 4000000
/-! sorted of data. -/
namespace Fw
open PySem PySem.Spec PyProof.Rows L2
theorem each_of {g : G} {μ α : List Addr} {H : Hp} : ∀ {ds : List D} {xs : List V} {us : List Value}, RVs g μ α H ds xs → Vals xs us → PySem.W.EachIs (fun u d => ∃ v, RV g μ α H d v ∧ RelV v u) us ds
  | _, _, _, .nil, .nil => .nil
  | _, _, _, .cons r rs, .cons v vs => .cons ⟨_, r, v⟩ (each_of rs vs)
theorem of_each {g : G} {μ α : List Addr} {H : Hp} : ∀ {us : List Value} {ds : List D}, PySem.W.EachIs (fun u d => ∃ v, RV g μ α H d v ∧ RelV v u) us ds → ∃ xs, RVs g μ α H ds xs ∧ Vals xs us
  | _, _, .nil => ⟨[], .nil, .nil⟩
  | _, _, .cons ⟨v, r, q⟩ rs => by
    obtain ⟨xs, h1, h2⟩ := of_each rs
    exact ⟨v :: xs, .cons r h1, .cons q h2⟩
theorem isDatas_m : ∀ {ds : List D}, isDatas ds = true → ∀ d ∈ ds, isData d = true
  | d :: ds, h, x, hx => by
    unfold isDatas at h
    rw [Bool.and_eq_true] at h
    rcases List.mem_cons.mp hx with rfl | hx
    · exact h.1
    · exact isDatas_m h.2 x hx
theorem each_mem {R : Value → D → Prop} {S : Value → D → Prop} : ∀ {us : List Value} {ds : List D}, PySem.W.EachIs R us ds → (∀ d ∈ ds, ∀ u, R u d → S u d) → PySem.W.EachIs S us ds
  | _, _, .nil, _ => .nil
  | _, _, .cons r rs, h => .cons (h _ List.mem_cons_self _ r) (each_mem rs fun d hd => h d (List.mem_cons_of_mem _ hd))
theorem sortOk_parts {ds : List D} (h : sortOk ds = true) : isDatas ds = true ∧ PySem.W.AllAlike (ds.map toPy) ∧ PySem.W.Sortable (ds.map toPy) ∧ (∀ d ∈ ds, (toPy d).depth ≤ 60) ∧ ds.length ≤ big := by
  unfold sortOk at h
  simp only [Bool.and_eq_true, Bool.or_eq_true, decide_eq_true_eq, List.all_eq_true] at h
  obtain ⟨⟨⟨⟨h1, h2⟩, h3⟩, h4⟩, h5⟩ := h
  refine ⟨h1, ?_, ?_, h4, h5⟩
  · intro d hd d' hd'
    obtain ⟨x, hx, rfl⟩ := List.mem_map.mp hd
    obtain ⟨y, hy, rfl⟩ := List.mem_map.mp hd'
    exact h2 x hx y hy
  · rcases h3 with h3 | h3
    · left
      intro d hd
      obtain ⟨x, hx, rfl⟩ := List.mem_map.mp hd
      have := h3 x hx
      cases x with
      | tup l =>
        cases l with
        | nil => simp at this
        | cons a l => exact ⟨toPy a, toPys l, rfl⟩
      | _ => simp at this
    · right
      intro d hd
      obtain ⟨x, hx, rfl⟩ := List.mem_map.mp hd
      have := h3 x hx
      cases x with
      | tup l => simp at this
      | non => simp at this
      | bl b => exact ⟨by simp [toPy], by simp [toPy]⟩
      | int b => exact ⟨by simp [toPy], by simp [toPy]⟩
      | str b => exact ⟨by simp [toPy], by simp [toPy]⟩
      | lst b => exact ⟨by simp [toPy], by simp [toPy]⟩
      | scr b => have := isDatas_m h1 _ hx; simp [isData] at this
      | ref b => have := isDatas_m h1 _ hx; simp [isData] at this
      | fn b => have := isDatas_m h1 _ hx; simp [isData] at this
/-- sorted(xs), xs a list of data -/
def rSortD (g : G) (K : PySem.W.Frag) : List V → Hp → VK → Prop := fun vs H Q => ∃ (a : Addr) (xs : List V) (ds : List D) (μ : List Addr), vs = [V.ref a] ∧ SqL K H a xs ∧ RVs g μ μ H ds xs ∧ sortOk ds = true ∧
  ∀ ys p, RVs g μ μ H (sortD ds) ys → H p = none → Q (.ref p) (upd H p (.lst ys))
theorem cr_sortD {X : Cx} {g : G} (hK : g.K = X.K) (hu : X.A.units + 128 < cLine) : CallR X (.builtin "sorted") (rSortD g X.K) := by
  intro pins s σ H vs us Q I r h
  obtain ⟨a, xs, ds, μ, rfl, hs, rd, ok, q⟩ := h
  obtain ⟨its, rv, hl, hz⟩ := I.list hs
  obtain ⟨u, rfl, ru⟩ := vals1 r
  obtain rfl : u = Value.ref a := ru
  obtain ⟨k1, k2, k3, k4, k5⟩ := sortOk_parts ok
  have e := each_of rd rv
  have er : PySem.W.EachIs (fun u d => ∃ as, Reads s.heap u (toPy d) as) its ds := each_mem e fun d hd u ⟨v, r1, r2⟩ => by
    have := r1.dp (isDatas_m k1 d hd)
    rw [hK] at this
    exact Dp.reads I (toPy d) v u this r2
  refine PySem.W.sorted_data hl.isList e er k2 k3 (by rw [← big_eq]; exact k5) (fun d hd => by have := k4 d hd; omega) fun out hlen hout => ?_
  obtain ⟨ys, ry, vy⟩ := of_each hout
  obtain ⟨n, hn⟩ := sortedAll_at s.heap its out.toArray
  refine ⟨.ref (s.heap.objs.size + 1), upd H (s.heap.objs.size + 1) (.lst ys), I.laid (t' := s.toks) (fun b o hb => sortedAll_old hb) (Nat.le_succ _) ⟨?_, out, n, vy, ?_⟩, rfl, q ys _ ry (I.hok.fresh (Nat.le_succ _))⟩
  · show ys.length ≤ sizeLine
    rw [vy.length, hlen, ← big_eq]; exact k5
  · rw [hn]
end Fw

/-! ## Fs2 -/
set_option Elab.async false
set_option linter.all false
set_option maxRecDepth 100000
set_option maxHeartbeats 4000000
/-! sorted(d.items()). -/
namespace Fw
open PySem PySem.Spec PyProof.Rows L2
theorem keyV_rv {g : G} {μ α : List Addr} {H : Hp} (k : L2.Key) : RV g μ α H (keyV k) (kV k) := by
  cases k with
  | inl i => exact .int i
  | inr x => exact .str x
theorem RKs.at {g : G} {μ α : List Addr} {H : Hp} : ∀ {r : List (Key × D)} {r' : List (Key × V)}, RKs g μ α H r r' → ∀ {j : Nat} {kd : Key × D}, r[j]? = some kd → ∃ v, r'[j]? = some (kd.1, v) ∧ RV g μ α H kd.2 v
  | _, _, .nil, j, kd, h => by simp at h
  | _, _, .cons r rs, 0, kd, h => by simp at h; subst h; exact ⟨_, rfl, r⟩
  | _, _, .cons r rs, j + 1, kd, h => RKs.at rs (j := j) (by simpa using h)
theorem RKs.len {g : G} {μ α : List Addr} {H : Hp} : ∀ {r : List (Key × D)} {r' : List (Key × V)}, RKs g μ α H r r' → r.length = r'.length
  | _, _, .nil => rfl
  | _, _, .cons _ rs => by simp [RKs.len rs]
theorem pairs_at {K : Type} [DecidableEq K] {prog : Program} {w : World} {knd : PySem.KeyKind prog w K} : ∀ {es : List DictEntry} {kvs : List (K × Value)}, Pairs knd es kvs → ∀ {j : Nat} {e : DictEntry}, es[j]? = some e → ∃ kv, kvs[j]? = some kv ∧ knd.is kv.1 e.key = true ∧ e.val = kv.2
  | _, _, .nil, j, e, h => by simp at h
  | _, _, .cons h1 h2 t, 0, e, h => by simp at h; subst h; exact ⟨_, rfl, h1, h2⟩
  | _, _, .cons h1 h2 t, j + 1, e, h => by
    obtain ⟨kv, a, b⟩ := pairs_at t (j := j) (by simpa using h)
    exact ⟨kv, by simpa using a, b⟩
theorem pairs_len {K : Type} [DecidableEq K] {prog : Program} {w : World} {knd : PySem.KeyKind prog w K} : ∀ {es : List DictEntry} {kvs : List (K × Value)}, Pairs knd es kvs → es.length = kvs.length
  | _, _, .nil => rfl
  | _, _, .cons _ _ t => by simp [pairs_len t]
theorem each_ix {α β : Type} {R : α → β → Prop} : ∀ {as : List α} {bs : List β}, as.length = bs.length → (∀ (j : Nat) (a : α) (b : β), as[j]? = some a → bs[j]? = some b → R a b) → PySem.W.EachIs R as bs
  | [], [], _, _ => .nil
  | [], _ :: _, h, _ => by simp at h
  | _ :: _, [], h, _ => by simp at h
  | a :: as, b :: bs, h, f => .cons (f 0 a b rfl rfl) (each_ix (by simpa using h) fun (j : Nat) a b h1 h2 => f (j + 1) a b (by simpa using h1) (by simpa using h2))
open L2.DX (itemsO itemsO_ok)
section
variable {X : Cx} {g : G}
def rItemsK : V → List V → Hp → VK → Prop := fun x xs H Q => ∃ (a : Addr) (kvs : List (L2.Key × V)), x = .ref a ∧ xs = [] ∧ H a = some (.dK kvs) ∧ ∀ p, H p = none → Q (.ref p) (upd H p (itemsO p a))
theorem mt_itemsK : MtR X "dict.items" rItemsK := by
  intro pins s σ H x xs v us Q I rx rxs h
  obtain ⟨a, kvs, rfl, rfl, ha, q⟩ := h
  cases rx
  cases rxs
  obtain ⟨z, hd, vs, kv, o, es, ep, ho, hx, hdat, _⟩ := dk_of I.hok ha
  refine DT.callItems (es := es) (ep := ep) hd ⟨o, ho, hx, hdat⟩ ?_
  have hf : H s.heap.objs.size = none := I.hok.fresh (Nat.le_refl _)
  exact ⟨.ref s.heap.objs.size, upd H s.heap.objs.size (itemsO s.heap.objs.size a), I.laid (t' := s.toks) (fun b u e => Heap.get?_push_of_some _ e) (Nat.le_refl _) (itemsO_ok (Heap.get?_push_size _ rfl)), rfl, q _ hf⟩
/-- sorted of the items of a dict -/
def rSI (g : G) : List V → Hp → VK → Prop := fun xs H Q => ∃ (p d : Addr) (kvs2 : List (L2.Key × V)) (kvs : List (L2.Key × D)) (μ : List Addr), xs = [.ref p] ∧ H p = some (itemsO p d) ∧ H d = some (.dK kvs2) ∧ RKs g μ μ H kvs kvs2 ∧ (∀ q ∈ μ, H q ≠ none) ∧ sortOk (itemsD kvs) = true ∧
  ∀ (H' : Hp) (l : Addr) (ys : List V), (∀ b o, H b = some o → H' b = some o) → H l = none → H' l = some (.lst ys) → RVs g μ (l :: μ) H' (sortD (itemsD kvs)) ys → Q (.ref l) H'
theorem cr_sitems (hK : g.K = X.K) (hc : X.calm = true) (hu : X.A.units + 128 < cLine) : CallR X (.builtin "sorted") (rSI g) := by
  intro pins s σ H xs us Q I r h
  obtain ⟨p, d, kvs2, kvs, μ, rfl, hp, hd, rk, hμ, ok, q⟩ := h
  obtain rfl := Vals.ref1 r
  have view : s.heap.IsItemsView p d := (show ObjOk X.prog X.w H s.heap p (itemsO p d) from I.hok p _ hp).1
  obtain ⟨z, hds, vs, kv, o, es, ep, ho, hx, hdat, hes, hpr, hn⟩ := dk_of I.hok hd
  have hh : X.A.handled = none := I.ok.hd hc
  have l0 : kvs.length = kvs2.length := rk.len
  have l1 : kvs2.length = vs.length := Paired.length kv
  have l2 : es.size = vs.length := by have := pairs_len hpr; rwa [Array.length_toList] at this
  obtain ⟨k1, k2, k3, k4, k5⟩ := sortOk_parts ok
  refine DT.sortedI (es := es) (ep := ep) hh view ⟨o, ho, hx, hdat⟩ (by omega) fun h' tk as hk hlt hl hG => ?_
  have nd : as.Nodup := List.Pairwise.imp (fun h => Nat.ne_of_lt h) hG.rise
  -- the pairs that were made
  have pr : ∀ (j : Nat) (b : Addr), as[j]? = some b → ∃ (kd : L2.Key × D) (v : V) (ku vu : Value), kvs[j]? = some kd ∧ RV g μ μ H kd.2 v ∧ RelV (kV kd.1) ku ∧ RelV v vu ∧ kvs2[j]? = some (kd.1, v) ∧ h'.get? b = some { cls := .type "tuple", data := .seq #[ku, vu] } := by
    intro j b hj
    obtain ⟨en, he, hg⟩ := hG.pairs j b hj
    have he' : es.toList[j]? = some en := by rw [Array.getElem?_toList]; exact he
    obtain ⟨kx, e1, e2, e3⟩ := pairs_at hpr he'
    have hjk : j < kvs.length := by have := (List.getElem?_eq_some_iff.mp e1).1; omega
    obtain ⟨v, f1, f2⟩ := rk.at (List.getElem?_eq_getElem hjk)
    obtain ⟨qv, g1, g2, g3⟩ := LiI.paired_get kv f1
    rw [e1] at g1
    cases g1
    refine ⟨kvs[j], v, en.key, en.val, List.getElem?_eq_getElem hjk, f2, ?_, ?_, f1, hg⟩
    · rw [g2]; exact relV_key (show keyIs kx.1 en.key = true from e2)
    · rw [e3]; exact g3
  have hob : (h'.push { cls := .type "list", data := .seq (as.map Value.ref).toArray }).get? h'.objs.size = some (seqObj "list" (as.map Value.ref).toArray 0) := Heap.get?_push_size _ rfl
  have ne0 : ∀ b o, h'.get? b = some o → b ≠ h'.objs.size := fun b o e => Nat.ne_of_lt (Heap.lt_size e)
  have ka : ∀ b o, h'.get? b = some o → (h'.push { cls := .type "list", data := .seq (as.map Value.ref).toArray }).get? b = some o := fun b o e => Heap.get?_push_of_some _ e
  generalize hh2 : h'.push { cls := .type "list", data := .seq (as.map Value.ref).toArray } = h2 at hob ka ⊢
  have lk : (itemsD kvs).length = as.length := by unfold itemsD; rw [List.length_map]; omega
  have km : ∀ b o, h'.get? b = some o → (PySem.W.sortingHeap h2 h'.objs.size (as.map Value.ref)).get? b = some o := fun b o e => PySem.W.sortingHeap_old (ne0 b o e) (ka b o e)
  have er : PySem.W.EachIs (fun v d => ∃ ws, Reads (PySem.W.sortingHeap h2 h'.objs.size (as.map Value.ref)) v (toPy d) ws) (as.map Value.ref) (itemsD kvs) := by
    refine each_ix (by rw [List.length_map, lk]) fun j u dd h1 h3 => ?_
    rw [List.getElem?_map] at h1
    cases hj : as[j]? with
    | none => rw [hj] at h1; cases h1
    | some b =>
      rw [hj] at h1; cases h1
      obtain ⟨kd, v, ku, vu, a1, a2, a3, a4, a5, a6⟩ := pr j b hj
      have hdd : dd = .tup [keyV kd.1, kd.2] := by
        unfold itemsD at h3
        rw [List.getElem?_map, a1] at h3
        exact (Option.some.inj h3).symm
      have hdat : isData dd = true := isDatas_m k1 dd (List.mem_of_getElem? h3)
      subst hdd
      have hd2 : isData kd.2 = true := by
        unfold isData isDatas at hdat
        rw [Bool.and_eq_true] at hdat
        have := hdat.2
        unfold isDatas at this
        rw [Bool.and_eq_true] at this
        exact this.1
      have d1 := a2.dp hd2
      have d2 := (keyV_rv (g := g) (μ := μ) (α := μ) (H := H) kd.1).dp (by cases kd.1 <;> rfl)
      rw [hK] at d1 d2
      obtain ⟨w1, q1⟩ := Dp.reads I _ v vu d1 a4
      obtain ⟨w2, q2⟩ := Dp.reads I _ _ ku d2 a3
      have keep : ∀ b o, s.heap.get? b = some o → (PySem.W.sortingHeap h2 h'.objs.size (as.map Value.ref)).get? b = some o := fun b o e => km b o (hk b o e)
      refine ⟨_, Reads.tuple (km _ _ a6) rfl rfl (ReadsAll.cons (PyProof.Rows.Reads.keeps keep q2) (ReadsAll.cons (PyProof.Rows.Reads.keeps keep q1) .nil))⟩
  have S : PySem.W.SortsAt X.prog X.w X.A.in1.in1 { s with heap := PySem.W.sortingHeap h2 h'.objs.size (as.map Value.ref), toks := tk } (PySem.W.dataKind (PySem.W.sortingHeap h2 h'.objs.size (as.map Value.ref)) ((itemsD kvs).map toPy)) (as.map Value.ref) :=
    PySem.W.SortsAt.data (s := { s with heap := PySem.W.sortingHeap h2 h'.objs.size (as.map Value.ref), toks := tk }) (PySem.W.each_map (R := fun v d => ∃ ws, Reads _ v d ws) toPy er) k2 k3 (fun d hd => by
      obtain ⟨x, hx, rfl⟩ := List.mem_map.mp hd
      have := k4 x hx
      show X.A.units + 1 + 1 + _ < cLine
      omega)
  have eR : PySem.W.EachIs (fun u dd => ∃ (j : Nat) (b : Addr), as[j]? = some b ∧ u = Value.ref b ∧ (itemsD kvs)[j]? = some dd) (as.map Value.ref) (itemsD kvs) :=
    each_ix (by rw [List.length_map, lk]) fun j u dd h1 h3 => by
      rw [List.getElem?_map] at h1
      cases hj : as[j]? with
      | none => rw [hj] at h1; cases h1
      | some b => rw [hj] at h1; cases h1; exact ⟨j, b, hj, rfl, h3⟩
  have hout := PySem.W.sortVals_data false eR er k2
  have lout : (PySem.W.sortVals (PySem.W.dataKind (PySem.W.sortingHeap h2 h'.objs.size (as.map Value.ref)) ((itemsD kvs).map toPy)) false (as.map Value.ref) (as.map Value.ref)).length = as.length := by
    rw [PySem.W.sortVals_length false rfl, List.length_map]
  refine wpAny_call_entry PyProof.Rows.slot_list_sort ⟨_, hob, rfl⟩ PyProof.Rows.entry_list_sort
    (PySem.W.list_sort_vals (s := { s with heap := h2, toks := tk }) hob S (by rw [List.length_map]; rw [← big_eq]; omega) ⟨.none, rfl, ?_⟩) (PyProof.Rows.args_list_sort _)
  generalize PySem.W.sortVals (PySem.W.dataKind (PySem.W.sortingHeap h2 h'.objs.size (as.map Value.ref)) ((itemsD kvs).map toPy)) false (as.map Value.ref) (as.map Value.ref) = out at hout lout ⊢
  show EP X pins σ Q (.ref h'.objs.size) { s with heap := sortedHeap h2 h'.objs.size (as.map Value.ref) out.toArray, toks := tk }
  have kF : ∀ b o, b ≠ h'.objs.size → h2.get? b = some o → (sortedHeap h2 h'.objs.size (as.map Value.ref) out.toArray).get? b = some o := fun b o hb e => (PyProof.Rows.sortedHeap_old hb (Heap.lt_size e)).trans e
  have kS : ∀ b o, s.heap.get? b = some o → (sortedHeap h2 h'.objs.size (as.map Value.ref) out.toArray).get? b = some o := fun b o e => kF b o (ne0 _ _ (hk b o e)) (ka b o (hk b o e))
  obtain ⟨eF, heF⟩ := PyProof.Rows.sortedHeap_at (vs := as.map Value.ref) (out := out.toArray) hob
  have I1 : Inv X pins σ H { s with heap := sortedHeap h2 h'.objs.size (as.map Value.ref) out.toArray, toks := tk } := I.kept (t' := tk) kS
  have hn0 : H h'.objs.size = none := I.hok.fresh (Nat.le_of_lt hlt)
  have hlen : out.length ≤ sizeLine := by rw [lout]; omega
  obtain ⟨ys, vy, ry⟩ : ∃ ys : List V, Vals ys out ∧ PySem.W.EachIs (fun v dd => ∃ (j : Nat) (b : Addr), as[j]? = some b ∧ v = V.ref b ∧ (itemsD kvs)[j]? = some dd) ys ((itemsD kvs).mergeSort (PySem.W.dataLe false toPy)) := by
    clear heF kF kS I1 hlen lout S eR er
    generalize (itemsD kvs).mergeSort (PySem.W.dataLe false toPy) = L at hout
    induction hout with
    | nil => exact ⟨[], .nil, .nil⟩
    | cons h t ih =>
      obtain ⟨ys, a1, a2⟩ := ih
      obtain ⟨j, b, e1, e2, e3⟩ := h
      exact ⟨.ref b :: ys, .cons e2 a1, .cons ⟨j, b, e1, rfl, e3⟩ a2⟩
  have I2 : Inv X pins σ (upd H h'.objs.size (.lst ys)) { s with heap := sortedHeap h2 h'.objs.size (as.map Value.ref) out.toArray, toks := tk } :=
    I1.take (h' := sortedHeap h2 h'.objs.size (as.map Value.ref) out.toArray) (t' := tk) (fun b ob _ e => e) (I.fpOk (Nat.le_of_lt hlt) hn0) ⟨by rw [vy.length]; exact hlen, out, eF, vy, heF⟩
  obtain ⟨H2, I3, gr0, qt⟩ := L2.DX.takeT (P := fun b vs => ∃ (j : Nat) (kd : L2.Key × D) (v : V), as[j]? = some b ∧ kvs[j]? = some kd ∧ RV g μ μ H kd.2 v ∧ vs = [kV kd.1, v]) I as _ I2 nd fun b hb => by
    obtain ⟨j, hj⟩ := List.mem_iff_getElem?.mp hb
    obtain ⟨kd, v, ku, vu, a1, a2, a3, a4, a5, a6⟩ := pr j b hj
    have hbl : s.heap.objs.size ≤ b := Nat.le_of_lt (hG.above b hb)
    refine ⟨hbl, ?_, [kV kd.1, v], ⟨j, kd, v, hj, a1, a2, rfl⟩, fun H3 => ⟨(by rw [sizeLine_eq]; show 2 ≤ 16777216; omega), [ku, vu], .cons a3 (.cons a4 .nil), ⟨_, kF _ _ (ne0 _ _ a6) (ka _ _ a6), rfl, 0, rfl⟩⟩⟩
    rw [upd_ne (ne0 _ _ a6)]
    exact I.hok.fresh hbl
  have gr : ∀ b o, H b = some o → H2 b = some o := fun b o e => gr0 b o (by rw [upd_ne (fun z => by rw [z, hn0] at e; cases e)]; exact e)
  have stp : Step μ H μ (h'.objs.size :: μ) H2 := ⟨⟨[], by simp⟩, fun p hp => List.mem_cons_of_mem _ hp, fun p hp => by
    rcases List.mem_cons.mp hp with rfl | hp
    · exact .inr hn0
    · exact .inl hp, fun p o e _ => gr p o e, fun p o e => by rw [gr p o e]; simp⟩
  refine ⟨.ref h'.objs.size, H2, I3, rfl, q H2 h'.objs.size ys gr hn0 (gr0 _ _ upd_same) ?_⟩
  show RVs g μ (h'.objs.size :: μ) H2 ((itemsD kvs).mergeSort (PySem.W.dataLe false toPy)) ys
  clear vy I2 gr0
  generalize (itemsD kvs).mergeSort (PySem.W.dataLe false toPy) = L at ry
  induction ry with
  | nil => exact .nil
  | cons h t ih =>
    refine .cons ?_ ih
    obtain ⟨j, b, e1, rfl, e3⟩ := h
    obtain ⟨vs', ⟨j2, kd, v, f1, f2, f3, f4⟩, f5⟩ := qt b (List.mem_of_getElem? e1)
    have eij : j = j2 := (List.getElem?_inj (List.getElem?_eq_some_iff.mp e1).1 nd).mp (e1.trans f1.symm)
    subst eij
    have hdd := e3
    unfold itemsD at hdd
    rw [List.getElem?_map, f2] at hdd
    cases hdd
    subst f4
    have hb0 : H b = none := I.hok.fresh (Nat.le_of_lt (hG.above b (List.mem_of_getElem? e1)))
    refine .tup (.inl ⟨.inl f5, fun hm => ?_⟩) (.cons (keyV_rv _) (.cons (f3.step stp) .nil))
    rcases List.mem_cons.mp hm with e | hm
    · have := List.mem_of_getElem? e1
      obtain ⟨kd', v', ku, vu, _, _, _, _, _, a6⟩ := pr j b e1
      exact ne0 _ _ a6 e
    · exact hμ b hm hb0
end
end Fw

/-! ## Fw4 -/
set_option Elab.async false
set_option linter.all false
set_option maxRecDepth 100000
set_option maxHeartbeats 4000000
/-! The operations of the model do what the small language's do. -/
namespace Fw
open PySem PySem.Spec PyProof.Rows L2

/-! ### a tuple so often -/
theorem rep_tuple_run (l : Addr) (items : Array Value) (n : Nat) (dd : Option Addr) (sl : Array (Option Value)) (x : Int) (u : Tok) (c0 : (decide (x < -(2 ^ 63)) || decide (x ≥ 2 ^ 63)) = false) (c1 : (items.isEmpty || x == 1) = true) :
    Meets (Builtin.«tuple.__mul__» ⟨[.ref l, .int x u], []⟩) (fun _ R s => s.heap.get? l = some { cls := .type "tuple", dict := dd, data := .seq items n, slots := sl } ∧ R (.ok (.ret (Value.ref l))) s) :=
  .of_wp fun prog w A R s h => by
    obtain ⟨hp, g, d, tk, os⟩ := s
    obtain ⟨hl, h⟩ := h
    have f1 := AutoSeq1.idx_int
    wp_walk using wpAny_loadPart' hl
    repeat (first
      | (refine wpAny_ite_false (decide_eq_false (by rw [c0]; exact Bool.false_ne_true)) ?_; wp_walk using wpAny_loadPart' hl)
      | (refine wpAny_ite_true (decide_eq_true (by rw [c1])) ?_; wp_walk using wpAny_loadPart' hl))
    exact ⟨_, rfl, h⟩
theorem rep_tuple_nil (l : Addr) (items : Array Value) (n : Nat) (dd : Option Addr) (sl : Array (Option Value)) (x : Int) (u : Tok) (c0 : (decide (x < -(2 ^ 63)) || decide (x ≥ 2 ^ 63)) = false) (c1 : (items.isEmpty || x == 1) = false) (c2 : (decide (x ≤ 0) || items.isEmpty) = true) :
    Meets (Builtin.«tuple.__mul__» ⟨[.ref l, .int x u], []⟩) (fun _ R s => s.heap.get? l = some { cls := .type "tuple", dict := dd, data := .seq items n, slots := sl } ∧
      R (.ok (.ret (Value.ref s.heap.objs.size))) { s with heap := s.heap.push { cls := Value.type "tuple", data := Data.seq #[] }, toks := s.toks }) :=
  .of_wp fun prog w A R s h => by
    obtain ⟨hp, g, d, tk, os⟩ := s
    obtain ⟨hl, h⟩ := h
    have f1 := AutoSeq1.idx_int
    wp_walk using wpAny_loadPart' hl
    repeat (first
      | (refine wpAny_ite_false (decide_eq_false (by rw [c0]; exact Bool.false_ne_true)) ?_; wp_walk using wpAny_loadPart' hl)
      | (refine wpAny_ite_false (decide_eq_false (by rw [c1]; exact Bool.false_ne_true)) ?_; wp_walk using wpAny_loadPart' hl)
      | (refine wpAny_ite_true (decide_eq_true (by rw [c2])) ?_; wp_walk using wpAny_loadPart' hl))
    exact ⟨_, rfl, h⟩
def rRepA (K : PySem.W.Frag) : R2 := fun x y H Q => ∃ l k xs, x = .ref l ∧ y = .int k ∧ SqT K H l xs ∧ -1000000 ≤ k ∧ k ≤ 1000000 ∧ xs.length * k.toNat ≤ 1000000 ∧
  ((List.replicate k.toNat xs).flatten = xs → Q (.ref l) H) ∧ ∀ p, H p = none → Q (.ref p) (upd H p (.tup (List.replicate k.toNat xs).flatten))
section
variable {X : Cx}
theorem op_repA : OpR X (binaryOp .Mult) (rRepA X.K) := by
  intro pins s σ H x y v u Q I rx ry h
  obtain ⟨l, k, xs, rfl, rfl, hT, k1, k2, hz, qs, qn⟩ := h
  cases rx
  obtain ⟨t, rfl⟩ := ry
  obtain ⟨its, r, ⟨⟨cls, dd, data, sl⟩, ho, hc, n, hd⟩, hs⟩ := I.tuple hT
  simp only at hc hd
  subst hc hd
  have hle : its.length = xs.length := r.length.symm
  have c0 : (decide (k < -(2 ^ 63)) || decide (k ≥ 2 ^ 63)) = false := by
    rw [decide_eq_false (by omega), decide_eq_false (by omega)] <;> rfl
  have emp : its.toArray.isEmpty = true → xs = [] := fun e => by
    cases its with
    | nil => cases xs with
      | nil => rfl
      | cons _ _ => simp at hle
    | cons a b => simp at e
  have road : ∀ {Q' : Value → Shared → Prop}, wpAny (model X.prog X.w) X.A (call (.builtin "tuple.__mul__") [.ref l, .int k t]) Q' X.xe s → wpAny (model X.prog X.w) X.A (binaryOp .Mult (.ref l) (.int k t)) Q' X.xe s := fun hq =>
    wpAny_binaryOp_repeat_ref (T := "tuple") (U := "int") (by decide) ⟨_, ho, rfl⟩ (fun s' => typeIs_int s' k t) noFill_tuple_mul F.fills_int_mul F.slot_int_rmul repeat_tuple F.slot_int_index.lookup
      (call_meets F.slot_int_rmul (typeIs_int s k t) F.entry_int_rmul (F.args_int_rmul_2 _ _) (int_rmul_tuple k t l its.toArray n dd sl) ⟨ho, rfl, ⟨_, ho, rfl⟩, hq⟩)
  refine road ?_
  by_cases c1 : (its.toArray.isEmpty || k == 1) = true
  · refine call_meets F.slot_tuple_mul ⟨_, ho, rfl⟩ F.entry_tuple_mul (F.args_tuple_mul_2 _ _) (rep_tuple_run l its.toArray n dd sl k t c0 c1) ⟨ho, .ref l, H, I, rfl, qs ?_⟩
    rcases Bool.or_eq_true_iff.mp c1 with e | e
    · rw [emp e]; simp
    · have : k = 1 := by simpa using e
      subst this; simp
  · have c1' : (its.toArray.isEmpty || k == 1) = false := by simpa using c1
    by_cases c2 : (decide (k ≤ 0) || its.toArray.isEmpty) = true
    · refine call_meets F.slot_tuple_mul ⟨_, ho, rfl⟩ F.entry_tuple_mul (F.args_tuple_mul_2 _ _) (rep_tuple_nil l its.toArray n dd sl k t c0 c1' c2) ⟨ho, ?_⟩
      have e0 : (List.replicate k.toNat xs).flatten = [] := by
        rcases Bool.or_eq_true_iff.mp c2 with e | e
        · have : k ≤ 0 := by simpa using e
          have : k.toNat = 0 := by omega
          rw [this]; rfl
        · rw [emp e]; simp
      have q := qn s.heap.objs.size (I.hok.fresh (Nat.le_refl _))
      rw [e0] at q
      exact ⟨.ref s.heap.objs.size, _, I.laid (t' := s.toks) (o := .tup []) (fun b ob q => Heap.get?_push_of_some _ q) (Nat.le_refl _) ⟨Nat.zero_le _, [], .nil, IsTup.new _ _⟩, rfl, q⟩
    · have c2' : (decide (k ≤ 0) || its.toArray.isEmpty) = false := by simpa using c2
      have hsz0 : its.toArray.size = xs.length := by rw [List.size_toArray, hle]
      have kp : 0 < k := by
        have : ¬ (k ≤ 0) := by simpa using (Bool.or_eq_false_iff.mp c2').1
        omega
      have hm : ((its.toArray.size : Nat) : Int) * k ≤ 1000000 := by
        rw [hsz0]
        have e : ((xs.length * k.toNat : Nat) : Int) = (xs.length : Int) * k := by rw [Int.natCast_mul, Int.toNat_of_nonneg (by omega)]
        omega
      have flen : (List.replicate k.toNat its).flatten.length ≤ sizeLine := by
        rw [PyProof.Rows.lm_len_rep_flat, hle, sizeLine_eq, Nat.mul_comm]
        omega
      have c4 : Builtin.Tuple.tupleTooMany (((its.toArray.size : Nat) : Int) * k) = false := by
        unfold Builtin.Tuple.tupleTooMany
        rw [sizeLine_eq]
        exact decide_eq_false (by omega)
      refine call_meets F.slot_tuple_mul ⟨_, ho, rfl⟩ F.entry_tuple_mul (F.args_tuple_mul_2 _ _) (tuple_mulW l its.toArray n dd sl k t c0 c1' c2' (by omega) c4 (by rw [size_rep, List.size_toArray]; exact flen)) ⟨ho, ?_⟩
      rw [size_rep]
      refine ⟨.ref s.heap.objs.size, _, I.laid (t' := s.toks) (o := .tup (List.replicate k.toNat xs).flatten) (fun b ob q => Heap.get?_push_of_some _ q) (Nat.le_refl _) ?_, rfl, qn _ (I.hok.fresh (Nat.le_refl _))⟩
      exact ⟨by rw [PyProof.Rows.lm_len_rep_flat, sizeLine_eq, Nat.mul_comm]; omega, _, r.rep k.toNat, IsTup.new _ _⟩
end

/-! ### two places -/
def rBin (g : G) (o : Operator) : R2 := fun x y H Q => ∃ d e μ st Wx, RV g μ μ H d x ∧ RV g μ μ H e y ∧ RS g μ μ H st ∧ PostR g Wx μ H (opBin o d e st) (relW g) Q
theorem opr_bin {X : Cx} {g : G} (hK : g.K = X.K) (o : Operator) : OpR X (binaryOp o) (rBin g o) := by
  intro pins s σ H x y v u Q I rx ry h
  obtain ⟨d, e, μ, st, Wx, rd, re, hs, post⟩ := h
  unfold opBin at post
  split at post
  · cases rd; cases re; exact op_add pins s σ H _ _ v u Q I rx ry ⟨_, _, rfl, rfl, post.v hs (.int _)⟩
  · cases rd with
    | tup h1 r1 =>
      cases re with
      | tup h2 r2 =>
        split at post
        · rename_i hl
          rw [r1.length, r2.length, big_eq] at hl
          have t1 := h1.sq; have t2 := h2.sq
          rw [hK] at t1 t2
          refine op_catA pins s σ H _ _ v u Q I rx ry ⟨_, _, _, _, rfl, rfl, t1, t2, hl, fun ex => ?_, fun _ ey => ?_, fun _ _ => post.newT hs (r1.append r2)⟩
          · have l1 := r1.length
            subst ex
            have e0 := List.eq_nil_of_length_eq_zero l1
            subst e0
            exact post.v hs (.tup h2 (by simpa using r2))
          · have l1 := r2.length
            subst ey
            have e0 := List.eq_nil_of_length_eq_zero l1
            subst e0
            exact post.v hs (.tup h1 (by simpa using r1))
        · exact post.elim
  · cases rd; cases re
    split at post
    · rename_i hl
      rw [big_eq] at hl
      exact op_add_str pins s σ H _ _ v u Q I rx ry ⟨_, _, rfl, rfl, hl, post.v hs (.str _)⟩
    · exact post.elim
  · split at post
    · rename_i e1 e2
      split at post
      · rename_i hl
        obtain ⟨p, xs, rfl, hp, r1⟩ := seqL_rel hs rd e1
        obtain ⟨q, ys, rfl, hq, r2⟩ := seqL_rel hs re e2
        rw [r1.length, r2.length, big_eq] at hl
        exact op_cat pins s σ H _ _ v u Q I rx ry ⟨_, _, _, _, rfl, rfl, hp, hq, hl, post.newL hs (r1.append r2)⟩
      · exact post.elim
    · exact post.elim
  · cases rd; cases re; exact op_sub pins s σ H _ _ v u Q I rx ry ⟨_, _, rfl, rfl, post.v hs (.int _)⟩
  · cases rd; cases re
    split at post
    · rename_i hc
      exact op_mul pins s σ H _ _ v u Q I rx ry ⟨_, _, rfl, rfl, by simp only [mulOk, decide_eq_true_eq] at hc; exact hc, post.v hs (.int _)⟩
    · exact post.elim
  · cases rd with
    | tup h1 r1 =>
      cases re
      split at post
      · rename_i hc
        obtain ⟨c1, c2, c3⟩ := hc
        have t1 := h1.sq
        rw [hK] at t1
        refine op_repA pins s σ H _ _ v u Q I rx ry ⟨_, _, _, rfl, rfl, t1, c2, c1, by rw [← r1.length]; exact c3, fun ee => ?_, post.newT hs (r1.rep _)⟩
        refine post.v hs (.tup h1 ?_)
        have := r1.rep (Int.toNat ‹Int›)
        rw [ee] at this
        exact this
      · exact post.elim
  · split at post
    · rename_i e1
      split at post
      · rename_i hc
        obtain ⟨c1, c2, c3⟩ := hc
        obtain ⟨p, xs, rfl, hp, r1⟩ := seqL_rel hs rd e1
        cases re
        exact op_rep pins s σ H _ _ v u Q I rx ry ⟨_, _, _, rfl, rfl, hp, by omega, by omega, by rw [← r1.length, sizeLine_eq]; omega, post.newL hs (r1.rep _)⟩
      · exact post.elim
    · exact post.elim
  · cases rd; cases re
    split at post
    · rename_i hc
      exact op_fdiv pins s σ H _ _ v u Q I rx ry ⟨_, _, rfl, rfl, hc, post.v hs (.int _)⟩
    · exact post.elim
  · cases rd; cases re
    split at post
    · rename_i hc
      exact op_mod pins s σ H _ _ v u Q I rx ry ⟨_, _, rfl, rfl, hc, post.v hs (.int _)⟩
    · exact post.elim
  · cases rd; cases re
    split at post
    · rename_i hc
      exact op_pow pins s σ H _ _ v u Q I rx ry ⟨_, _, rfl, rfl, hc, post.v hs (.int _)⟩
    · exact post.elim
  · cases rd; cases re
    split at post
    · rename_i hc
      exact op_shlW pins s σ H _ _ v u Q I rx ry ⟨_, _, rfl, rfl, hc, post.v hs (.int _)⟩
    · exact post.elim
  · cases rd; cases re
    split at post
    · rename_i hc
      exact op_shr pins s σ H _ _ v u Q I rx ry ⟨_, _, rfl, rfl, hc, post.v hs (.int _)⟩
    · exact post.elim
  · cases rd; cases re; exact op_and pins s σ H _ _ v u Q I rx ry ⟨_, _, rfl, rfl, post.v hs (.int _)⟩
  · cases rd; cases re; exact op_or pins s σ H _ _ v u Q I rx ry ⟨_, _, rfl, rfl, post.v hs (.int _)⟩
  · cases rd; cases re; exact op_xor pins s σ H _ _ v u Q I rx ry ⟨_, _, rfl, rfl, post.v hs (.int _)⟩
  · exact post.elim

/-! ### comparisons -/
theorem RVs.flat {g : G} {μ α : List Addr} {H : Hp} {d : D} {v : V} (r : RV g μ α H d v) (e : isFlat d = true) : flatV v = true := by
  cases r <;> first | rfl | simp [isFlat] at e
theorem flat_eqV {g : G} {μ α : List Addr} {H : Hp} {d e : D} {v u : V} (r : RV g μ α H d v) (q : RV g μ α H e u) (fd : isFlat d = true) (fe : isFlat e = true) : eqV v u = eqD d e := by
  cases r <;> (first | (simp [isFlat] at fd; done) | skip) <;> cases q <;> (first | (simp [isFlat] at fe; done) | skip) <;> (unfold eqD; simp only [toPy]; unfold PyData.eqv; first | rfl | trace_state)

def rCmp (g : G) (o : CmpOp) : R2 := fun x y H Q => ∃ d e μ st Wx, RV g μ μ H d x ∧ RV g μ μ H e y ∧ RS g μ μ H st ∧ PostR g Wx μ H (opCmp o d e st) (relD g) Q
theorem RV.is_non {g : G} {μ α : List Addr} {H : Hp} {d : D} {v : V} (r : RV g μ α H d v) : (d = .non ∧ v = .non) ∨ (d ≠ .non ∧ v ≠ .non) := by
  cases r <;> first | (left; exact ⟨rfl, rfl⟩) | (right; exact ⟨by simp, by simp⟩)
theorem any_flat {g : G} {μ α : List Addr} {H : Hp} {d : D} {v : V} (r : RV g μ α H d v) (fd : isFlat d = true) : ∀ {ds : List D} {vs : List V}, RVs g μ α H ds vs → ds.all isFlat = true → inV v vs = ds.any fun e => eqD e d
  | _, _, .nil, _ => rfl
  | _, _, .cons h q, e => by
    simp only [List.all_cons, Bool.and_eq_true] at e
    have ih := any_flat r fd q e.2
    unfold inV at ih ⊢
    rw [List.any_cons, List.any_cons, ih, flat_eqV h r e.1 fd]
theorem all_flat {g : G} {μ α : List Addr} {H : Hp} : ∀ {ds : List D} {vs : List V}, RVs g μ α H ds vs → ds.all isFlat = true → vs.all flatV = true
  | _, _, .nil, _ => rfl
  | _, _, .cons h q, e => by
    simp only [List.all_cons, Bool.and_eq_true] at e ⊢
    exact ⟨RVs.flat h e.1, all_flat q e.2⟩
theorem ltOk_parts {x y : D} (h : ltOk x y = true) : isData x = true ∧ isData y = true ∧ PySem.W.alike (toPy x) (toPy y) = true ∧ toPy x ≠ .none ∧ (toPy x).depth ≤ 40 := by
  unfold ltOk at h
  simp only [Bool.and_eq_true, decide_eq_true_eq] at h
  obtain ⟨⟨⟨⟨h1, h2⟩, h3⟩, h4⟩, h5⟩ := h
  refine ⟨h1, h2, h3, ?_, h5⟩
  cases x with
  | non => cases h4
  | scr _ => simp [isData] at h1
  | ref _ => simp [isData] at h1
  | fn _ => simp [isData] at h1
  | _ => simp [toPy]
theorem inOk_parts {x : D} {ds : List D} (h : inOk x ds = true) : isData x = true ∧ isDatas ds = true ∧ (toPy x).plain = true ∧ PyData.plainAll (toPys ds) = true ∧ (toPy x).depth ≤ 40 := by
  unfold inOk at h
  simp only [Bool.and_eq_true, decide_eq_true_eq] at h
  obtain ⟨⟨⟨⟨h1, h2⟩, h3⟩, h4⟩, h5⟩ := h
  exact ⟨h1, h2, h3, h4, h5⟩
theorem look_seq {st : Store} {d : D} {ds : List D} (h : isDatas ds = true) (e : seqD st d = some ds) : (toPy (look st d) = .list (toPys ds) ∨ toPy (look st d) = .tuple (toPys ds)) ∧ isData (look st d) = true := by
  cases d with
  | tup es => cases e; exact ⟨.inr (by simp [look, toPy]), by simpa [look, isData] using h⟩
  | lst es => cases e; exact ⟨.inl (by simp [look, toPy]), by simpa [look, isData] using h⟩
  | ref n =>
    simp only [seqD, seqL] at e
    split at e
    · rename_i q
      cases e
      simp only [look, q]
      exact ⟨.inl (by simp [toPy]), by simpa [isData] using h⟩
    · cases e
  | _ => cases e
theorem any_toPys {x : D} : ∀ ds : List D, ((toPys ds).any fun z => PyData.eqv z (toPy x)) = ds.any fun d => eqD d x
  | [] => rfl
  | d :: ds => by simp only [toPys, List.any_cons, any_toPys ds]; rfl
theorem opr_cmp {X : Cx} {g : G} (hK : g.K = X.K) (hu : X.A.units + 64 < cLine) (o : CmpOp) : OpR X (compareOp o) (rCmp g o) := by
  intro pins s σ H x y v u Q I rx ry h
  obtain ⟨d, e, μ, st, Wx, rd, re, hs, post⟩ := h
  unfold opCmp at post
  split at post
  · split at post
    · rename_i hc
      simp only [shapedD, Bool.and_eq_true] at hc
      have p1 := look_dp hs rd hc.1.1
      have p2 := look_dp hs re hc.2.1
      rw [hK] at p1 p2
      exact op_eqD hu pins s σ H _ _ v u Q I rx ry ⟨_, _, p1, p2, hc.1.2, hc.2.2, post.d hs (.bl _)⟩
    · exact post.elim
  · split at post
    · rename_i hc
      simp only [shapedD, Bool.and_eq_true] at hc
      have p1 := look_dp hs rd hc.1.1
      have p2 := look_dp hs re hc.2.1
      rw [hK] at p1 p2
      exact op_neD hu pins s σ H _ _ v u Q I rx ry ⟨_, _, p1, p2, hc.1.2, hc.2.2, post.d hs (.bl _)⟩
    · exact post.elim
  · split at post
    · cases rd; cases re; exact op_lt pins s σ H _ _ v u Q I rx ry ⟨_, _, rfl, rfl, post.d hs (.bl _)⟩
    · split at post
      · rename_i hc
        obtain ⟨c1, c2, c3, c4, c5⟩ := ltOk_parts hc
        have p1 := rd.dp c1
        have p2 := re.dp c2
        rw [hK] at p1 p2
        exact op_ltD hu pins s σ H _ _ v u Q I rx ry ⟨_, _, p1, p2, c3, c4, c5, post.d hs (.bl _)⟩
      · exact post.elim
  · split at post
    · cases rd; cases re; exact op_le pins s σ H _ _ v u Q I rx ry ⟨_, _, rfl, rfl, post.d hs (.bl _)⟩
    · split at post
      · rename_i hc
        obtain ⟨c1, c2, c3, c4, c5⟩ := ltOk_parts hc
        have p1 := rd.dp c1
        have p2 := re.dp c2
        rw [hK] at p1 p2
        exact op_leD hu pins s σ H _ _ v u Q I rx ry ⟨_, _, p1, p2, c3, c4, c5, post.d hs (.bl _)⟩
      · exact post.elim
  · split at post
    · cases rd; cases re; exact op_gt pins s σ H _ _ v u Q I rx ry ⟨_, _, rfl, rfl, post.d hs (.bl _)⟩
    · split at post
      · rename_i hc
        obtain ⟨c1, c2, c3, c4, c5⟩ := ltOk_parts hc
        have p1 := rd.dp c1
        have p2 := re.dp c2
        rw [hK] at p1 p2
        exact op_gtD hu pins s σ H _ _ v u Q I rx ry ⟨_, _, p1, p2, c3, c4, c5, post.d hs (.bl _)⟩
      · exact post.elim
  · split at post
    · cases rd; cases re; exact op_ge pins s σ H _ _ v u Q I rx ry ⟨_, _, rfl, rfl, post.d hs (.bl _)⟩
    · split at post
      · rename_i hc
        obtain ⟨c1, c2, c3, c4, c5⟩ := ltOk_parts hc
        have p1 := rd.dp c1
        have p2 := re.dp c2
        rw [hK] at p1 p2
        exact op_geD hu pins s σ H _ _ v u Q I rx ry ⟨_, _, p1, p2, c3, c4, c5, post.d hs (.bl _)⟩
      · exact post.elim
  · split at post
    · cases re
      refine op_isN pins s σ H _ _ v u Q I rx ry ⟨rfl, ?_⟩
      rcases rd.is_non with ⟨rfl, rfl⟩ | ⟨n1, n2⟩
      · exact post.d hs (.bl _)
      · split at post
        · exact absurd rfl n1
        · rw [decide_eq_false n2]; exact post.d hs (.bl _)
    · exact post.elim
  · split at post
    · cases re
      refine op_notN pins s σ H _ _ v u Q I rx ry ⟨rfl, ?_⟩
      rcases rd.is_non with ⟨rfl, rfl⟩ | ⟨n1, n2⟩
      · exact post.d hs (.bl _)
      · split at post
        · exact absurd rfl n1
        · rw [decide_eq_false n2]; exact post.d hs (.bl _)
    · exact post.elim
  · split at post
    · rename_i e1
      split at post
      · rename_i hc
        simp only [Bool.and_eq_true] at hc
        obtain ⟨a, xs, rfl, hq, r1⟩ := seqD_rel hs re e1
        rw [hK] at hq
        refine op_in_seq pins s σ H _ _ v u Q I rx ry ⟨a, xs, rfl, hq, RVs.flat rd hc.1, all_flat r1 hc.2, ?_⟩
        rw [if_neg (by decide), any_flat rd hc.1 r1 hc.2]
        exact post.d hs (.bl _)
      · split at post
        · rename_i hc
          obtain ⟨c1, c2, c3, c4, c5⟩ := inOk_parts hc
          have p1 := rd.dp c1
          obtain ⟨hl, hd⟩ := look_seq c2 e1
          have p2 := look_dp hs re hd
          rw [hK] at p1 p2
          refine op_inD hu pins s σ H _ _ v u Q I rx ry ⟨_, _, _, p1, p2, hl, c3, c4, c5, ?_⟩
          rw [if_neg (by decide), any_toPys]
          exact post.d hs (.bl _)
        · exact post.elim
    · split at post
      · rename_i e1 e2
        obtain ⟨p, kvs2, rfl, _, hp, rk⟩ := dic_rel hs re e1
        refine op_in_dict (by omega) pins s σ H _ _ v u Q I rx ry ⟨p, kvs2, _, rfl, key_rel rd e2, hp, ?_⟩
        rcases rk.val _ with ⟨q1, q2⟩ | ⟨d, v, q1, q2, _⟩
        · rw [q1] at post; rw [q2]; exact post.d hs (.bl _)
        · rw [q1] at post; rw [q2]; exact post.d hs (.bl _)
      · exact post.elim
  · split at post
    · rename_i e1
      split at post
      · rename_i hc
        simp only [Bool.and_eq_true] at hc
        obtain ⟨a, xs, rfl, hq, r1⟩ := seqD_rel hs re e1
        rw [hK] at hq
        refine op_notIn_seq pins s σ H _ _ v u Q I rx ry ⟨a, xs, rfl, hq, RVs.flat rd hc.1, all_flat r1 hc.2, ?_⟩
        rw [if_pos rfl, any_flat rd hc.1 r1 hc.2]
        exact post.d hs (.bl _)
      · split at post
        · rename_i hc
          obtain ⟨c1, c2, c3, c4, c5⟩ := inOk_parts hc
          have p1 := rd.dp c1
          obtain ⟨hl, hd⟩ := look_seq c2 e1
          have p2 := look_dp hs re hd
          rw [hK] at p1 p2
          refine op_notInD hu pins s σ H _ _ v u Q I rx ry ⟨_, _, _, p1, p2, hl, c3, c4, c5, ?_⟩
          rw [if_pos rfl, any_toPys]
          exact post.d hs (.bl _)
        · exact post.elim
    · split at post
      · rename_i e1 e2
        obtain ⟨p, kvs2, rfl, _, hp, rk⟩ := dic_rel hs re e1
        refine op_notIn_dict (by omega) pins s σ H _ _ v u Q I rx ry ⟨p, kvs2, _, rfl, key_rel rd e2, hp, ?_⟩
        rcases rk.val _ with ⟨q1, q2⟩ | ⟨d, v, q1, q2, _⟩
        · rw [q1] at post; rw [q2]; exact post.d hs (.bl _)
        · rw [q1] at post; rw [q2]; exact post.d hs (.bl _)
      · exact post.elim

/-! ### places -/
theorem atD_rel {g : G} {μ α : List Addr} {H : Hp} {ds : List D} {vs : List V} {i : Int} {d : D} (r : RVs g μ α H ds vs) (h : atD ds i = some d) : ∃ v, atI vs i = some v ∧ RV g μ α H d v := by
  have hl := r.length
  unfold atD at h
  unfold atI ixN
  split at h
  · rename_i h0
    obtain ⟨v, e, rv⟩ := r.get h
    obtain ⟨hlt, _⟩ := List.getElem?_eq_some_iff.mp e
    refine ⟨v, ?_, rv⟩
    rw [if_pos h0, if_pos (by omega)]
    exact e
  · split at h
    · rename_i h0 h1
      obtain ⟨v, e, rv⟩ := r.get h
      refine ⟨v, ?_, rv⟩
      rw [if_neg h0, if_pos (by omega)]
      rw [hl] at e
      exact e
    · cases h
def rIdx (g : G) : R2 := fun x y H Q => ∃ d e μ st Wx, RV g μ μ H d x ∧ RV g μ μ H e y ∧ RS g μ μ H st ∧ PostR g Wx μ H (opIx d e st) (relW g) Q
theorem ixr {X : Cx} {g : G} (hK : g.K = X.K) (hu : X.A.units + 64 < cLine) : IxR X (rIdx g) := by
  intro value slice pins s σ H x y v u Q I rx ry h hsub
  obtain ⟨d, e, μ, st, Wx, rd, re, hs, post⟩ := h
  have dic : PostR g Wx μ H (opDix d e st) (relW g) Q → wpAny (model X.prog X.w) X.A (subscriptTail value slice v u) (EP X pins σ Q) X.xe s := fun post => by
    unfold opDix at post
    split at post
    · rename_i e1 e2
      obtain ⟨p, kvs2, rfl, _, hp, rk⟩ := dic_rel hs rd e1
      rcases rk.val _ with ⟨q1, q2⟩ | ⟨d, v', q1, q2, rv⟩
      · rw [q1] at post; exact post.elim
      · rw [q1] at post
        exact ix_dict (by omega) value slice pins s σ H _ _ v u Q I rx ry ⟨p, kvs2, _, v', rfl, key_rel re e2, hp, q2, post.v hs rv⟩ hsub
    · exact post.elim
  unfold opIx at post
  split at post
  · split at post
    · rename_i e1
      split at post
      · rename_i e2
        cases re
        obtain ⟨a, xs, rfl, hq, r1⟩ := seqD_rel hs rd e1
        obtain ⟨w, e3, rw_⟩ := atD_rel r1 e2
        rw [hK] at hq
        rcases hq with hq | hq
        · exact ix_list value slice pins s σ H _ _ v u Q I rx ry ⟨_, _, _, _, rfl, rfl, hq, e3, post.v hs rw_⟩ hsub
        · exact ix_tup value slice pins s σ H _ _ v u Q I rx ry ⟨_, _, _, _, rfl, rfl, hq, e3, post.v hs rw_⟩ hsub
      · exact post.elim
    · exact dic post
  · exact dic post

/-! ### parts -/
theorem cut_rel {g : G} {μ α : List Addr} {H : Hp} {ds : List D} {vs : List V} (r : RVs g μ α H ds vs) (lo hi : Option Int) : RVs g μ α H (cut ds lo hi) (cutV vs lo hi) := by
  have hl := r.length
  unfold cut cutV
  rw [hl]
  exact (r.drop _).take _
def rSlc (g : G) : V → Option Int → Option Int → Hp → VK → Prop := fun x lo hi H Q => ∃ d μ st Wx, RV g μ μ H d x ∧ RS g μ μ H st ∧ PostR g Wx μ H (opSl d lo hi st) (relW g) Q
theorem slr {X : Cx} {g : G} (hK : g.K = X.K) : SlR X (rSlc g) := by
  intro pins s σ H x v vl vu lo hi sl Q I rx hsl pl pu h
  obtain ⟨d, μ, st, Wx, rd, hs, post⟩ := h
  unfold opSl at post
  split at post
  · cases rd with
    | tup h1 r1 =>
      have t1 := h1.sq
      rw [hK] at t1
      refine sl_tupA pins s σ H _ v vl vu lo hi sl Q I rx hsl pl pu ⟨_, _, rfl, t1, fun hw => ?_, fun _ => post.newT hs (cut_rel r1 lo hi)⟩
      refine post.v hs (.tup h1 ?_)
      have q := cut_rel r1 lo hi
      unfold cutV at q
      rw [hw.1, hw.2] at q
      simpa using q
  · cases rd with
    | scr h1 r1 =>
      have t1 := h1.sq
      rw [hK] at t1
      exact sl_list pins s σ H _ v vl vu lo hi sl Q I rx hsl pl pu ⟨_, _, rfl, t1, post.newL hs (cut_rel r1 lo hi)⟩
  · split at post
    · rename_i e1
      obtain ⟨a, xs, rfl, hq, r1⟩ := seqL_rel hs rd e1
      exact sl_list pins s σ H _ v vl vu lo hi sl Q I rx hsl pl pu ⟨_, _, rfl, SqL.of hq, post.newL hs (cut_rel r1 lo hi)⟩
    · exact post.elim
end Fw

/-! ## Fw5 -/
set_option Elab.async false
set_option linter.all false
set_option maxRecDepth 100000
set_option maxHeartbeats 4000000
/-! Built-in functions and methods do what the small language's do. -/
namespace Fw
open PySem PySem.Spec PyProof.Rows L2

def bName : B → String
  | .len => "len" | .tuple_ => "tuple" | .int_ => "int" | .abs_ => "abs" | .sum_ => "sum" | .all_ => "all" | .any_ => "any"
  | .max1 => "max" | .min1 => "min" | .max2 => "max" | .min2 => "min" | .list_ => "list" | .repr_ => "repr" | .str_ => "str" | .sorted_ => "sorted" | .bool_ => "bool"
def bIsTy : B → Bool
  | .tuple_ | .int_ | .list_ | .str_ | .bool_ => true
  | _ => false
def bVal (b : B) : Value := if bIsTy b then .type (bName b) else .builtin (bName b)

theorem maxL_mem : ∀ {ns : List Int}, 0 < ns.length → maxL ns ∈ ns ∧ ∀ y ∈ ns, y ≤ maxL ns
  | [], h => by simp at h
  | [i], _ => by simp [maxL]
  | i :: j :: r, _ => by
    have ih := maxL_mem (ns := j :: r) (by simp)
    have e : maxL (i :: j :: r) = max i (maxL (j :: r)) := rfl
    rw [e]
    refine ⟨?_, fun y hy => ?_⟩
    · by_cases h : i ≤ maxL (j :: r)
      · rw [Int.max_eq_right h]; exact List.mem_cons_of_mem _ ih.1
      · rw [Int.max_eq_left (by omega)]; exact List.mem_cons_self
    · rcases List.mem_cons.mp hy with z | z
      · omega
      · have := ih.2 y z; omega
theorem minL_mem : ∀ {ns : List Int}, 0 < ns.length → minL ns ∈ ns ∧ ∀ y ∈ ns, minL ns ≤ y
  | [], h => by simp at h
  | [i], _ => by simp [minL]
  | i :: j :: r, _ => by
    have ih := minL_mem (ns := j :: r) (by simp)
    have e : minL (i :: j :: r) = min i (minL (j :: r)) := rfl
    rw [e]
    refine ⟨?_, fun y hy => ?_⟩
    · by_cases h : i ≤ minL (j :: r)
      · rw [Int.min_eq_left h]; exact List.mem_cons_self
      · rw [Int.min_eq_right (by omega)]; exact List.mem_cons_of_mem _ ih.1
    · rcases List.mem_cons.mp hy with z | z
      · omega
      · have := ih.2 y z; omega

def rB (g : G) (b : B) : List V → Hp → VK → Prop := fun vs H Q => ∃ ds μ st Wx, RVs g μ μ H ds vs ∧ RS g μ μ H st ∧ PostR g Wx μ H (opB b ds st) (relW g) Q
theorem RVs.one {g : G} {μ α H} {d : D} {vs : List V} (r : RVs g μ α H [d] vs) : ∃ v, vs = [v] ∧ RV g μ α H d v := by
  cases r with
  | cons h q => cases q; exact ⟨_, rfl, h⟩
theorem RVs.two {g : G} {μ α H} {d e : D} {vs : List V} (r : RVs g μ α H [d, e] vs) : ∃ v w, vs = [v, w] ∧ RV g μ α H d v ∧ RV g μ α H e w := by
  cases r with
  | cons h q =>
    obtain ⟨w, e, q'⟩ := q.one
    subst e
    exact ⟨_, _, rfl, h, q'⟩
theorem intsL_rel {g : G} {μ : List Addr} {H : Hp} {st : Store} {d : D} {v : V} {ns : List Int} (hs : RS g μ μ H st) (r : RV g μ μ H d v) (e : (seqL st d).bind intsD = some ns) : ∃ a, v = .ref a ∧ H a = some (.lst (ns.map V.int)) := by
  cases q : seqL st d with
  | none => rw [q] at e; cases e
  | some ds =>
    rw [q] at e
    obtain ⟨a, xs, rfl, h, r1⟩ := seqL_rel hs r q
    rw [r1.ints e] at h
    exact ⟨a, rfl, h⟩
theorem blsL_rel {g : G} {μ : List Addr} {H : Hp} {st : Store} {d : D} {v : V} {ns : List Bool} (hs : RS g μ μ H st) (r : RV g μ μ H d v) (e : (seqL st d).bind blsD = some ns) : ∃ a xs, v = .ref a ∧ H a = some (.lst xs) ∧ xs.map trV = ns.map some := by
  cases q : seqL st d with
  | none => rw [q] at e; cases e
  | some ds =>
    rw [q] at e
    obtain ⟨a, xs, rfl, h, r1⟩ := seqL_rel hs r q
    exact ⟨a, xs, rfl, h, r1.bls e⟩
theorem intsD_rel {g : G} {μ : List Addr} {H : Hp} {st : Store} {d : D} {v : V} {ns : List Int} (hs : RS g μ μ H st) (r : RV g μ μ H d v) (e : (seqD st d).bind intsD = some ns) : ∃ a, v = .ref a ∧ (SqL g.K H a (ns.map V.int) ∨ SqT g.K H a (ns.map V.int)) := by
  cases q : seqD st d with
  | none => rw [q] at e; cases e
  | some ds =>
    rw [q] at e
    obtain ⟨a, xs, rfl, h, r1⟩ := seqD_rel hs r q
    rw [r1.ints e] at h
    exact ⟨a, rfl, h⟩
section
variable {prog : Program} {w : World} {A : Around} {E : Value → Shared → Prop} {s : Shared} {l : Addr}
theorem sum_rawT {its : List Value} {ns : List Int} {Q : Value → Shared → Prop} (hh : A.handled = none) (ht : s.heap.IsTuple l its.toArray) (hi : IntsAre its ns)
    (h : ∀ h' tk t', (∀ b o, s.heap.get? b = some o → h'.get? b = some o) → Q (.int ns.sum t') { s with heap := h', toks := tk }) : wpAny (model prog w) A (call (.builtin "sum") [.ref l]) Q E s := by
  obtain ⟨xs, e⟩ := hi.allInts.items
  have hn : numsOf (intItems xs).toList = ns := by rw [← e]; exact hi.numsOf
  rw [nums_intItems] at hn
  rw [e] at ht
  have hlt : l < s.heap.objs.size := by obtain ⟨_, e, _⟩ := ht; exact Heap.lt_size e
  refine PySem.call_sum_walkG (wpAny_pyIter_tuple ht ?_)
  refine ⟨_, [_, l], [_], _, _, _, numAt xs, rfl, PySem.Walks.tuple (A := A.in1) hh _ l (Nat.ne_of_lt hlt) (intItems xs), ⟨⟨_, Heap.get?_push_size _ rfl, rfl, rfl⟩, ht.push _⟩, fun c hc => ?_, (fun _ _ => intItems_at), fun h' tk t' hk => ?_⟩
  · show c < (s.heap.push _).objs.size
    rw [Heap.size_push]
    rcases List.mem_cons.mp hc with rfl | hc
    · exact Nat.lt_succ_self _
    · rcases List.mem_cons.mp hc with rfl | hc
      · exact Nat.lt_succ_of_lt hlt
      · cases hc
  · have := h h' tk t' (fun c o e => hk c o (fun hm => by
      rcases List.mem_cons.mp hm with e1 | hm
      · have := Heap.lt_size e; rw [e1] at this; exact Nat.lt_irrefl _ this
      · cases hm) (Heap.get?_push_of_some _ e))
    rw [← hn] at this
    simpa [intItems, preSum_eq, List.take_of_length_le] using this
end
theorem vals_get : ∀ {xs : List V} {us : List Value}, Vals xs us → ∀ (i : Nat) (u : Value), us[i]? = some u → ∃ x : V, xs[i]? = some x ∧ RelV x u
  | _, _, .nil, i, u, h => by simp at h
  | _, _, .cons r rr, 0, u, h => by
    simp at h; subst h; exact ⟨_, rfl, r⟩
  | _, _, .cons r rr, i + 1, u, h => by
    simp only [List.getElem?_cons_succ] at h ⊢
    exact vals_get rr i u h
theorem truth_trs {prog : Program} {w : World} {A : Around} {xs : List V} {bs : List Bool} {its : List Value} (rv : Vals xs its) (e : xs.map trV = bs.map some) :
    TruthOf prog w A (fun i v => its.toArray[i]? = some v) (fun i => bs.getD i false) := fun i v s Q E hv hq => by
  have hv' : its[i]? = some v := by simpa using hv
  obtain ⟨x, hx, r⟩ := vals_get rv i v hv'
  have h1 : (xs.map trV)[i]? = some (trV x) := by rw [List.getElem?_map, hx]; rfl
  rw [e, List.getElem?_map] at h1
  obtain ⟨b, hb, h2⟩ := Option.map_eq_some_iff.mp h1
  have hg : bs.getD i false = b := by rw [List.getD_eq_getElem?_getD, hb]; rfl
  have hq' : Q (bs.getD i false) s := hq
  rw [hg] at hq'
  cases x with
  | bl c =>
    obtain rfl : v = Value.bool c := r
    have : b = c := by simpa [trV] using h2
    subst this
    exact wpAny_truthy_bool hq'
  | int c =>
    obtain ⟨t, rfl⟩ := (show ∃ t, v = Value.int c t from r)
    have : b = (c != 0) := by simpa [trV] using h2
    subst this
    exact PyProof.Rows.truthy_int hq'
  | _ => simp [trV] at h2
section
variable {X : Cx}
def rAnyT (K : PySem.W.Frag) : List V → Hp → VK → Prop := fun vs H Q => ∃ (a : Addr) (xs : List V) (bs : List Bool), vs = [V.ref a] ∧ SqL K H a xs ∧ xs.map trV = bs.map some ∧ Q (.bl (bs.any id)) H
def rAllT (K : PySem.W.Frag) : List V → Hp → VK → Prop := fun vs H Q => ∃ (a : Addr) (xs : List V) (bs : List Bool), vs = [V.ref a] ∧ SqL K H a xs ∧ xs.map trV = bs.map some ∧ Q (.bl (bs.all id)) H
def rSumT (K : PySem.W.Frag) : List V → Hp → VK → Prop := fun vs H Q => ∃ (a : Addr) (ns : List Int), vs = [V.ref a] ∧ SqT K H a (ns.map V.int) ∧ Q (.int ns.sum) H
theorem cr_sumT (hc : X.calm = true) : CallR X (.builtin "sum") (rSumT X.K) := by
  intro pins s σ H vs us Q I r h
  obtain ⟨a, ns, rfl, hs, q⟩ := h
  obtain ⟨its, rv, hl, _⟩ := I.tuple hs
  rw [Vals.ref1 r]
  exact sum_rawT (I.ok.hd hc) hl rv.ints fun h' tk t' hk => ⟨.int _, H, I.kept hk, ⟨_, rfl⟩, q⟩
theorem cr_anyT (hc : X.calm = true) : CallR X (.builtin "any") (rAnyT X.K) := by
  intro pins s σ H vs us Q I r h
  obtain ⟨a, xs, bs, rfl, hs, he, q⟩ := h
  obtain ⟨its, rv, hl, _⟩ := I.list hs
  rw [Vals.ref1 r]
  have hlen : its.length = bs.length := by
    have := congrArg List.length he
    rw [List.length_map, List.length_map] at this
    rw [← this, rv.length]
  refine call_any_walk (iter_any hl.isList fun s₂ e2 st hne => ?_)
  subst e2
  refine ⟨_, _, _, _, _, _, _, rfl, PySem.Walks.list (A := X.A.in1) (I.ok.hd hc) _ a hne its.toArray, st, truth_trs rv he, fun h' tk hk => ?_⟩
  refine ⟨.bl _, H, I.kept fun b o eo => hk b o (fun hmem => ?_) (Heap.get?_push_of_some _ eo), ?_, q⟩
  · rcases List.mem_cons.mp hmem with e1 | hmem
    · exact absurd (e1 ▸ Heap.lt_size eo) (Nat.lt_irrefl _)
    · cases hmem
  · show Value.bool _ = Value.bool _
    rw [← L2.any_range, List.size_toArray, hlen]
theorem cr_allT (hc : X.calm = true) : CallR X (.builtin "all") (rAllT X.K) := by
  intro pins s σ H vs us Q I r h
  obtain ⟨a, xs, bs, rfl, hs, he, q⟩ := h
  obtain ⟨its, rv, hl, _⟩ := I.list hs
  rw [Vals.ref1 r]
  have hlen : its.length = bs.length := by
    have := congrArg List.length he
    rw [List.length_map, List.length_map] at this
    rw [← this, rv.length]
  refine call_all_walk (iter_any hl.isList fun s₂ e2 st hne => ?_)
  subst e2
  refine ⟨_, _, _, _, _, _, _, rfl, PySem.Walks.list (A := X.A.in1) (I.ok.hd hc) _ a hne its.toArray, st, truth_trs rv he, fun h' tk hk => ?_⟩
  refine ⟨.bl _, H, I.kept fun b o eo => hk b o (fun hmem => ?_) (Heap.get?_push_of_some _ eo), ?_, q⟩
  · rcases List.mem_cons.mp hmem with e1 | hmem
    · exact absurd (e1 ▸ Heap.lt_size eo) (Nat.lt_irrefl _)
    · cases hmem
  · show Value.bool _ = Value.bool _
    rw [← L2.all_range, List.size_toArray, hlen]
end
mutual
theorem noDictD : ∀ d : D, PyData.hasDict (toPy d) = false
  | .non => by simp [toPy, PyData.hasDict]
  | .bl _ => by simp [toPy, PyData.hasDict]
  | .int _ => by simp [toPy, PyData.hasDict]
  | .str _ => by simp [toPy, PyData.hasDict]
  | .tup ds => by simp only [toPy, PyData.hasDict]; exact noDictDs ds
  | .lst ds => by simp only [toPy, PyData.hasDict]; exact noDictDs ds
  | .scr _ => by simp [toPy, PyData.hasDict]
  | .ref _ => by simp [toPy, PyData.hasDict]
  | .fn _ => by simp [toPy, PyData.hasDict]
theorem noDictDs : ∀ ds : List D, PyData.hasDictAll (toPys ds) = false
  | [] => by simp [toPys, PyData.hasDictAll]
  | d :: ds => by simp [toPys, PyData.hasDictAll, noDictD d, noDictDs ds]
end
theorem seqD_cases {st : Store} {d : D} {ds : List D} (e : seqD st d = some ds) : d = .tup ds ∨ seqL st d = some ds := by
  cases d <;> first | (cases e; exact .inl rfl) | exact .inr e
theorem cr_repr {X : Cx} (hg : X.A.guards = some []) (hu : X.A.units + 128 < cLine) : CallR X (.builtin "repr") (fun xs H Q => ∃ v d, xs = [v] ∧ Dp X.K H v d ∧ PyData.showable d = true ∧ PyData.hasDict d = false ∧ d.depth ≤ 64 ∧ (PyData.shown d).length ≤ sizeLine ∧ Q (.str (PyData.shown d)) H) := by
  intro pins s σ H xs us Q I r h
  obtain ⟨v, d, rfl, hd, hs, hn, hz, hl, q⟩ := h
  obtain ⟨u, rfl, ru⟩ := vals1 r
  obtain ⟨as, rd⟩ := Dp.reads I d v u hd ru
  cases hd with
  | non => cases ru; exact P.repr_of_none ⟨.str _, H, I.tok _, ⟨_, rfl⟩, q⟩
  | bl b =>
    cases ru
    refine P.repr_of_bool ⟨.str _, H, I.tok _, ⟨_, rfl⟩, ?_⟩
    cases b <;> exact q
  | int i => obtain ⟨t, rfl⟩ := ru; exact P.repr_of_int (by simpa [PyData.showable] using hs) ⟨.str _, H, I.tok _, ⟨_, rfl⟩, q⟩
  | str x => obtain ⟨t, rfl⟩ := ru; exact P.repr_of_str ⟨.str _, H, I.tok _, ⟨_, rfl⟩, q⟩ hl
  | lst h1 h2 =>
    cases ru
    exact repr_of_reads' rd hs (PyData.noDict_hsm hn) hg (by omega) (fun _ _ e => e) (fun h' u tk hk => ⟨.str _, H, I.kept (h' := h') (t' := tk) hk, ⟨_, rfl⟩, q⟩) hl
  | tup h1 h2 =>
    cases ru
    exact repr_of_reads' rd hs (PyData.noDict_hsm hn) hg (by omega) (fun _ _ e => e) (fun h' u tk hk => ⟨.str _, H, I.kept (h' := h') (t' := tk) hk, ⟨_, rfl⟩, q⟩) hl
theorem intK_rel {g : G} {μ α : List Addr} {H : Hp} : ∀ {kvs : List (Key × D)} {kvs2 : List (Key × V)} {ns : List Int}, RKs g μ α H kvs kvs2 → intK kvs = some ns → kvs2.map (·.1) = ns.map Sum.inl
  | _, _, _, .nil, e => by cases e; rfl
  | (.inl i, d) :: r, _, ns, .cons h t, e => by
    simp only [intK, Option.map_eq_some_iff] at e
    obtain ⟨ms, e1, rfl⟩ := e
    simp [intK_rel t e1]
  | (.inr x, d) :: r, _, ns, .cons h t, e => by simp [intK] at e
theorem sortI_uniq {ys ks : List Int} (h : ys.Perm ks) (hp : ys.Pairwise (· ≤ ·)) : ys = sortI ks := by
  have p2 : (sortI ks).Pairwise (fun a b => decide (a ≤ b) = true) := List.pairwise_mergeSort (fun a b c h1 h2 => by simp only [decide_eq_true_eq] at *; omega) (fun a b => by simp only [Bool.or_eq_true, decide_eq_true_eq]; omega) ks
  have p3 : (sortI ks).Pairwise (· ≤ ·) := p2.imp fun h => by simpa using h
  exact (h.trans (List.mergeSort_perm ks _).symm).eq_of_pairwise (le := (· ≤ ·)) (fun a b _ _ h1 h2 => by omega) hp p3
theorem rvs_ints {g : G} {μ α : List Addr} {H : Hp} : ∀ ns : List Int, RVs g μ α H (ns.map D.int) (ns.map V.int)
  | [] => .nil
  | n :: ns => .cons (.int n) (rvs_ints ns)
theorem cr_b {X : Cx} {g : G} (hK : g.K = X.K) (hc : X.calm = true) (hg : X.A.guards = some []) (hu : X.A.units + 128 < cLine) (b : B) : CallR X (bVal b) (rB g b) := by
  intro pins s σ H xs us Q I r h
  obtain ⟨ds, μ, st, Wx, rd, hs, post⟩ := h
  unfold opB at post
  split at post
  · split at post
    · rename_i hl
      obtain ⟨v, rfl, h1⟩ := rd.one
      cases h1
      exact call_len_str pins s σ H _ us Q I r ⟨_, rfl, by rw [← big_eq]; exact hl, post.v hs (.int _)⟩
    · exact post.elim
  · split at post
    · rename_i e1
      obtain ⟨v, rfl, h1⟩ := rd.one
      obtain ⟨a, ys, rfl, hq, r1⟩ := seqD_rel hs h1 e1
      rw [hK] at hq
      refine call_len_seq pins s σ H _ us Q I r ⟨a, ys, rfl, hq, ?_⟩
      rw [← r1.length]
      exact post.v hs (.int _)
    · split at post
      · rename_i e1
        obtain ⟨v, rfl, h1⟩ := rd.one
        obtain ⟨p, kvs2, rfl, _, hp, rk⟩ := dic_rel hs h1 e1
        refine cr_len_dict pins s σ H _ us Q I r ⟨p, kvs2, rfl, hp, ?_⟩
        rw [← rk.length]
        exact post.v hs (.int _)
      · exact post.elim
  · split at post
    · rename_i e1
      obtain ⟨v, rfl, h1⟩ := rd.one
      rcases seqD_cases e1 with e2 | e2
      · subst e2
        cases h1 with
        | tup t1 r1 =>
          have t2 := t1.sq
          rw [hK] at t2
          exact call_tuple_of pins s σ H _ us Q I r ⟨_, _, rfl, .inr ⟨t2, post.v hs (.tup t1 r1)⟩⟩
      · obtain ⟨a, ys, rfl, hq, r1⟩ := seqL_rel hs h1 e2
        exact call_tuple_of pins s σ H _ us Q I r ⟨_, _, rfl, .inl ⟨SqL.of hq, post.newT hs r1⟩⟩
    · exact post.elim
  · split at post
    · rename_i e1
      obtain ⟨v, rfl, h1⟩ := rd.one
      obtain ⟨a, ys, rfl, hq, r1⟩ := seqD_rel hs h1 e1
      rw [hK] at hq
      exact call_list_of pins s σ H _ us Q I r ⟨a, ys, rfl, hq, post.newL hs r1⟩
    · exact post.elim
  · obtain ⟨v, rfl, h1⟩ := rd.one
    cases h1
    exact call_int1 pins s σ H _ us Q I r (.inl ⟨_, rfl, post.v hs (.int _)⟩)
  · obtain ⟨v, rfl, h1⟩ := rd.one
    cases h1
    exact call_int1 pins s σ H _ us Q I r (.inr ⟨_, rfl, post.v hs (.int _)⟩)
  · obtain ⟨v, rfl, h1⟩ := rd.one
    cases h1
    exact call_bool1 pins s σ H _ us Q I r (.inl ⟨_, rfl, post.v hs (.bl _)⟩)
  · obtain ⟨v, rfl, h1⟩ := rd.one
    cases h1
    exact call_bool1 pins s σ H _ us Q I r (.inr ⟨_, rfl, post.v hs (.bl _)⟩)
  · obtain ⟨v, rfl, h1⟩ := rd.one
    cases h1
    exact call_abs pins s σ H _ us Q I r ⟨_, rfl, post.v hs (.int _)⟩
  · obtain ⟨v, w, rfl, h1, h2⟩ := rd.two
    cases h1; cases h2
    exact call_max2 hc pins s σ H _ us Q I r ⟨_, _, rfl, post.v hs (.int _)⟩
  · obtain ⟨v, w, rfl, h1, h2⟩ := rd.two
    cases h1; cases h2
    exact call_min2 hc pins s σ H _ us Q I r ⟨_, _, rfl, post.v hs (.int _)⟩
  · split at post
    · rename_i e1
      obtain ⟨v, rfl, h1⟩ := rd.one
      obtain ⟨a, rfl, hq⟩ := intsD_rel hs h1 e1
      rw [hK] at hq
      rcases hq with hq | hq
      · exact cr_sum hc pins s σ H _ us Q I r ⟨_, _, rfl, hq, post.v hs (.int _)⟩
      · exact cr_sumT hc pins s σ H _ us Q I r ⟨_, _, rfl, hq, post.v hs (.int _)⟩
    · exact post.elim
  · split at post
    · rename_i e1
      split at post
      · rename_i hl
        obtain ⟨v, rfl, h1⟩ := rd.one
        obtain ⟨a, rfl, hq⟩ := intsL_rel hs h1 e1
        refine cr_max hc pins s σ H _ us Q I r ⟨_, _, rfl, SqL.of hq, hl, fun m hm hle => ?_⟩
        have h2 := maxL_mem hl
        have h3 := hle _ h2.1
        have h4 := h2.2 m hm
        have : m = maxL _ := Int.le_antisymm h4 h3
        rw [this]
        exact post.v hs (.int _)
      · exact post.elim
    · exact post.elim
  · split at post
    · rename_i e1
      split at post
      · rename_i hl
        obtain ⟨v, rfl, h1⟩ := rd.one
        obtain ⟨a, rfl, hq⟩ := intsL_rel hs h1 e1
        refine cr_min hc pins s σ H _ us Q I r ⟨_, _, rfl, SqL.of hq, hl, fun m hm hle => ?_⟩
        have h2 := minL_mem hl
        have h3 := hle _ h2.1
        have h4 := h2.2 m hm
        have : m = minL _ := Int.le_antisymm h3 h4
        rw [this]
        exact post.v hs (.int _)
      · exact post.elim
    · exact post.elim
  · split at post
    · rename_i e1
      obtain ⟨v, rfl, h1⟩ := rd.one
      obtain ⟨a, xs, rfl, hq, he⟩ := blsL_rel hs h1 e1
      exact cr_allT hc pins s σ H _ us Q I r ⟨_, xs, _, rfl, SqL.of hq, he, post.v hs (.bl _)⟩
    · exact post.elim
  · split at post
    · rename_i e1
      obtain ⟨v, rfl, h1⟩ := rd.one
      obtain ⟨a, xs, rfl, hq, he⟩ := blsL_rel hs h1 e1
      exact cr_anyT hc pins s σ H _ us Q I r ⟨_, xs, _, rfl, SqL.of hq, he, post.v hs (.bl _)⟩
    · exact post.elim
  · split at post
    · rename_i hc'
      simp only [Bool.and_eq_true, decide_eq_true_eq] at hc'
      obtain ⟨⟨⟨c1, c2⟩, c3⟩, c4⟩ := hc'
      obtain ⟨v, rfl, h1⟩ := rd.one
      have p := h1.dp c1
      rw [hK] at p
      exact cr_repr hg hu pins s σ H _ us Q I r ⟨_, _, rfl, p, c2, noDictD _, c4, by rw [← big_eq]; exact c3, post.v hs (.str _)⟩
    · exact post.elim
  · split at post
    · rename_i e1
      split at post
      · rename_i e2
        split at post
        · rename_i hl
          obtain ⟨v, rfl, h1⟩ := rd.one
          obtain ⟨p, kvs2, rfl, _, hp, rk⟩ := dic_rel hs h1 e1
          refine call_sortedDI hc pins s σ H _ us Q I r ⟨p, kvs2, _, rfl, .inl hp, intK_rel rk e2, hl, fun ys q h1 h2 hq => ?_⟩
          rw [sortI_uniq h1 h2]
          exact post.newL hs (rvs_ints _) q hq
        · exact post.elim
      · exact post.elim
    · split at post
      · rename_i e1
        split at post
        · rename_i hk
          obtain ⟨v, rfl, h1⟩ := rd.one
          obtain ⟨a, ys, rfl, hq, r1⟩ := seqL_rel hs h1 e1
          exact cr_sortD hK hu pins s σ H _ us Q I r ⟨a, ys, _, μ, rfl, SqL.of hq, r1, hk, fun zs q rz hq => post.newL hs rz q hq⟩
        · exact post.elim
      · exact post.elim
  · exact post.elim

/-! ### truth, kinds -/
theorem seq_empty {g : G} {μ α H} {ds : List D} {xs : List V} (r : RVs g μ α H ds xs) : ds.isEmpty = xs.isEmpty := by cases r <;> rfl
theorem truth_rel {g : G} {μ : List Addr} {H : Hp} {st : Store} {d : D} {v : V} {b : Bool} (hs : RS g μ μ H st) (r : RV g μ μ H d v) (e : truth st d = some b) : TruV g.K v H b := by
  have seqs : ∀ {d : D}, RV g μ μ H d v → (seqD st d).map (fun ds => !ds.isEmpty) = some b → TruV g.K v H b := fun {d} r e => by
    cases q : seqD st d with
    | none => rw [q] at e; cases e
    | some ds =>
      rw [q] at e
      obtain ⟨a, xs, rfl, hq, r1⟩ := seqD_rel hs r q
      have e' : (!ds.isEmpty) = b := by simpa using e
      rw [seq_empty r1] at e'
      rcases hq with hq | hq
      · exact .inl ⟨xs, hq, e'.symm⟩
      · exact .inr (.inl ⟨xs, hq, e'.symm⟩)
  cases d with
  | non => cases r; cases e; rfl
  | bl k => cases r; cases e; rfl
  | int i => cases r; cases e; rfl
  | str x =>
    cases r
    unfold truth at e
    dsimp only at e
    split at e
    · rename_i hl
      cases e
      refine ⟨by rw [← big_eq]; exact hl, ?_⟩
      by_cases h0 : x.length = 0
      · rw [h0]; rfl
      · rw [bne_iff_ne.mpr h0, bne_iff_ne.mpr (show (x.length : Int) ≠ 0 by omega)]
    · cases e
  | tup ds => exact seqs r e
  | lst ds => exact seqs r e
  | scr ds => exact seqs r e
  | ref n => exact seqs r e
  | fn f => exact seqs r e
theorem LstAt.ty {g : G} {α : List Addr} {H : Hp} {a xs} (h : LstAt α H a xs) : TyX g.K H (.ref a) (.type "list") := .base (.lst h.1)
theorem TupAt.ty {g : G} {α : List Addr} {H : Hp} {a xs} (h : TupAt g α H a xs) : TyX g.K H (.ref a) (.type "tuple") := by
  rcases h with ⟨h | ⟨o, h⟩, _⟩ | ⟨o, its, n, hk, hc, _⟩
  · exact .base (.tup h)
  · exact .fTuple h
  · exact .kTuple hk hc
def tyName : Ty → String
  | .int => "int" | .bool => "bool" | .tuple => "tuple" | .str => "str"
/-- isinstance(x, a built-in class) -/
theorem isTy_rel {g : G} {μ α : List Addr} {H : Hp} {k : Ty} {d : D} {v : V} {b : Bool} (r : RV g μ α H d v) (e : isTy k d = some b) : ∃ t, TyX g.K H v t ∧ PySem.W.kitOne g.K t (.type (tyName k)) = some b := by
  cases r with
  | non => exact ⟨_, .base .non, by cases k <;> cases e <;> exact kit_ty (by decide +kernel)⟩
  | bl x => exact ⟨_, .base (.bl x), by cases k <;> cases e <;> exact kit_ty (by decide +kernel)⟩
  | int x => exact ⟨_, .base (.int x), by cases k <;> cases e <;> exact kit_ty (by decide +kernel)⟩
  | str x => exact ⟨_, .base (.str x), by cases k <;> cases e <;> exact kit_ty (by decide +kernel)⟩
  | tup h1 h2 => exact ⟨_, h1.ty, by cases k <;> cases e <;> exact kit_ty (by decide +kernel)⟩
  | lst h1 h2 => exact ⟨_, h1.ty, by cases k <;> cases e <;> exact kit_ty (by decide +kernel)⟩
  | scr h1 h2 => cases k <;> cases e
  | ref h1 => cases k <;> cases e
  | fn h1 => cases k <;> cases e
end Fw

/-! ## Fw6 -/
set_option Elab.async false
set_option linter.all false
set_option maxRecDepth 100000
set_option maxHeartbeats 4000000
/-! What a term computes is what the expression does: one lemma a construct. -/
namespace Fw
open PySem PySem.Spec PyProof.Rows L2

def RL (g : G) (μ : List Addr) (H : Hp) (ρ : Lc) (σ : L2.St) : Prop := ρ.length = σ.length ∧ ∀ (i : Nat) (d : D), ρ.get i = some d → ∃ v, σ[i]? = some (some v) ∧ RV g μ μ H d v
abbrev XA := Option ((Addr × Addr) × Addr × Nat)
abbrev XN := Option (Nat × List (Nat × D))
structure SR (g : G) (xa : XA) (xn : XN) (μ : List Addr) (H : Hp) (ρ : Lc) (σ : L2.St) (st : Store) : Prop where
  loc : RL g μ H ρ σ
  rs : RS g μ μ H st
  ex : RX g μ H (xa.map (·.1)) xn
  slot : ∀ p a i, xa = some (p, a, i) → σ[i]? = some (some (.ref a))

section
variable {g : G} {xa : XA} {xn : XN} {μ μ' α' : List Addr} {H H' : Hp} {ρ : Lc} {σ : L2.St} {st st' : Store}
theorem RL.step (s : Step μ H μ' α' H') (h : RL g μ H ρ σ) : RL g μ' H' ρ σ := ⟨h.1, fun i d e => by
  obtain ⟨v, e1, r⟩ := h.2 i d e
  exact ⟨v, e1, r.step s.frz⟩⟩
theorem RF.step (s : Step μ H μ' α' H') {fs vs} (h : RF g μ μ H fs vs) : RF g μ' α' H' fs vs := h.imp s.imp
theorem RX.step {xa : Option (Addr × Addr)} (s : Step μ H μ' α' H') (h : RX g μ H xa xn) : RX g μ' H' xa xn := by
  cases xn with
  | none => trivial
  | some p =>
    obtain ⟨c, fs⟩ := p
    obtain ⟨C, dd, vs, e1, e2, e3, e4, e5⟩ := h
    exact ⟨C, dd, vs, e1, e2, s.frz.keep _ _ e3 e4, s.frz.notin e3 e4, e5.step s.frz⟩
theorem SR.step (h : SR g xa xn μ H ρ σ st) (s : Step μ H μ' μ' H') (r : RS g μ' μ' H' st') : SR g xa xn μ' H' ρ σ st' := ⟨h.loc.step s, r, h.ex.step s, h.slot⟩
theorem SR.drop (h : SR g xa xn μ H ρ σ st) : SR g none none μ H ρ σ st := ⟨h.loc, h.rs, trivial, fun _ _ _ e => by cases e⟩
theorem SR.mk0 (h1 : RL g μ H ρ σ) (h2 : RS g μ μ H st) : SR g none none μ H ρ σ st := ⟨h1, h2, trivial, fun _ _ _ e => by cases e⟩
end

def tE (g : G) (Wx : WX) (xa : XA) (xn : XN) (m : Lc → Store → Res W) : TE := fun σ H Q => ∃ ρ μ st, SR g xa xn μ H ρ σ st ∧ PostR g (fun c d H' => Wx c d σ H') μ H (m ρ st) (relW g) Q
def tEs (g : G) (Wx : WX) (xa : XA) (xn : XN) (m : Lc → Store → Res (List D)) : TA := fun σ H Q => ∃ ρ μ st, SR g xa xn μ H ρ σ st ∧ PostR g (fun c d H' => Wx c d σ H') μ H (m ρ st) (relDs g) Q
def tT (g : G) (Wx : WX) (xa : XA) (xn : XN) (m : Lc → Store → Res Bool) : TT := fun σ H Q => ∃ ρ μ st, SR g xa xn μ H ρ σ st ∧ PostR g (fun c d H' => Wx c d σ H') μ H (m ρ st) (relE g) Q
def tP (g : G) (Wx : WX) (xa : XA) (xn : XN) (m : Lc → Store → Res (Option Int)) : TO := fun σ H Q => ∃ ρ μ st, SR g xa xn μ H ρ σ st ∧ PostR g (fun c d H' => Wx c d σ H') μ H (m ρ st) (relE g) Q

theorem PE.weak {X : Cx} {e : Expr} {t t' : TE} (h : PE X e t) (w : ∀ σ H Q, t' σ H Q → t σ H Q) : PE X e t' := ⟨fun pins s σ H Q I q => h.run pins s σ H Q I (w _ _ _ q)⟩
theorem PT.weak {X : Cx} {e : Expr} {t t' : TT} (h : PT X e t) (w : ∀ σ H Q, t' σ H Q → t σ H Q) : PT X e t' := ⟨fun pins s σ H Q I q => h.run pins s σ H Q I (w _ _ _ q)⟩
theorem PW.weak {X : Cx} {e : Expr} {t t' : TT} (h : L2.PW X e t) (w : ∀ σ H Q, t' σ H Q → t σ H Q) : L2.PW X e t' := ⟨fun wh pins s σ H Q I q => h.run wh pins s σ H Q I (w _ _ _ q)⟩
theorem PA.weak {X : Cx} {es : List Expr} {t t' : TA} (h : PA X es t) (w : ∀ σ H Q, t' σ H Q → t σ H Q) : PA X es t' := ⟨fun pos pins s σ H Q I q => h.run pos pins s σ H Q I (w _ _ _ q)⟩
theorem PO.weak {X : Cx} {e : Option Expr} {t t' : TO} (h : PO X e t) (w : ∀ σ H Q, t' σ H Q → t σ H Q) : PO X e t' := ⟨fun pins s σ H Q I q => h.run pins s σ H Q I (w _ _ _ q)⟩

section
variable {X : Cx} {g : G} {Wx : WX} {xa : XA} {xn : XN} {a b c : Expr} {pos : Pos} {ma mb mc : Lc → Store → Res W} {ta tb : Lc → Store → Res Bool}
abbrev ME (X : Cx) (g : G) (Wx : WX) (xa : XA) (xn : XN) (e : Expr) (m : Lc → Store → Res W) : Prop := PE X e (tE g Wx xa xn m)
abbrev MEs (X : Cx) (g : G) (Wx : WX) (xa : XA) (xn : XN) (es : List Expr) (m : Lc → Store → Res (List D)) : Prop := PA X es (tEs g Wx xa xn m)
abbrev MT (X : Cx) (g : G) (Wx : WX) (xa : XA) (xn : XN) (e : Expr) (m : Lc → Store → Res Bool) : Prop := PT X e (tT g Wx xa xn m)
abbrev MW (X : Cx) (g : G) (Wx : WX) (xa : XA) (xn : XN) (e : Expr) (m : Lc → Store → Res Bool) : Prop := L2.PW X e (tT g Wx xa xn m)
abbrev MP (X : Cx) (g : G) (Wx : WX) (xa : XA) (xn : XN) (e : Option Expr) (m : Lc → Store → Res (Option Int)) : Prop := PO X e (tP g Wx xa xn m)

/-- a value that is here -/
theorem me_here {e : Expr} {te : TE} {m : Lc → Store → Res W} (h : PE X e te) (f : ∀ σ H Q ρ μ st, SR g xa xn μ H ρ σ st → PostR g (fun c d H' => Wx c d σ H') μ H (m ρ st) (relW g) Q → te σ H Q) : ME X g Wx xa xn e m :=
  PE.weak h fun σ H Q ⟨ρ, μ, st, hs, post⟩ => f σ H Q ρ μ st hs post
theorem me_var {i : Nat} {x : Str} (hN : X.N[i]? = some x) (hv : Vis X.env.scope x) (hd : (x == ("__debug__" : Str)) = false) (hcd : (x == ("__classdict__" : Str)) = false) :
    ME X g Wx xa xn (.Name x pos) (fun ρ st => match ρ.get i with | some d => .ok (.v d) st | none => .stuck) :=
  me_here (pe_var (i := i) hN hv hd hcd) fun σ H Q ρ μ st hs post => by
    cases e : ρ.get i with
    | none => rw [e] at post; exact post.elim
    | some d =>
      rw [e] at post
      obtain ⟨v, e1, r⟩ := hs.loc.2 i d e
      exact ⟨v, e1, post.v hs.rs r⟩
theorem me_int {i : Int} {j : Nat} : ME X g Wx xa xn (.Constant (.int i) j pos) (fun _ st => .ok (.v (.int i)) st) := me_here pe_int fun σ H Q ρ μ st hs post => post.v hs.rs (.int i)
theorem me_bl {i : Bool} {j : Nat} : ME X g Wx xa xn (.Constant (.bool i) j pos) (fun _ st => .ok (.v (.bl i)) st) := me_here pe_bl fun σ H Q ρ μ st hs post => post.v hs.rs (.bl i)
theorem me_str {i : Str} {j : Nat} : ME X g Wx xa xn (.Constant (.str i) j pos) (fun _ st => .ok (.v (.str i)) st) := me_here pe_str fun σ H Q ρ μ st hs post => post.v hs.rs (.str i)
theorem me_non {j : Nat} : ME X g Wx xa xn (.Constant .none j pos) (fun _ st => .ok (.v .non) st) := me_here pe_non fun σ H Q ρ μ st hs post => post.v hs.rs .non
theorem me_glob {x : Str} {u : Value} {v : V} {d : D} (hg : Gl X x) (hm : X.mg x = some u) (rv : RelV v u) (rd : ∀ μ H, RV g μ μ H d v) (hd : (x == ("__debug__" : Str)) = false) :
    ME X g Wx xa xn (.Name x pos) (fun _ st => .ok (.v d) st) := me_here (pe_glob hg hm rv hd) fun σ H Q ρ μ st hs post => post.v hs.rs (rd μ H)

/-- one part, then the rest -/
theorem tE_bind {γ δ : Type} {m : Lc → Store → Res W} {k : W → Store → Res γ} {rel : Rel γ δ} {Q : δ → Hp → Prop} {σ : L2.St} {H : Hp} {ρ : Lc} {μ : List Addr} {st : Store}
    (hs : SR g xa xn μ H ρ σ st) (post : PostR g (fun c d H' => Wx c d σ H') μ H ((m ρ st).bind k) rel Q) {R : V → Hp → Prop}
    (f : ∀ v H1 w st1 μ1, Step μ H μ1 μ1 H1 → RV g μ1 μ1 H1 w.d v → SR g xa xn μ1 H1 ρ σ st1 → PostR g (fun c d H' => Wx c d σ H') μ1 H1 (k w st1) rel Q → R v H1) : tE g Wx xa xn m σ H R :=
  ⟨ρ, μ, st, hs, post.bindW.mono fun v H1 ⟨w, st1, μ1, s1, r1, rs1, p1⟩ => f v H1 w st1 μ1 s1 r1 (hs.step s1 rs1) p1⟩
theorem tT_bind {γ δ : Type} {m : Lc → Store → Res Bool} {k : Bool → Store → Res γ} {rel : Rel γ δ} {Q : δ → Hp → Prop} {σ : L2.St} {H : Hp} {ρ : Lc} {μ : List Addr} {st : Store}
    (hs : SR g xa xn μ H ρ σ st) (post : PostR g (fun c d H' => Wx c d σ H') μ H ((m ρ st).bind k) rel Q) {R : Bool → Hp → Prop}
    (f : ∀ H1 b st1 μ1, Step μ H μ1 μ1 H1 → SR g xa xn μ1 H1 ρ σ st1 → PostR g (fun c d H' => Wx c d σ H') μ1 H1 (k b st1) rel Q → R b H1) : tT g Wx xa xn m σ H R :=
  ⟨ρ, μ, st, hs, (post.bind (rel1 := relE g)).mono fun v H1 ⟨w, st1, μ1, α1, s1, ⟨e1, e2, rs1⟩, p1⟩ => by subst e1; subst e2; exact f H1 _ st1 _ s1 (hs.step s1 rs1) p1⟩
theorem tEs_bind {γ δ : Type} {m : Lc → Store → Res (List D)} {k : List D → Store → Res γ} {rel : Rel γ δ} {Q : δ → Hp → Prop} {σ : L2.St} {H : Hp} {ρ : Lc} {μ : List Addr} {st : Store}
    (hs : SR g xa xn μ H ρ σ st) (post : PostR g (fun c d H' => Wx c d σ H') μ H ((m ρ st).bind k) rel Q) {R : List V → Hp → Prop}
    (f : ∀ vs H1 ds st1 μ1, Step μ H μ1 μ1 H1 → RVs g μ1 μ1 H1 ds vs → SR g xa xn μ1 H1 ρ σ st1 → PostR g (fun c d H' => Wx c d σ H') μ1 H1 (k ds st1) rel Q → R vs H1) : tEs g Wx xa xn m σ H R :=
  ⟨ρ, μ, st, hs, (post.bind (rel1 := relDs g)).mono fun v H1 ⟨w, st1, μ1, α1, s1, ⟨e2, r1, rs1⟩, p1⟩ => by subst e2; exact f v H1 w st1 _ s1 r1 (hs.step s1 rs1) p1⟩
theorem tP_bind {γ δ : Type} {m : Lc → Store → Res (Option Int)} {k : Option Int → Store → Res γ} {rel : Rel γ δ} {Q : δ → Hp → Prop} {σ : L2.St} {H : Hp} {ρ : Lc} {μ : List Addr} {st : Store}
    (hs : SR g xa xn μ H ρ σ st) (post : PostR g (fun c d H' => Wx c d σ H') μ H ((m ρ st).bind k) rel Q) {R : Option Int → Hp → Prop}
    (f : ∀ H1 b st1 μ1, Step μ H μ1 μ1 H1 → SR g xa xn μ1 H1 ρ σ st1 → PostR g (fun c d H' => Wx c d σ H') μ1 H1 (k b st1) rel Q → R b H1) : tP g Wx xa xn m σ H R :=
  ⟨ρ, μ, st, hs, (post.bind (rel1 := relE g)).mono fun v H1 ⟨w, st1, μ1, α1, s1, ⟨e1, e2, rs1⟩, p1⟩ => by subst e1; subst e2; exact f H1 _ st1 _ s1 (hs.step s1 rs1) p1⟩

theorem me_bin (hK : g.K = X.K) {o : Operator} (ha : ME X g Wx xa xn a ma) (hb : ME X g Wx xa xn b mb) :
    ME X g Wx xa xn (.BinOp a o b pos) (fun ρ st => (ma ρ st).bind fun x st => (mb ρ st).bind fun y st => opBin o x.d y.d st) :=
  me_here (pe_op (opr_bin hK o) ha hb) fun σ H Q ρ μ st hs post => tE_bind hs post fun v H1 w st1 μ1 s1 r1 hs1 p1 => tE_bind hs1 p1 fun u H2 w2 st2 μ2 s2 r2 hs2 p2 =>
    ⟨w.d, w2.d, μ2, st2, _, r1.step s2, r2, hs2.rs, p2⟩
theorem me_neg (ha : ME X g Wx xa xn a ma) : ME X g Wx xa xn (.UnaryOp .USub a pos) (fun ρ st => (ma ρ st).bind fun x st => match x.d with | .int i => .ok (.v (.int (-i))) st | _ => .stuck) :=
  me_here (pe_un un_neg ha) fun σ H Q ρ μ st hs post => tE_bind hs post fun v H1 w st1 μ1 s1 r1 hs1 p1 => by
    cases e : w.d with
    | int i =>
      rw [e] at p1 r1
      cases r1
      exact ⟨_, rfl, p1.v hs1.rs (.int _)⟩
    | _ => rw [e] at p1; exact p1.elim
theorem me_not (hK : g.K = X.K) (ha : ME X g Wx xa xn a ma) : ME X g Wx xa xn (.UnaryOp .Not a pos) (fun ρ st => (ma ρ st).bind fun w st => match truth st w.d with | some k => .ok (.v (.bl (!k))) st | none => .stuck) :=
  me_here (pe_notT ha) fun σ H Q ρ μ st hs post => tE_bind hs post fun v H1 w st1 μ1 s1 r1 hs1 p1 => by
    cases e : truth st1 w.d with
    | none => rw [e] at p1; exact p1.elim
    | some k =>
      rw [e] at p1
      have t1 := truth_rel hs1.rs r1 e
      rw [hK] at t1
      exact ⟨k, t1, p1.v hs1.rs (.bl _)⟩
theorem me_and (hK : g.K = X.K) {rest : List Expr} (ha : ME X g Wx xa xn a ma) (hb : ME X g Wx xa xn (.BoolOp .And (b :: rest) pos) mb) :
    ME X g Wx xa xn (.BoolOp .And (a :: b :: rest) pos) (fun ρ st => (ma ρ st).bind fun w st => match truth st w.d with | some k => if k then mb ρ st else .ok (.v w.d) st | none => .stuck) :=
  me_here (pe_andT ha hb) fun σ H Q ρ μ st hs post => tE_bind hs post fun v H1 w st1 μ1 s1 r1 hs1 p1 => by
    cases e : truth st1 w.d with
    | none => rw [e] at p1; exact p1.elim
    | some k =>
      rw [e] at p1
      have t1 := truth_rel hs1.rs r1 e
      rw [hK] at t1
      refine ⟨k, t1, ?_⟩
      cases k with
      | true => exact ⟨ρ, μ1, st1, hs1, p1⟩
      | false => exact p1.v hs1.rs r1
theorem me_or (hK : g.K = X.K) {rest : List Expr} (ha : ME X g Wx xa xn a ma) (hb : ME X g Wx xa xn (.BoolOp .Or (b :: rest) pos) mb) :
    ME X g Wx xa xn (.BoolOp .Or (a :: b :: rest) pos) (fun ρ st => (ma ρ st).bind fun w st => match truth st w.d with | some k => if k then .ok (.v w.d) st else mb ρ st | none => .stuck) :=
  me_here (pe_orT ha hb) fun σ H Q ρ μ st hs post => tE_bind hs post fun v H1 w st1 μ1 s1 r1 hs1 p1 => by
    cases e : truth st1 w.d with
    | none => rw [e] at p1; exact p1.elim
    | some k =>
      rw [e] at p1
      have t1 := truth_rel hs1.rs r1 e
      rw [hK] at t1
      refine ⟨k, t1, ?_⟩
      cases k with
      | false => exact ⟨ρ, μ1, st1, hs1, p1⟩
      | true => exact p1.v hs1.rs r1
theorem me_one {o : BoolOp} (ha : ME X g Wx xa xn a ma) : ME X g Wx xa xn (.BoolOp o [a] pos) ma := pe_one ha

/-- an answer of a comparison -/
theorem post_cmp {γ δ : Type} {r : Res D} {k : D → Store → Res γ} {rel : Rel γ δ} {Q : δ → Hp → Prop} {μ : List Addr} {H : Hp} {E : XK} (post : PostR g E μ H (r.bind k) rel Q) {R : V → Hp → Prop}
    (f : ∀ v H1 d st1 μ1, Step μ H μ1 μ1 H1 → RV g μ1 μ1 H1 d v → RS g μ1 μ1 H1 st1 → PostR g E μ1 H1 (k d st1) rel Q → R v H1) : PostR g E μ H r (relD g) R :=
  (post.bind (rel1 := relD g)).mono fun v H1 ⟨d, st1, μ1, α1, s1, ⟨e2, r1, rs1⟩, p1⟩ => by subst e2; exact f v H1 d st1 _ s1 r1 rs1 p1
theorem me_cmp (hK : g.K = X.K) (hu : X.A.units + 64 < cLine) {o : CmpOp} (ha : ME X g Wx xa xn a ma) (hb : ME X g Wx xa xn b mb) (hm : behindInMarks o b = false) :
    ME X g Wx xa xn (.Compare a [o] [b] pos) (fun ρ st => (ma ρ st).bind fun x st => (mb ρ st).bind fun y st => (opCmp o x.d y.d st).bind fun d st => .ok (.v d) st) :=
  me_here (pe_cmpR (opr_cmp hK hu o) ha hb hm) fun σ H Q ρ μ st hs post => tE_bind hs post fun v H1 w st1 μ1 s1 r1 hs1 p1 => tE_bind hs1 p1 fun u H2 w2 st2 μ2 s2 r2 hs2 p2 =>
    ⟨w.d, w2.d, μ2, st2, _, r1.step s2, r2, hs2.rs, post_cmp p2 fun v H3 d st3 μ3 s3 r3 rs3 p3 => p3.v rs3 r3⟩
theorem post_toB {γ δ : Type} {r : Res D} {k : Bool → Store → Res γ} {rel : Rel γ δ} {Q : δ → Hp → Prop} {μ : List Addr} {H : Hp} {E : XK} (post : PostR g E μ H ((toB r).bind k) rel Q) {R : V → Hp → Prop}
    (f : ∀ b H1 st1 μ1, Step μ H μ1 μ1 H1 → RS g μ1 μ1 H1 st1 → PostR g E μ1 H1 (k b st1) rel Q → R (.bl b) H1) : PostR g E μ H r (relD g) R := by
  cases r with
  | stuck => exact post
  | exc c fs st => exact post
  | ok d st =>
    cases d with
    | bl b =>
      intro v μ1 α1 H1 s1 hr
      obtain ⟨e2, r1, rs1⟩ := hr
      subst e2
      cases r1
      exact f b H1 st _ s1 rs1 (PostR.step s1 post)
    | _ => exact post.elim
theorem bind_okB (r : Res Bool) : (r.bind fun b st => .ok b st) = r := by cases r <;> rfl
theorem mt_cmp (hK : g.K = X.K) (hu : X.A.units + 64 < cLine) {o : CmpOp} (ha : ME X g Wx xa xn a ma) (hb : ME X g Wx xa xn b mb) (hm : behindInMarks o b = false) :
    MT X g Wx xa xn (.Compare a [o] [b] pos) (fun ρ st => (ma ρ st).bind fun x st => (mb ρ st).bind fun y st => cmpB o x.d y.d st) :=
  PT.weak (pt_cmpR (opr_cmp hK hu o) ha hb hm) fun σ H Q ⟨ρ, μ, st, hs, post⟩ => tE_bind hs post fun v H1 w st1 μ1 s1 r1 hs1 p1 => tE_bind hs1 p1 fun u H2 w2 st2 μ2 s2 r2 hs2 p2 => by
    rw [← bind_okB (cmpB _ _ _ _)] at p2
    exact ⟨w.d, w2.d, μ2, st2, _, r1.step s2, r2, hs2.rs, post_toB p2 fun b H3 st3 μ3 s3 rs3 p3 => ⟨b, rfl, p3 b μ3 μ3 H3 .refl ⟨rfl, rfl, rs3⟩⟩⟩
theorem me_chain (hK : g.K = X.K) (hu : X.A.units + 64 < cLine) {o o' : CmpOp} (ha : ME X g Wx xa xn a ma) (hb : ME X g Wx xa xn b mb) (hc : ME X g Wx xa xn c mc) (hm : lastMarks [o, o'] [b, c] = false) :
    ME X g Wx xa xn (.Compare a [o, o'] [b, c] pos) (fun ρ st => (ma ρ st).bind fun x st => (mb ρ st).bind fun y st => (cmpB o x.d y.d st).bind fun k st =>
      if k then (mc ρ st).bind fun z st => (cmpB o' y.d z.d st).bind fun k st => .ok (.v (.bl k)) st else .ok (.v (.bl false)) st) :=
  me_here (pe_chain (opr_cmp hK hu o) (opr_cmp hK hu o') ha hb hc hm) fun σ H Q ρ μ st hs post => tE_bind hs post fun v H1 w st1 μ1 s1 r1 hs1 p1 => tE_bind hs1 p1 fun u H2 w2 st2 μ2 s2 r2 hs2 p2 =>
    ⟨w.d, w2.d, μ2, st2, _, r1.step s2, r2, hs2.rs, post_toB p2 fun b H3 st3 μ3 s3 rs3 p3 => ⟨b, rfl, by
      cases b with
      | false => exact p3.v rs3 (.bl _)
      | true =>
        exact tE_bind (hs2.step s3 rs3) p3 fun z H4 w4 st4 μ4 s4 r4 hs4 p4 => ⟨w2.d, w4.d, μ4, st4, _, (r2.step s3).step s4, r4, hs4.rs, post_toB p4 fun b H5 st5 μ5 s5 rs5 p5 => p5.v rs5 (.bl _)⟩⟩⟩
theorem mt_chain (hK : g.K = X.K) (hu : X.A.units + 64 < cLine) {o o' : CmpOp} (ha : ME X g Wx xa xn a ma) (hb : ME X g Wx xa xn b mb) (hc : ME X g Wx xa xn c mc) (hm : lastMarks [o, o'] [b, c] = false) :
    MT X g Wx xa xn (.Compare a [o, o'] [b, c] pos) (fun ρ st => (ma ρ st).bind fun x st => (mb ρ st).bind fun y st => (cmpB o x.d y.d st).bind fun k st =>
      if k then (mc ρ st).bind fun z st => cmpB o' y.d z.d st else .ok false st) :=
  PT.weak (pt_chain (opr_cmp hK hu o) (opr_cmp hK hu o') ha hb hc hm) fun σ H Q ⟨ρ, μ, st, hs, post⟩ => tE_bind hs post fun v H1 w st1 μ1 s1 r1 hs1 p1 => tE_bind hs1 p1 fun u H2 w2 st2 μ2 s2 r2 hs2 p2 =>
    ⟨w.d, w2.d, μ2, st2, _, r1.step s2, r2, hs2.rs, post_toB p2 fun b H3 st3 μ3 s3 rs3 p3 => ⟨b, rfl, by
      cases b with
      | false => exact ⟨false, rfl, p3 false μ3 μ3 H3 .refl ⟨rfl, rfl, rs3⟩⟩
      | true =>
        exact tE_bind (hs2.step s3 rs3) p3 fun z H4 w4 st4 μ4 s4 r4 hs4 p4 => by
          rw [← bind_okB (cmpB _ _ _ _)] at p4
          exact ⟨w2.d, w4.d, μ4, st4, _, (r2.step s3).step s4, r4, hs4.rs, post_toB p4 fun b H5 st5 μ5 s5 rs5 p5 => ⟨b, rfl, p5 b μ5 μ5 H5 .refl ⟨rfl, rfl, rs5⟩⟩⟩⟩⟩
theorem mt_not (ha : MT X g Wx xa xn a ta) : MT X g Wx xa xn (.UnaryOp .Not a pos) (fun ρ st => (ta ρ st).bind fun b st => .ok (!b) st) :=
  PT.weak (pt_not ha) fun σ H Q ⟨ρ, μ, st, hs, post⟩ => tT_bind hs post fun H1 b st1 μ1 s1 hs1 p1 => p1 (!b) μ1 μ1 H1 .refl ⟨rfl, rfl, hs1.rs⟩
theorem mw_and {rest : List Expr} (ha : MT X g Wx xa xn a ta) (hb : MW X g Wx xa xn (.BoolOp .And (b :: rest) pos) tb) : MW X g Wx xa xn (.BoolOp .And (a :: b :: rest) pos) (fun ρ st => (ta ρ st).bind fun k st => if k then tb ρ st else .ok false st) :=
  PW.weak (pw_and ha hb) fun σ H Q ⟨ρ, μ, st, hs, post⟩ => tT_bind hs post fun H1 b st1 μ1 s1 hs1 p1 => by
    cases b with
    | true => exact ⟨ρ, μ1, st1, hs1, p1⟩
    | false => exact p1 false μ1 μ1 H1 .refl ⟨rfl, rfl, hs1.rs⟩
theorem mw_or {rest : List Expr} (ha : MT X g Wx xa xn a ta) (hb : MW X g Wx xa xn (.BoolOp .Or (b :: rest) pos) tb) : MW X g Wx xa xn (.BoolOp .Or (a :: b :: rest) pos) (fun ρ st => (ta ρ st).bind fun k st => if k then .ok true st else tb ρ st) :=
  PW.weak (pw_or ha hb) fun σ H Q ⟨ρ, μ, st, hs, post⟩ => tT_bind hs post fun H1 b st1 μ1 s1 hs1 p1 => by
    cases b with
    | false => exact ⟨ρ, μ1, st1, hs1, p1⟩
    | true => exact p1 true μ1 μ1 H1 .refl ⟨rfl, rfl, hs1.rs⟩
theorem mw_and1 (ha : MT X g Wx xa xn a ta) : MW X g Wx xa xn (.BoolOp .And [a] pos) ta := pw_and1 ha
theorem mw_or1 (ha : MT X g Wx xa xn a ta) : MW X g Wx xa xn (.BoolOp .Or [a] pos) ta := pw_or1 ha
theorem mt_truth (hK : g.K = X.K) (ha : ME X g Wx xa xn a ma) (he : ∀ whole, isTrue a X.env whole = (do let v ← whole; standAt a.pos; holding [v] (truthy v))) :
    MT X g Wx xa xn a (fun ρ st => (ma ρ st).bind fun w st => match truth st w.d with | some b => .ok b st | none => .stuck) :=
  PT.weak (pt_truth ha he) fun σ H Q ⟨ρ, μ, st, hs, post⟩ => tE_bind hs post fun v H1 w st1 μ1 s1 r1 hs1 p1 => by
    cases e : truth st1 w.d with
    | none => rw [e] at p1; exact p1.elim
    | some k =>
      rw [e] at p1
      have t1 := truth_rel hs1.rs r1 e
      rw [hK] at t1
      exact ⟨k, t1, p1 k μ1 μ1 H1 .refl ⟨rfl, rfl, hs1.rs⟩⟩
theorem me_ite (hc : MT X g Wx xa xn c ta) (ha : ME X g Wx xa xn a ma) (hb : ME X g Wx xa xn b mb) : ME X g Wx xa xn (.IfExp c a b pos) (fun ρ st => (ta ρ st).bind fun k st => if k then ma ρ st else mb ρ st) :=
  me_here (pe_ifExp hc ha hb) fun σ H Q ρ μ st hs post => tT_bind hs post fun H1 b st1 μ1 s1 hs1 p1 => by
    cases b with
    | true => exact ⟨ρ, μ1, st1, hs1, p1⟩
    | false => exact ⟨ρ, μ1, st1, hs1, p1⟩

/-! ### rows of values -/
theorem mes_nil : MEs X g Wx xa xn [] (fun _ st => .ok [] st) := PA.weak pa_nil fun σ H Q ⟨ρ, μ, st, hs, post⟩ => post [] μ μ H .refl ⟨rfl, .nil, hs.rs⟩
theorem mes_cons {es : List Expr} {ms : Lc → Store → Res (List D)} (ha : ME X g Wx xa xn a ma) (hr : MEs X g Wx xa xn es ms) (hst : starEach (a :: es) X.env = (false, eval a X.env) :: starEach es X.env) :
    MEs X g Wx xa xn (a :: es) (fun ρ st => (ma ρ st).bind fun w st => (ms ρ st).bind fun ds st => .ok (w.d :: ds) st) :=
  PA.weak (pa_cons ha hr hst) fun σ H Q ⟨ρ, μ, st, hs, post⟩ => tE_bind hs post fun v H1 w st1 μ1 s1 r1 hs1 p1 => tEs_bind hs1 p1 fun vs H2 ds st2 μ2 s2 r2 hs2 p2 =>
    p2 _ μ2 μ2 H2 .refl ⟨rfl, .cons (r1.step s2) r2, hs2.rs⟩
theorem me_tup {es : List Expr} {k : Nat} {ms : Lc → Store → Res (List D)} (h : MEs X g Wx xa xn es ms) : ME X g Wx xa xn (.Tuple es k pos) (fun ρ st => (ms ρ st).bind fun ds st => if ds.length ≤ big then .ok (.v (.tup ds)) st else .stuck) :=
  me_here (pe_tup h) fun σ H Q ρ μ st hs post => tEs_bind hs post fun vs H1 ds st1 μ1 s1 r1 hs1 p1 => by
    split at p1
    · rename_i hl
      exact ⟨by rw [← r1.length, ← big_eq]; exact hl, p1.newT hs1.rs r1⟩
    · exact p1.elim
theorem me_lst {es : List Expr} {ms : Lc → Store → Res (List D)} (h : MEs X g Wx xa xn es ms) : ME X g Wx xa xn (.List es pos) (fun ρ st => (ms ρ st).bind fun ds st => if ds.length ≤ big then .ok (.fr ds) st else .stuck) :=
  me_here (pe_lst h) fun σ H Q ρ μ st hs post => tEs_bind hs post fun vs H1 ds st1 μ1 s1 r1 hs1 p1 => by
    split at p1
    · rename_i hl
      exact ⟨by rw [← r1.length, ← big_eq]; exact hl, p1.newL hs1.rs r1⟩
    · exact p1.elim

/-! ### places, parts -/
theorem me_idx (hK : g.K = X.K) (hu : X.A.units + 64 < cLine) (ha : ME X g Wx xa xn a ma) (hb : ME X g Wx xa xn b mb) (hp : PlainIx b) : ME X g Wx xa xn (.Subscript a b pos) (fun ρ st => (ma ρ st).bind fun x st => (mb ρ st).bind fun y st => opIx x.d y.d st) :=
  me_here (pe_ix (ixr hK hu) ha hb hp) fun σ H Q ρ μ st hs post => tE_bind hs post fun v H1 w st1 μ1 s1 r1 hs1 p1 => tE_bind hs1 p1 fun u H2 w2 st2 μ2 s2 r2 hs2 p2 =>
    ⟨w.d, w2.d, μ2, st2, _, r1.step s2, r2, hs2.rs, p2⟩
theorem mp_none : MP X g Wx xa xn none (fun _ st => .ok none st) := PO.weak po_none fun σ H Q ⟨ρ, μ, st, hs, post⟩ => post none μ μ H .refl ⟨rfl, rfl, hs.rs⟩
theorem mp_some (ha : ME X g Wx xa xn a ma) : MP X g Wx xa xn (some a) (fun ρ st => (ma ρ st).bind fun w st => match w.d with | .int i => .ok (some i) st | _ => .stuck) :=
  PO.weak (po_some ha) fun σ H Q ⟨ρ, μ, st, hs, post⟩ => tE_bind hs post fun v H1 w st1 μ1 s1 r1 hs1 p1 => by
    cases e : w.d with
    | int i =>
      rw [e] at p1 r1
      cases r1
      exact ⟨i, rfl, p1 (some i) μ1 μ1 H1 .refl ⟨rfl, rfl, hs1.rs⟩⟩
    | _ => rw [e] at p1; exact p1.elim
theorem me_sl (hK : g.K = X.K) {lo hi : Option Expr} {p2 : Pos} {ml mh : Lc → Store → Res (Option Int)} (ha : ME X g Wx xa xn a ma) (hl : MP X g Wx xa xn lo ml) (hh : MP X g Wx xa xn hi mh) :
    ME X g Wx xa xn (.Subscript a (.Slice lo hi none p2) pos) (fun ρ st => (ma ρ st).bind fun x st => (ml ρ st).bind fun l st => (mh ρ st).bind fun h st => opSl x.d l h st) :=
  me_here (pe_slice (slr hK) ha hl hh) fun σ H Q ρ μ st hs post => tE_bind hs post fun v H1 w st1 μ1 s1 r1 hs1 p1 => tP_bind hs1 p1 fun H2 l st2 μ2 s2 hs2 p2 => tP_bind hs2 p2 fun H3 h st3 μ3 s3 hs3 p3 =>
    ⟨w.d, μ3, st3, _, (r1.step s2).step s3, hs3.rs, p3⟩
end
end Fw

/-! ## Fw7 -/
set_option Elab.async false
set_option linter.all false
set_option maxRecDepth 100000
set_option maxHeartbeats 4000000
/-! Built-ins, fields, what changes; statements without loops. -/
namespace Fw
open PySem PySem.Spec PyProof.Rows L2

section
variable {X : Cx} {g : G} {Wx : WX} {xa : XA} {xn : XN} {a b c e o : Expr} {es : List Expr} {pos p : Pos} {ma mb mc : Lc → Store → Res W} {ta tb : Lc → Store → Res Bool} {ms : Lc → Store → Res (List D)}

theorem me_blt (hK : g.K = X.K) (hc : X.calm = true) (hgu : X.A.guards = some []) (hu : X.A.units + 128 < cLine) (b : B) (hg : Gl X (Str.ofString (bName b))) (hm : X.mg (Str.ofString (bName b)) = none) (ha : MEs X g Wx xa xn (e :: es) ms)
    (he : starEach (e :: es) X.env = (false, eval e X.env) :: starEach es X.env) (hpl : (backTo pos (starEach es X.env)).any (·.1) = false) :
    ME X g Wx xa xn (.Call (.Name (Str.ofString (bName b)) p) (e :: es) [] pos) (fun ρ st => (ms ρ st).bind fun ds st => opB b ds st) := by
  have fin : ∀ {te : TE}, PE X (.Call (.Name (Str.ofString (bName b)) p) (e :: es) [] pos) (tCB (rB g b) (tEs g Wx xa xn ms)) → ME X g Wx xa xn (.Call (.Name (Str.ofString (bName b)) p) (e :: es) [] pos) (fun ρ st => (ms ρ st).bind fun ds st => opB b ds st) := fun {te} h =>
    me_here h fun σ H Q ρ μ st hs post => tEs_bind hs post fun vs H1 ds st1 μ1 s1 r1 hs1 p1 => ⟨ds, μ1, st1, _, r1, hs1.rs, p1⟩
  refine fin (te := tC .non) ?_
  have cr := cr_b (g := g) hK hc hgu hu b
  cases b with
  | tuple_ => exact pe_callTy cr hg hm (by decide +kernel) ha (by decide +kernel) (by decide +kernel) he hpl
  | int_ => exact pe_callTy cr hg hm (by decide +kernel) ha (by decide +kernel) (by decide +kernel) he hpl
  | list_ => exact pe_callTy cr hg hm (by decide +kernel) ha (by decide +kernel) (by decide +kernel) he hpl
  | str_ => exact pe_callTy cr hg hm (by decide +kernel) ha (by decide +kernel) (by decide +kernel) he hpl
  | bool_ => exact pe_callTy cr hg hm (by decide +kernel) ha (by decide +kernel) (by decide +kernel) he hpl
  | _ => exact pe_callB cr hg hm (by decide +kernel) ha (by decide +kernel) (by decide +kernel) he hpl

theorem me_isi (hK : g.K = X.K) (k : Ty) {p2 : Pos} (hg : Gl X "isinstance") (hm : X.mg "isinstance" = none) (hg2 : Gl X (Str.ofString (tyName k))) (hm2 : X.mg (Str.ofString (tyName k)) = none) (he : ME X g Wx xa xn e ma)
    (hst : starEach [e, .Name (Str.ofString (tyName k)) p2] X.env = (false, eval e X.env) :: starEach [.Name (Str.ofString (tyName k)) p2] X.env) :
    ME X g Wx xa xn (.Call (.Name "isinstance" p) [e, .Name (Str.ofString (tyName k)) p2] [] pos) (fun ρ st => (ma ρ st).bind fun w st => match isTy k w.d with | some b => .ok (.v (.bl b)) st | none => .stuck) := by
  have hb : PE X (.Name (Str.ofString (tyName k)) p2) (tC (.ty (tyName k))) := by
    cases k with
    | int => exact pe_bltn hg2 hm2 (by decide +kernel) rfl (by decide +kernel) (by decide +kernel)
    | bool => exact pe_bltn hg2 hm2 (by decide +kernel) rfl (by decide +kernel) (by decide +kernel)
    | tuple => exact pe_bltn hg2 hm2 (by decide +kernel) rfl (by decide +kernel) (by decide +kernel)
    | str => exact pe_bltn hg2 hm2 (by decide +kernel) rfl (by decide +kernel) (by decide +kernel)
  refine me_here (pe_callB call_isi hg hm (by decide +kernel) (pa_cons he (pa_cons hb pa_nil rfl) hst) (by decide +kernel) (by decide +kernel) hst rfl) fun σ H Q ρ μ st hs post => ?_
  refine tE_bind hs post fun v H1 w st1 μ1 s1 r1 hs1 p1 => ?_
  cases q : isTy k w.d with
  | none => rw [q] at p1; exact p1.elim
  | some b =>
    rw [q] at p1
    obtain ⟨t, t1, t2⟩ := isTy_rel r1 q
    rw [hK] at t1 t2
    exact ⟨_, _, t, _, b, rfl, .ty _, t1, t2, p1.v hs1.rs (.bl b)⟩

/-- a new list gets a number -/
theorem alloc_tE {σ : L2.St} {H : Hp} {Q : VK} : tE g Wx xa xn (fun ρ st => (ma ρ st).bind fun w st => match w with | .fr ds => .ok (.v (.ref st.length)) (st ++ [.lst ds]) | _ => .stuck) σ H Q → tE g Wx xa xn ma σ H Q :=
  fun ⟨ρ, μ, st, hs, post⟩ => ⟨ρ, μ, st, hs, by
    dsimp only at post
    cases q : ma ρ st with
    | stuck => rw [q] at post; exact post
    | exc c fs st1 => rw [q] at post; exact post
    | ok w st1 =>
      rw [q] at post
      cases w with
      | v d => exact post.elim
      | fr ds =>
        rintro v μ1 α1 H1 s1 ⟨pp, xs, rfl, rfl, hp, hl, r1, rs1⟩
        have sub : ∀ q ∈ μ1 ++ [pp], q ∈ pp :: μ1 := fun q hq => by
          rcases List.mem_append.mp hq with z | z
          · exact List.mem_cons_of_mem _ z
          · have : q = pp := by simpa using z
            rw [this]; exact List.mem_cons_self
        have im : Imp g μ1 (pp :: μ1) H1 (μ1 ++ [pp]) (μ1 ++ [pp]) H1 := by
          have i1 := Imp.less (g := g) (μ := μ1) (α := pp :: μ1) (α' := μ1 ++ [pp]) (H := H1) sub
          refine ⟨i1.lst, i1.scr, i1.tup, fun n a e => ?_⟩
          obtain ⟨hlt, _⟩ := List.getElem?_eq_some_iff.mp e
          rw [List.getElem?_append_left hlt]; exact e
        have s2 : Step μ H (μ1 ++ [pp]) (μ1 ++ [pp]) H1 := ⟨by
            obtain ⟨ν, e⟩ := s1.pre
            exact ⟨ν ++ [pp], by rw [e, List.append_assoc]⟩, fun _ h => h, fun q hq => s1.new q (sub q hq), s1.keep, s1.there⟩
        refine post _ (μ1 ++ [pp]) _ H1 s2 ⟨rfl, .ref ?_, ?_⟩
        · rw [rs1.len, List.getElem?_append_right (Nat.le_refl _)]; simp
        · refine ⟨by simp [rs1.len], ?_, fun n o a h1 h2 => ?_⟩
          · rw [List.nodup_append]
            exact ⟨rs1.nd, by simp, fun x hx y hy => by
              have : y = pp := by simpa using hy
              rw [this]; exact fun z => hp (z ▸ hx)⟩
          · by_cases hn : n < st1.length
            · rw [List.getElem?_append_left hn] at h1
              rw [List.getElem?_append_left (by rw [← rs1.len]; exact hn)] at h2
              exact (rs1.ob n o a h1 h2).imp im rfl
            · rw [List.getElem?_append_right (by omega)] at h1
              rw [List.getElem?_append_right (by rw [← rs1.len]; omega)] at h2
              have hz : n - st1.length = 0 := by
                cases e : n - st1.length with
                | zero => rfl
                | succ k => rw [e] at h1; simp at h1
              rw [hz] at h1
              rw [← rs1.len, hz] at h2
              simp at h1 h2
              subst h1; subst h2
              exact .lst hl (r1.imp im)⟩

theorem me_alloc (h : ME X g Wx xa xn e ma) : ME X g Wx xa xn e (fun ρ st => (ma ρ st).bind fun w st => match w with | .fr ds => .ok (.v (.ref st.length)) (st ++ [.lst ds]) | _ => .stuck) :=
  PE.weak h fun σ H Q q => alloc_tE q
/-! ### what changes in the store -/
theorem Step.set {μ : List Addr} {H : Hp} {a : Addr} {u : HO} (ha : a ∈ μ) (hh : H a ≠ none) : Step μ H μ μ (upd H a u) :=
  ⟨⟨[], by simp⟩, fun _ h => h, fun _ h => .inl h, fun q o e hq => by rw [upd_ne (fun (z : q = a) => hq (by rw [z]; exact ha))]; exact e, fun q o e => by
    by_cases z : q = a
    · rw [z, upd_same]; simp
    · rw [upd_ne z, e]; simp⟩
theorem RS.set {g : G} {μ : List Addr} {H : Hp} {st : Store} (r : RS g μ μ H st) {n : Nat} {a : Addr} {o : Ob} {u : HO} (ha : μ[n]? = some a) (hh : H a ≠ none) (ho : RO g μ μ (upd H a u) o a) : RS g μ μ (upd H a u) (st.set n o) := by
  have hm : a ∈ μ := List.mem_iff_getElem?.mpr ⟨n, ha⟩
  have s1 := Step.set (u := u) hm hh
  refine ⟨by rw [List.length_set]; exact r.len, r.nd, fun k o' b h1 h2 => ?_⟩
  by_cases hk : n = k
  · subst hk
    rw [ha] at h2; cases h2
    obtain ⟨hl, _⟩ := List.getElem?_eq_some_iff.mp h1
    rw [List.length_set] at hl
    rw [List.getElem?_set_self hl] at h1; cases h1
    exact ho
  · rw [List.getElem?_set_ne hk] at h1
    have hb : b ≠ a := fun z => by
      subst z
      have := r.nd
      exact hk ((List.getElem?_inj (List.getElem?_eq_some_iff.mp ha).1 this).mp (ha.trans h2.symm))
    exact (r.ob k o' b h1 h2).imp s1.imp (upd_ne hb)

theorem PlainIx.of {b : Expr} (h : ∀ l u s p, b ≠ .Slice l u s p) : PlainIx b := fun o i => by
  cases b <;> first | rfl | exact absurd rfl (h _ _ _ _)

theorem lookup_nm {g : G} {μ α : List Addr} {H : Hp} {f : Nat} (hf : g.okF f = true) : ∀ {fs : List (Nat × D)} {vs : List (Str × V)}, RF g μ α H fs vs → (∀ d, fs.lookup f = some d → ∃ v, vs.lookup (g.nm f) = some v ∧ RV g μ α H d v) ∧ (fs.lookup f = none → vs.lookup (g.nm f) = none)
  | [], [], _ => ⟨fun _ h => by simp at h, fun _ => rfl⟩
  | [], _ :: _, h => by have := h.1; simp at this
  | _ :: _, [], h => by have := h.1; simp at this
  | (k, d) :: fs, (x, v) :: vs, h => by
    obtain ⟨h1, h2, h3⟩ := h
    simp only [List.map_cons, List.cons.injEq] at h1
    obtain ⟨rfl, h1⟩ := h1
    simp only [List.map_cons] at h3
    cases h3 with
    | cons r1 r2 =>
      have ih := lookup_nm hf (fs := fs) (vs := vs) ⟨h1, fun p hp => h2 p (List.mem_cons_of_mem _ hp), r2⟩
      by_cases e : f = k
      · subst e
        simp only [List.lookup_cons, beq_self_eq_true]
        refine ⟨fun d' e => ?_, fun e => by simp at e⟩
        simp at e; subst e
        exact ⟨v, rfl, r1⟩
      · have e1 : (f == k) = false := by simpa using e
        have e2 : (g.nm f == g.nm k) = false := by
          have : g.nm f ≠ g.nm k := fun z => e (g.inj f k hf (h2 (k, d) List.mem_cons_self) z)
          simpa using this
        simp only [List.lookup_cons, e1, e2]
        exact ih
theorem put_nm {g : G} {μ α : List Addr} {H : Hp} {f : Nat} (hf : g.okF f = true) {d : D} {v : V} (r : RV g μ α H d v) : ∀ {fs : List (Nat × D)} {vs : List (Str × V)}, RF g μ α H fs vs → RF g μ α H (putN f d fs) (putF (g.nm f) v vs)
  | [], [], _ => ⟨rfl, fun p hp => by
      have : p = (f, d) := by simpa [putN] using hp
      rw [this]; exact hf, .cons r .nil⟩
  | [], _ :: _, h => by have := h.1; simp at this
  | _ :: _, [], h => by have := h.1; simp at this
  | (k, d') :: fs, (x, v') :: vs, h => by
    obtain ⟨h1, h2, h3⟩ := h
    simp only [List.map_cons, List.cons.injEq] at h1
    obtain ⟨rfl, h1⟩ := h1
    simp only [List.map_cons] at h3
    cases h3 with
    | cons r1 r2 =>
      have ih := put_nm hf r (fs := fs) (vs := vs) ⟨h1, fun p hp => h2 p (List.mem_cons_of_mem _ hp), r2⟩
      by_cases e : k = f
      · subst e
        unfold putN putF
        rw [if_pos rfl, if_pos rfl]
        exact ⟨by simp [h1], fun p hp => by
          rcases List.mem_cons.mp hp with z | z
          · rw [z]; exact hf
          · exact h2 p (List.mem_cons_of_mem _ z), .cons r r2⟩
      · have e2 : ¬ g.nm k = g.nm f := fun z => e (g.inj k f (h2 (k, d') List.mem_cons_self) hf z)
        unfold putN putF
        rw [if_neg e, if_neg e2]
        exact ⟨by simp [ih.1], fun p hp => by
          rcases List.mem_cons.mp hp with z | z
          · rw [z]; exact h2 (k, d') List.mem_cons_self
          · exact ih.2.1 p z, .cons r1 ih.2.2⟩

/-- what is known of the classes whose instances the program makes -/
structure ClsOk (K : PySem.W.Frag) (g : G) (fl : Nat → List Nat) : Prop where
  cl : ∀ c C f, g.cls c = some C → (fl c).contains f = true → Cls K C ∧ NoAttr K C (g.nm f) ∧ g.okF f = true

theorem getF_rel {fl : Nat → List Nat} (T : ClsOk X.K g fl) {μ : List Addr} {H : Hp} {st : Store} {x : D} {v : V} {f : Nat} {d : D} (hs : RS g μ μ H st) (r : RV g μ μ H x v) (q : getF fl st x f = some d) :
    ∃ n p c C dx fs vs w, x = .ref n ∧ v = .ref p ∧ μ[n]? = some p ∧ st[n]? = some (.ins c fs) ∧ g.cls c = some C ∧ H p = some (.ins C dx vs) ∧ RF g μ μ H fs vs ∧ Cls X.K C ∧ NoAttr X.K C (g.nm f) ∧ g.okF f = true ∧ vs.lookup (g.nm f) = some w ∧ RV g μ μ H d w := by
  cases r with
  | ref h1 =>
    rename_i n p
    cases e : st[n]? with
    | none => simp only [getF, e] at q; cases q
    | some ob =>
      simp only [getF, e] at q
      cases ob with
      | ins c fs =>
        dsimp only at q
        split at q
        · rename_i hf
          have ro := hs.ob n _ p e h1
          cases ro with
          | ins hC hp rf =>
            obtain ⟨k1, k2, k3⟩ := T.cl c _ f hC hf
            obtain ⟨w, l, rw_⟩ := (lookup_nm k3 rf).1 d q
            exact ⟨n, p, c, _, _, fs, _, w, rfl, rfl, h1, e, hC, hp, rf, k1, k2, k3, l, rw_⟩
        · cases q
      | lst _ => cases q
      | dic _ => cases q
  | _ => cases q
theorem me_fld {fl : Nat → List Nat} (T : ClsOk X.K g fl) {f : Nat} {x : Str} (hx : x = g.nm f) (ho : ME X g Wx xa xn o ma) (hb : attributeBase o x X.env (eval o X.env) = eval o X.env) :
    ME X g Wx xa xn (.Attribute o x pos) (fun ρ st => (ma ρ st).bind fun w st => match getF fl st w.d f with | some d => .ok (.v d) st | none => .stuck) :=
  me_here (pe_fld ho hb) fun σ H Q ρ μ st hs post => tE_bind hs post fun v H1 w st1 μ1 s1 r1 hs1 p1 => by
    cases q : getF fl st1 w.d f with
    | none => rw [q] at p1; exact p1.elim
    | some d =>
      rw [q] at p1
      obtain ⟨n, p, c, C, dx, fs, vs, w', e1, e2, e3, e4, e5, e6, e7, k1, k2, k3, l, rw_⟩ := getF_rel T hs1.rs r1 q
      subst e2
      exact ⟨p, C, dx, vs, w', rfl, e6, k1, by rw [hx]; exact k2, by rw [hx]; exact l, p1.v hs1.rs rw_⟩

/-! ### methods of built-in types -/
theorem append_ty {μ : List Addr} {H : Hp} {st : Store} {w : D} {v : V} (hs : RS g μ μ H st) (r1 : RV g μ μ H w v) (h : bmOk .append w st = true) : ∃ n p ds xs, w = .ref n ∧ v = .ref p ∧ μ[n]? = some p ∧ st[n]? = some (.lst ds) ∧ H p = some (.lst xs) ∧ RVs g μ μ H ds xs := by
  cases r1 with
  | ref h1 =>
    rename_i n p
    cases q : st[n]? with
    | none => simp only [bmOk, q] at h; cases h
    | some ob =>
      simp only [bmOk, q] at h
      cases ob with
      | lst ds =>
        have ro := hs.ob _ _ _ q h1
        cases ro with
        | lst hp rl => exact ⟨n, p, ds, _, rfl, rfl, h1, q, hp, rl⟩
      | _ => cases h
  | _ => cases h
theorem post_append {μ : List Addr} {H : Hp} {st : Store} {w : D} {ds : List D} {v : V} {vs : List V} {E : XK} {Q : VK} (hs : RS g μ μ H st) (r1 : RV g μ μ H w v) (r2 : RVs g μ μ H ds vs) (post : PostR g E μ H (opBM .append w ds st) (relW g) Q) : rAppend v vs H Q := by
  unfold opBM at post
  split at post
  · rename_i n x _
    split at post
    · rename_i ys q
      split at post
      · rename_i hl
        cases r1 with
        | ref h1 =>
          rename_i p
          obtain ⟨u, rfl, ru⟩ := r2.one
          have ro := hs.ob _ _ _ q h1
          cases ro with
          | lst hp rl =>
            rename_i xs
            have hn : H p ≠ none := by rw [hp]; simp
            have s2 := Step.set (u := .lst (xs ++ [u])) (List.mem_iff_getElem?.mpr ⟨_, h1⟩) hn
            refine ⟨p, xs, u, rfl, rfl, hp, by rw [← rl.length, ← big_eq]; exact hl, ?_⟩
            exact post _ μ μ _ s2 ⟨rfl, .non, hs.set h1 hn (.lst upd_same ((rl.append (.cons ru .nil)).step s2))⟩
      · exact post.elim
    · exact post.elim
  · rename_i h; cases h
  · exact post.elim
theorem me_append (hb : attributeBase o "append" X.env (eval o X.env) = eval o X.env) {apos : Pos} (ho : ME X g Wx xa xn o ma) (he : MEs X g Wx xa xn [e] ms) (hline : (apos.endLine == pos.line) = true)
    (hs : starEach [e] X.env = (false, eval e X.env) :: starEach [] X.env) :
    ME X g Wx xa xn (.Call (.Attribute o "append" apos) [e] [] pos) (fun ρ st => (ma ρ st).bind fun x st => if bmOk .append x.d st then (ms ρ st).bind fun ds st => opBM .append x.d ds st else .stuck) :=
  me_here (pe_bm PySem.F.plainAttrs_list PySem.F.slot_list_append PySem.F.type_list_append mt_append ho he hb (by rw [hs]; rfl) hline hs rfl) fun σ H Q ρ μ st hs post =>
    tE_bind hs post fun v H1 w st1 μ1 s1 r1 hs1 p1 => by
      split at p1
      · rename_i hk
        obtain ⟨n, p, ds, xs, e1, e2, e3, e4, e5, e6⟩ := append_ty hs1.rs r1 hk
        refine ⟨by rw [e2]; exact .inl ⟨rfl, _, SqL.of e5⟩, tEs_bind hs1 p1 fun vs H2 ds st2 μ2 s2 r2 hs2 p2 => post_append hs2.rs (r1.step s2) r2 p2⟩
      · exact p1.elim
theorem me_bitlen (hb : attributeBase o "bit_length" X.env (eval o X.env) = eval o X.env) {apos : Pos} (ho : ME X g Wx xa xn o ma) (hline : (apos.endLine == pos.line) = true) :
    ME X g Wx xa xn (.Call (.Attribute o "bit_length" apos) [] [] pos) (fun ρ st => (ma ρ st).bind fun x st => if bmOk .bitlen x.d st then Res.bind (.ok [] st) fun ds st => opBM .bitlen x.d ds st else .stuck) :=
  me_here (pe_bits ho hb hline) fun σ H Q ρ μ st hs post =>
    tE_bind hs post fun v H1 w st1 μ1 s1 r1 hs1 p1 => by
      split at p1
      · rename_i hk
        cases hw : w.d with
        | int i =>
          rw [hw] at r1 p1
          cases r1
          exact ⟨i, rfl, p1.v hs1.rs (.int _)⟩
        | _ => rw [hw] at hk; cases hk
      · exact p1.elim

/-! ### statements -/
def FlowPost (g : G) (Wx : WX) (xa : XA) (xn : XN) (D : Ends) (μ : List Addr) (H : Hp) (σ : L2.St) (o : Out) : Prop := match o with
  | .stuck => False
  | .nx ρ st => ∀ σ' μ' H', Step μ H μ' μ' H' → RL g μ' H' ρ σ' → RS g μ' μ' H' st → D.nx σ' H'
  | .bk ρ st => ∀ σ' μ' H', Step μ H μ' μ' H' → RL g μ' H' ρ σ' → RS g μ' μ' H' st → D.bk σ' H'
  | .ret w st => ∀ v μ' α' H', Step μ H μ' α' H' → relW g w st v μ' α' H' → D.rt v H'
  | .exc c fs ρ st => ∀ σ' C dd μ' H', Step μ H μ' μ' H' → RX g μ' H' (some (C, dd)) (some (c, fs)) → RL g μ' H' ρ σ' → RS g μ' μ' H' st → Wx (.ref C) (some dd) σ' H'
/-- what a statement computes; σ is carried for the statements that leave it -/
def tS (g : G) (Wx : WX) (xa : XA) (xn : XN) (m : Lc → Store → Out) : TS := fun D σ H => ∃ ρ μ st, SR g xa xn μ H ρ σ st ∧ FlowPost g Wx xa xn D μ H σ (m ρ st)
theorem PS.weak {X : Cx} {e : Stmt} {t t' : TS} (h : PS X e t) (w : ∀ D σ H, t' D σ H → t D σ H) : PS X e t' := ⟨fun pins s σ H Q I q => h.run pins s σ H Q I (w _ _ _ q)⟩
theorem PSs.weak {X : Cx} {e : List Stmt} {t t' : TS} (h : PSs X e t) (w : ∀ D σ H, t' D σ H → t D σ H) : PSs X e t' := ⟨fun pins s σ H Q I q => h.run pins s σ H Q I (w _ _ _ q)⟩
abbrev MS (X : Cx) (g : G) (Wx : WX) (xa : XA) (xn : XN) (e : Stmt) (m : Lc → Store → Out) : Prop := PS X e (tS g Wx xa xn m)
abbrev MSs (X : Cx) (g : G) (Wx : WX) (xa : XA) (xn : XN) (e : List Stmt) (m : Lc → Store → Out) : Prop := PSs X e (tS g Wx xa xn m)

theorem FlowPost.step {D : Ends} {μ μ1 α1 : List Addr} {H H1 : Hp} {σ σ1 : L2.St} {o : Out} (h : FlowPost g Wx xa xn D μ H σ o) (s : Step μ H μ1 α1 H1) : FlowPost g Wx xa xn D μ1 H1 σ1 o := by
  cases o with
  | stuck => exact h
  | nx ρ st => exact fun σ' μ' H' s' => h σ' μ' H' (s.trans s')
  | bk ρ st => exact fun σ' μ' H' s' => h σ' μ' H' (s.trans s')
  | ret w st => exact fun v μ' α' H' s' => h v μ' α' H' (s.trans s')
  | exc c fs ρ st => exact fun σ' C dd μ' H' s' => h σ' C dd μ' H' (s.trans s')
/-- a statement that begins with an expression -/
def stp {α : Type} (r : Res α) (ρ : Lc) (k : α → Store → Out) : Out := match r with
  | .ok w st => k w st
  | .exc c fs st => .exc c fs ρ st
  | .stuck => .stuck
theorem RL.set {μ : List Addr} {H : Hp} {ρ : Lc} {σ : L2.St} (h : RL g μ H ρ σ) (i : Nat) {d : D} {v : V} (r : RV g μ μ H d v) : RL g μ H (ρ.put i d) (σ.set i (some v)) := by
  refine ⟨by unfold Lc.put; rw [List.length_set, List.length_set]; exact h.1, fun k d' e => ?_⟩
  unfold Lc.put Lc.get at e
  by_cases hk : i = k
  · subst hk
    by_cases hl : i < ρ.length
    · rw [List.getElem?_set_self hl] at e
      simp at e; subst e
      exact ⟨v, by rw [List.getElem?_set_self (by rw [← h.1]; exact hl)], r⟩
    · rw [List.getElem?_eq_none (by simpa using hl)] at e; simp at e
  · rw [List.getElem?_set_ne hk] at e
    obtain ⟨v', e1, r'⟩ := h.2 k d' (by unfold Lc.get; exact e)
    exact ⟨v', by rw [List.getElem?_set_ne hk]; exact e1, r'⟩
theorem stE {D : Ends} {σ : L2.St} {H : Hp} {ρ : Lc} {μ : List Addr} {st : Store} {k : W → Store → Out} (hs : SR g xa xn μ H ρ σ st) (post : FlowPost g Wx xa xn D μ H σ (stp (ma ρ st) ρ k)) {R : V → Hp → Prop}
    (f : ∀ v H1 w st1 μ1 α1, Step μ H μ1 α1 H1 → relW g w st1 v μ1 α1 H1 → SR g xa xn μ1 H1 ρ σ st1 → FlowPost g Wx xa xn D μ1 H1 σ (k w st1) → R v H1) : tE g Wx xa xn ma σ H R := by
  refine ⟨ρ, μ, st, hs, ?_⟩
  cases e : ma ρ st with
  | stuck => rw [e] at post; exact post
  | exc c fs st1 => rw [e] at post; exact fun C dd μ' H' s hx hr => post σ C dd μ' H' s hx (hs.loc.step s) hr
  | ok w st1 =>
    rw [e] at post
    exact fun v μ1 α1 H1 s hr => f v H1 w st1 μ1 α1 s hr (hs.step s.frz hr.frz.2) (FlowPost.step (σ1 := σ) post s)
theorem stT {D : Ends} {σ : L2.St} {H : Hp} {ρ : Lc} {μ : List Addr} {st : Store} {k : Bool → Store → Out} (hs : SR g xa xn μ H ρ σ st) (post : FlowPost g Wx xa xn D μ H σ (stp (ta ρ st) ρ k)) {R : Bool → Hp → Prop}
    (f : ∀ H1 w st1 μ1, Step μ H μ1 μ1 H1 → SR g xa xn μ1 H1 ρ σ st1 → FlowPost g Wx xa xn D μ1 H1 σ (k w st1) → R w H1) : tT g Wx xa xn ta σ H R := by
  refine ⟨ρ, μ, st, hs, ?_⟩
  cases e : ta ρ st with
  | stuck => rw [e] at post; exact post
  | exc c fs st1 => rw [e] at post; exact fun C dd μ' H' s hx hr => post σ C dd μ' H' s hx (hs.loc.step s) hr
  | ok w st1 =>
    rw [e] at post
    rintro b μ1 α1 H1 s ⟨rfl, rfl, hr⟩
    exact f H1 _ st1 _ s (hs.step s hr) (FlowPost.step (σ1 := σ) post s)

theorem ms_set {i : Nat} {x : Str} {pos' : Pos} (hN : X.N.Nodup) (hi : X.N[i]? = some x) (hx : L2.Loc X.env.scope x) (he : ME X g Wx xa xn e ma) (hsw : swapsWith e (some (.Name x pos')) pos.line X.env = pure false) (hf : X.fn x = true ∨ X.env.scope.names.lookup x = some .local) :
    MS X g Wx xa xn (.Assign [.Name x pos'] e pos) (fun ρ st => stp (ma ρ st) ρ fun w st => .nx (ρ.put i w.d) st) :=
  PS.weak (ps_set hN hi hx he hsw hf) fun D σ H ⟨ρ, μ, st, hs, post⟩ => stE hs post fun v H1 w st1 μ1 α1 s1 hr hs1 p1 =>
    p1 _ μ1 H1 .refl (hs1.loc.set i hr.frz.1) hs1.rs
theorem ms_ex (he : ME X g Wx xa xn e ma) (hsw : swapsWith e none pos.line X.env = pure false) : MS X g Wx xa xn (.Expr e pos) (fun ρ st => stp (ma ρ st) ρ fun w st => .nx ρ st) :=
  PS.weak (ps_expr he hsw) fun D σ H ⟨ρ, μ, st, hs, post⟩ => stE hs post fun v H1 w st1 μ1 α1 s1 hr hs1 p1 => p1 _ μ1 H1 .refl hs1.loc hs1.rs
theorem ms_ret (he : ME X g Wx xa xn e ma) : MS X g Wx xa xn (.Return (some e) pos) (fun ρ st => stp (ma ρ st) ρ fun w st => .ret w st) :=
  PS.weak (ps_ret he) fun D σ H ⟨ρ, μ, st, hs, post⟩ => by
    dsimp only at post
    refine ⟨ρ, μ, st, hs, ?_⟩
    cases e : ma ρ st with
    | stuck => rw [e] at post; exact post
    | exc c fs st1 => rw [e] at post; exact fun C dd μ' H' s hx hr => post σ C dd μ' H' s hx (hs.loc.step s) hr
    | ok w st1 => rw [e] at post; exact post
theorem ms_retN : MS X g Wx xa xn (.Return none pos) (fun ρ st => .ret (.v .non) st) :=
  PS.weak ps_retN fun D σ H ⟨ρ, μ, st, hs, post⟩ => post .non μ μ H .refl ⟨rfl, .non, hs.rs⟩
theorem ms_pass : MS X g Wx xa xn (.Pass pos) (fun ρ st => .nx ρ st) := PS.weak ps_pass fun D σ H ⟨ρ, μ, st, hs, post⟩ => post σ μ H .refl hs.loc hs.rs
theorem ms_brk : MS X g Wx xa xn (.Break pos) (fun ρ st => .bk ρ st) := PS.weak ps_break fun D σ H ⟨ρ, μ, st, hs, post⟩ => post σ μ H .refl hs.loc hs.rs
theorem ms_if {sa sb : List Stmt} {ka kb : Lc → Store → Out} (hc : MT X g Wx xa xn c ta) (ha : MSs X g Wx xa xn sa ka) (hb : MSs X g Wx xa xn sb kb) :
    MS X g Wx xa xn (.If c sa sb pos) (fun ρ st => stp (ta ρ st) ρ fun k st => if k then ka ρ st else kb ρ st) :=
  PS.weak (ps_if hc ha hb) fun D σ H ⟨ρ, μ, st, hs, post⟩ => stT hs post fun H1 b st1 μ1 s1 hs1 p1 => by
    cases b with
    | true => exact ⟨ρ, μ1, st1, hs1, p1⟩
    | false => exact ⟨ρ, μ1, st1, hs1, p1⟩
def seqO (o : Out) (k : Lc → Store → Out) : Out := match o with
  | .nx ρ st => k ρ st
  | o => o
theorem mss_nil : MSs X g Wx xa xn [] (fun ρ st => .nx ρ st) := PSs.weak pss_nil fun D σ H ⟨ρ, μ, st, hs, post⟩ => post σ μ H .refl hs.loc hs.rs
theorem mss_cons {s : Stmt} {ss : List Stmt} {k1 k2 : Lc → Store → Out} (h1 : MS X g Wx xa xn s k1) (h2 : MSs X g Wx none none ss k2) : MSs X g Wx xa xn (s :: ss) (fun ρ st => seqO (k1 ρ st) k2) :=
  PSs.weak (pss_cons h1 h2) fun D σ H ⟨ρ, μ, st, hs, post⟩ => by
    dsimp only at post
    refine ⟨ρ, μ, st, hs, ?_⟩
    cases e : k1 ρ st with
    | stuck => rw [e] at post; exact post
    | exc c fs ρ' st1 => rw [e] at post; exact post
    | bk ρ' st1 => rw [e] at post; exact post
    | ret w st1 => rw [e] at post; exact post
    | nx ρ' st1 =>
      rw [e] at post
      exact fun σ' μ' H' s hl hr => ⟨ρ', μ', st1, .mk0 hl hr, FlowPost.step (σ := σ) (σ1 := σ') post s⟩
theorem RL.wipe {μ : List Addr} {H : Hp} {ρ : Lc} {σ : L2.St} (h : RL g μ H ρ σ) : ∀ is : List Nat, RL g μ H (ρ.wipe is) σ
  | [] => h
  | i :: is => by
    have ih := RL.wipe h is
    unfold Lc.wipe
    refine ⟨by rw [List.length_set]; exact ih.1, fun k d e => ?_⟩
    unfold Lc.get at e
    by_cases hk : i = k
    · subst hk
      by_cases hl : i < (ρ.wipe is).length
      · rw [List.getElem?_set_self hl] at e; simp at e
      · rw [List.getElem?_eq_none (by simpa using hl)] at e; simp at e
    · rw [List.getElem?_set_ne hk] at e
      exact ih.2 k d (by unfold Lc.get; exact e)
theorem mss_forget {ss : List Stmt} {k : Lc → Store → Out} {is : List Nat} (h : MSs X g Wx xa xn ss k) : MSs X g Wx xa xn ss (fun ρ st => k (ρ.wipe is) st) :=
  PSs.weak h fun D σ H ⟨ρ, μ, st, hs, post⟩ => ⟨ρ.wipe is, μ, st, ⟨hs.loc.wipe is, hs.rs, hs.ex, hs.slot⟩, post⟩

/-! ### stores -/
theorem setF_post {fl : Nat → List Nat} (T : ClsOk X.K g fl) {μ : List Addr} {H : Hp} {st : Store} {x y : D} {v u : V} {f : Nat} (hs : RS g μ μ H st) (r : RV g μ μ H x v) (ru : RV g μ μ H y u) {st' : Store} (q : setF fl x f y st = .ok () st') :
    ∃ p C dx vs, v = .ref p ∧ H p = some (.ins C dx vs) ∧ Cls X.K C ∧ NoAttr X.K C (g.nm f) ∧ vs.length < 1000 ∧ Step μ H μ μ (upd H p (.ins C dx (putF (g.nm f) u vs))) ∧ RS g μ μ (upd H p (.ins C dx (putF (g.nm f) u vs))) st' ∧ ∃ c, clsId st x = some c ∧ g.cls c = some C := by
  cases r with
  | ref h1 =>
    rename_i n p
    cases e : st[n]? with
    | none => simp only [setF, e] at q; cases q
    | some ob =>
      simp only [setF, e] at q
      cases ob with
      | ins c fs =>
        dsimp only at q
        split at q
        · rename_i hf
          simp only [Bool.and_eq_true, decide_eq_true_eq] at hf
          cases q
          have ro := hs.ob n _ p e h1
          cases ro with
          | ins hC hp rf =>
            obtain ⟨k1, k2, k3⟩ := T.cl c _ f hC hf.1
            have hn : H p ≠ none := by rw [hp]; simp
            have hm := List.mem_iff_getElem?.mpr ⟨n, h1⟩
            have s2 := fun u' => Step.set (u := u') hm hn
            rename_i C dx vs
            have hlen : fs.length = vs.length := by have := congrArg List.length rf.1; simpa using this.symm
            refine ⟨p, _, _, _, rfl, hp, k1, k2, by omega, s2 _, hs.set h1 hn (.ins hC upd_same ((put_nm k3 ru rf).imp (s2 _).imp)), c, by simp only [clsId, e], hC⟩
        · cases q
      | lst _ => cases q
      | dic _ => cases q
  | _ => cases q
theorem ms_fset {fl : Nat → List Nat} (T : ClsOk X.K g fl) {f : Nat} {x : Str} {p' : Pos} (hx : x = g.nm f) (ho : ME X g Wx xa xn o ma) (he : ME X g Wx xa xn e mb) (hsw : swapsWith e (some (.Attribute o x p')) pos.line X.env = pure false) :
    MS X g Wx xa xn (.Assign [.Attribute o x p'] e pos) (fun ρ st => stp ((mb ρ st).bind fun y st => (ma ρ st).bind fun x st => setF fl x.d f y.d st) ρ fun _ st => .nx ρ st) :=
  PS.weak (ps_fld ho he hsw) fun D σ H ⟨ρ, μ, st, hs, post⟩ => by
    dsimp only at post
    have q : PostR g (fun c d H' => Wx c d σ H') μ H ((mb ρ st).bind fun y st => (ma ρ st).bind fun x st => setF fl x.d f y.d st) (relU g) fun _ H' => D.nx σ H' := by
      cases e : (mb ρ st).bind fun y st => (ma ρ st).bind fun x st => setF fl x.d f y.d st with
      | stuck => rw [e] at post; exact post
      | exc c fs st1 => rw [e] at post; exact fun C dd μ' H' s hx hr => post σ C dd μ' H' s hx (hs.loc.step s) hr
      | ok w st1 => rw [e] at post; exact fun b μ' α' H' s hr => by obtain ⟨e2, hr⟩ := hr; subst e2; exact post σ _ H' s (hs.loc.step s) hr
    refine tE_bind hs q fun u H1 w st1 μ1 s1 r1 hs1 p1 => tE_bind hs1 p1 fun v H2 w2 st2 μ2 s2 r2 hs2 p2 => ?_
    cases e : setF fl w2.d f w.d st2 with
    | stuck => rw [e] at p2; exact p2.elim
    | exc c fs st3 =>
      exfalso
      unfold setF at e
      split at e <;> (try cases e)
      split at e <;> (try cases e)
      split at e <;> cases e
    | ok _ st3 =>
      rw [e] at p2
      obtain ⟨pp, C, dx, vs, e1, e2, e3, e4, e5, e6, e7, _⟩ := setF_post T hs2.rs r2 (r1.step s2) e
      exact ⟨pp, C, dx, vs, e1, e2, e3, by rw [hx]; exact e4, e5, by rw [hx]; exact p2 () μ2 μ2 _ e6 ⟨rfl, e7⟩⟩
theorem opSet_post {μ : List Addr} {H : Hp} {st : Store} {x i y : D} {v k u : V} (hs : RS g μ μ H st) (r : RV g μ μ H x v) (ri : RV g μ μ H i k) (ru : RV g μ μ H y u) {st' : Store} (q : opSet x i y st = .ok () st') :
    ∃ p xs z j, v = .ref p ∧ k = .int z ∧ H p = some (.lst xs) ∧ ixN xs.length z = some j ∧ Step μ H μ μ (upd H p (.lst (xs.set j u))) ∧ RS g μ μ (upd H p (.lst (xs.set j u))) st' := by
  unfold opSet at q
  split at q
  · rename_i n z
    split at q
    · rename_i ds e
      cases r with
      | ref h1 =>
        rename_i p
        cases ri
        have ro := hs.ob n _ p e h1
        cases ro with
        | lst hp rl =>
          rename_i xs
          have hl := rl.length
          have hn : H p ≠ none := by rw [hp]; simp
          have hm := List.mem_iff_getElem?.mpr ⟨n, h1⟩
          have s2 := fun u' => Step.set (u := u') hm hn
          split at q
          · rename_i h0
            split at q
            · rename_i h2
              cases q
              exact ⟨p, xs, z, z.toNat, rfl, rfl, hp, by unfold ixN; rw [if_pos h0, if_pos (by omega)], s2 _, hs.set h1 hn (.lst upd_same ((rl.set ru _).imp (s2 _).imp))⟩
            · cases q
          · rename_i h0
            split at q
            · rename_i h2
              cases q
              rw [hl] at h2 ⊢
              exact ⟨p, xs, z, (z + xs.length).toNat, rfl, rfl, hp, by unfold ixN; rw [if_neg h0, if_pos h2], s2 _, hs.set h1 hn (.lst upd_same ((rl.set ru _).imp (s2 _).imp))⟩
            · cases q
    · cases q
  · cases q
theorem opSet_noexc {x i y : D} {st : Store} {c fs st'} : opSet x i y st ≠ .exc c fs st' := by
  unfold opSet
  intro e
  split at e <;> (try cases e)
  split at e <;> (try cases e)
  split at e
  · split at e <;> cases e
  · split at e <;> cases e
theorem ms_iset {i : Expr} {mi : Lc → Store → Res W} {p' : Pos} (ho : ME X g Wx xa xn o ma) (hi : ME X g Wx xa xn i mi) (he : ME X g Wx xa xn e mb)
    (hsw : swapsWithSole [.Subscript o i p'] e pos.line X.env = pure false) (hw : swappedStores [.Subscript o i p'] e X.env = pure none) (h1 : (assignEach [.Subscript o i p'] X.env).map (·.2) = [assign (.Subscript o i p') X.env])
    (hpl : ∀ v, assign (.Subscript o i p') X.env v = (do
      let ov ← holding [v] (eval o X.env)
      let iv ← holding [v, ov] (eval i X.env)
      standAt p'
      holding [v, ov, iv] (setItem ov iv v)
      release [v, ov, iv] [])) :
    MS X g Wx xa xn (.Assign [.Subscript o i p'] e pos) (fun ρ st => stp ((mb ρ st).bind fun y st => (ma ρ st).bind fun x st => (mi ρ st).bind fun z st => opSet x.d z.d y.d st) ρ fun _ st => .nx ρ st) :=
  PS.weak (ps_asg he (pg_sub ho hi set_list hpl) hsw hw h1) fun D σ H ⟨ρ, μ, st, hs, post⟩ => by
    dsimp only at post
    have q : PostR g (fun c d H' => Wx c d σ H') μ H ((mb ρ st).bind fun y st => (ma ρ st).bind fun x st => (mi ρ st).bind fun z st => opSet x.d z.d y.d st) (relU g) fun _ H' => D.nx σ H' := by
      cases e : (mb ρ st).bind fun y st => (ma ρ st).bind fun x st => (mi ρ st).bind fun z st => opSet x.d z.d y.d st with
      | stuck => rw [e] at post; exact post
      | exc c fs st1 => rw [e] at post; exact fun C dd μ' H' s hx hr => post σ C dd μ' H' s hx (hs.loc.step s) hr
      | ok w st1 => rw [e] at post; exact fun b μ' α' H' s hr => by obtain ⟨e2, hr⟩ := hr; subst e2; exact post σ _ H' s (hs.loc.step s) hr
    refine tE_bind hs q fun u H1 w st1 μ1 s1 r1 hs1 p1 => tE_bind hs1 p1 fun v H2 w2 st2 μ2 s2 r2 hs2 p2 => tE_bind hs2 p2 fun k H3 w3 st3 μ3 s3 r3 hs3 p3 => ?_
    cases e : opSet w2.d w3.d w.d st3 with
    | stuck => rw [e] at p3; exact p3.elim
    | exc c fs st3 => exact absurd e opSet_noexc
    | ok _ st4 =>
      rw [e] at p3
      obtain ⟨pp, xs, z, j, e1, e2, e3, e4, e5, e6⟩ := opSet_post hs3.rs (r2.step s3) r3 ((r1.step s2).step s3) e
      exact ⟨pp, xs, z, j, e1, e2, e3, e4, p3 () μ3 μ3 _ e5 ⟨rfl, e6⟩⟩

/-! ### name op= value -/
def rAug (g : G) (o : Operator) : R2 := fun x y H Q => ∃ d e μ st Wx, RV g μ μ H d x ∧ RV g μ μ H e y ∧ RS g μ μ H st ∧ PostR g Wx μ H (opAug o d e st) (relD g) Q
theorem opr_aug (o : Operator) : OpR X (inplaceOp o) (rAug g o) := by
  intro pins s σ H x y v u Q I rx ry h
  obtain ⟨d, e, μ, st, Wx, rd, re, hs, post⟩ := h
  unfold opAug at post
  split at post
  · cases rd; cases re
    split at post
    · exact post.elim
    rename_i hpow
    cases o with
    | Pow => exact absurd rfl hpow
    | Add => exact iop_add pins s σ H _ _ v u Q I rx ry ⟨_, _, rfl, rfl, post.d hs (.int _)⟩
    | Sub => exact iop_sub pins s σ H _ _ v u Q I rx ry ⟨_, _, rfl, rfl, post.d hs (.int _)⟩
    | Mult =>
      simp only [opBin] at post
      split at post
      · rename_i w st' q
        split at q
        · rename_i hc
          cases q
          exact iop_mul pins s σ H _ _ v u Q I rx ry ⟨_, _, rfl, rfl, by simp only [mulOk, decide_eq_true_eq] at hc; exact hc, post.d hs (.int _)⟩
        · cases q
      · exact post.elim
    | FloorDiv =>
      simp only [opBin] at post
      split at post
      · rename_i w st' q
        split at q
        · rename_i hc
          cases q
          exact iop_fdiv pins s σ H _ _ v u Q I rx ry ⟨_, _, rfl, rfl, hc, post.d hs (.int _)⟩
        · cases q
      · exact post.elim
    | Mod =>
      simp only [opBin] at post
      split at post
      · rename_i w st' q
        split at q
        · rename_i hc
          cases q
          exact iop_mod pins s σ H _ _ v u Q I rx ry ⟨_, _, rfl, rfl, hc, post.d hs (.int _)⟩
        · cases q
      · exact post.elim
    | LShift =>
      simp only [opBin] at post
      split at post
      · rename_i w st' q
        split at q
        · rename_i hc
          cases q
          exact iop_shlW pins s σ H _ _ v u Q I rx ry ⟨_, _, rfl, rfl, hc, post.d hs (.int _)⟩
        · cases q
      · exact post.elim
    | RShift =>
      simp only [opBin] at post
      split at post
      · rename_i w st' q
        split at q
        · rename_i hc
          cases q
          exact iop_shr pins s σ H _ _ v u Q I rx ry ⟨_, _, rfl, rfl, hc, post.d hs (.int _)⟩
        · cases q
      · exact post.elim
    | BitXor => exact iop_xor pins s σ H _ _ v u Q I rx ry ⟨_, _, rfl, rfl, post.d hs (.int _)⟩
    | BitAnd => exact iop_and pins s σ H _ _ v u Q I rx ry ⟨_, _, rfl, rfl, post.d hs (.int _)⟩
    | BitOr => exact iop_or pins s σ H _ _ v u Q I rx ry ⟨_, _, rfl, rfl, post.d hs (.int _)⟩
    | _ => simp only [opBin, seqL] at post; first | exact post.elim | (split at post <;> first | exact post.elim | (rename_i q; split at q <;> cases q))
  · split at post
    · rename_i n b _ _ a b' q1 q2
      split at post
      · rename_i hl
        cases rd with
        | ref h1 =>
          rename_i p
          have ro := hs.ob n _ p q1 h1
          cases ro with
          | lst hp rl =>
            rename_i xs
            obtain ⟨q, ys, rfl, hq, r2⟩ := seqL_rel hs re q2
            have hn : H p ≠ none := by rw [hp]; simp
            have s2 := fun u' => Step.set (u := u') (List.mem_iff_getElem?.mpr ⟨n, h1⟩) hn
            rw [rl.length, r2.length, big_eq] at hl
            exact iop_ext pins s σ H _ _ v u Q I rx ry ⟨p, q, xs, ys, rfl, rfl, hp, hq, hl, post _ μ μ _ (s2 _) ⟨rfl, .ref h1, hs.set h1 hn (.lst upd_same ((rl.append r2).imp (s2 _).imp))⟩⟩
      · exact post.elim
    · exact post.elim
  · exact post.elim
theorem opAug_noexc {o : Operator} {x y : D} {st : Store} {c fs st'} : opAug o x y st ≠ .exc c fs st' := by
  unfold opAug
  intro e
  split at e
  · split at e
    · cases e
    · split at e <;> cases e
  · split at e
    · split at e <;> cases e
    · cases e
  · cases e
theorem ms_aug {i : Nat} {x : Str} {op : Operator} {pos' : Pos} (hN : X.N.Nodup) (hi : X.N[i]? = some x) (hx : L2.Loc X.env.scope x) (he : ME X g Wx xa xn e ma) (hf : X.fn x = true ∨ X.env.scope.names.lookup x = some .local) :
    MS X g Wx xa xn (.AugAssign (.Name x pos') op e pos) (fun ρ st => match ρ.get i with | some x => stp ((ma ρ st).bind fun y st => opAug op x y.d st) ρ fun z st => .nx (ρ.put i z) st | none => .stuck) :=
  PS.weak (ps_aug hN hi hx he (opr_aug op) hf) fun D σ H ⟨ρ, μ, st, hs, post⟩ => by
    dsimp only at post
    cases q : ρ.get i with
    | none => rw [q] at post; exact post.elim
    | some d =>
      rw [q] at post
      dsimp only at post
      obtain ⟨v, e1, r⟩ := hs.loc.2 i d q
      refine ⟨v, e1, ?_⟩
      have q : PostR g (fun c d H' => Wx c d σ H') μ H ((ma ρ st).bind fun y st => opAug op d y.d st) (relD g) fun z H' => D.nx (σ.set i (some z)) H' := by
        cases e : (ma ρ st).bind fun y st => opAug op d y.d st with
        | stuck => rw [e] at post; exact post
        | exc c fs st1 => rw [e] at post; exact fun C dd μ' H' s hx hr => post σ C dd μ' H' s hx (hs.loc.step s) hr
        | ok w st1 =>
          rw [e] at post
          rintro z μ' α' H' s ⟨rfl, rz, hr⟩
          exact post _ _ H' s ((hs.loc.step s).set i rz) hr
      exact tE_bind hs q fun u H1 w st1 μ1 s1 r1 hs1 p1 => ⟨d, w.d, μ1, st1, _, r.step s1, r1, hs1.rs, p1⟩
theorem ms_faug {fl : Nat → List Nat} (T : ClsOk X.K g fl) {f : Nat} {x : Str} {op : Operator} {p' : Pos} (hx : x = g.nm f) (ho : ME X g Wx xa xn o ma) (he : ME X g Wx xa xn e mb) :
    MS X g Wx xa xn (.AugAssign (.Attribute o x p') op e pos) (fun ρ st => stp ((ma ρ st).bind fun x st => match getF fl st x.d f with | some v => (mb ρ st).bind fun y st' => (opAug op v y.d st').bind fun z st'' => if clsId st x.d = clsId st'' x.d then setF fl x.d f z st'' else .stuck | none => .stuck) ρ fun _ st => .nx ρ st) :=
  PS.weak (ps_fldaug (op := op) (rd := rAug g op) ho he (fun pins s σ H x y u v Q I rx ry h => opr_aug op pins s σ H x y u v Q I rx ry h)) fun D σ H ⟨ρ, μ, st, hs, post⟩ => by
    dsimp only at post
    have q : PostR g (fun c d H' => Wx c d σ H') μ H ((ma ρ st).bind fun x st => match getF fl st x.d f with | some v => (mb ρ st).bind fun y st' => (opAug op v y.d st').bind fun z st'' => if clsId st x.d = clsId st'' x.d then setF fl x.d f z st'' else .stuck | none => .stuck) (relU g) fun _ H' => D.nx σ H' := by
      cases e : ((ma ρ st).bind fun x st => match getF fl st x.d f with | some v => (mb ρ st).bind fun y st' => (opAug op v y.d st').bind fun z st'' => if clsId st x.d = clsId st'' x.d then setF fl x.d f z st'' else .stuck | none => .stuck) with
      | stuck => rw [e] at post; exact post
      | exc c fs st1 => rw [e] at post; exact fun C dd μ' H' s hx hr => post σ C dd μ' H' s hx (hs.loc.step s) hr
      | ok w st1 => rw [e] at post; exact fun b μ' α' H' s hr => by obtain ⟨e2, hr⟩ := hr; subst e2; exact post σ _ H' s (hs.loc.step s) hr
    refine tE_bind hs q fun v H1 w st1 μ1 s1 r1 hs1 p1 => ?_
    cases q1 : getF fl st1 w.d f with
    | none => rw [q1] at p1; exact p1.elim
    | some d =>
      rw [q1] at p1
      obtain ⟨n, pp, c, C, dx, fs, vs, w', e1, e2, e3, e4, e5, e6, e7, k1, k2, k3, l, rw_⟩ := getF_rel T hs1.rs r1 q1
      subst e2
      refine ⟨pp, C, dx, vs, w', rfl, e6, k1, by rw [hx]; exact k2, by rw [hx]; exact l, ?_⟩
      refine tE_bind hs1 p1 fun u H2 w2 st2 μ2 s2 r2 hs2 p2 => ⟨d, w2.d, μ2, st2, (fun c d H' => Wx c d σ H'), rw_.step s2, r2, hs2.rs, ?_⟩
      refine post_cmp p2 fun z H3 dz st3 μ3 s3 r3 rs3 p3 => ?_
      split at p3
      · rename_i hcl
        cases e : setF fl w.d f dz st3 with
        | stuck => rw [e] at p3; exact p3.elim
        | exc c fs st3 =>
          exfalso
          unfold setF at e
          split at e <;> (try cases e)
          split at e <;> (try cases e)
          split at e <;> cases e
        | ok _ st4 =>
          rw [e] at p3
          obtain ⟨pq, C', dx', vs', f1, f2, f3, f4, f5, f6, f7, c', f8, f9⟩ := setF_post T rs3 ((r1.step s2).step s3) r3 e
          cases f1
          have hc : c' = c := by
            have h1 : clsId st1 w.d = some c := by rw [e1]; simp only [clsId, e4]
            rw [h1, f8] at hcl
            exact (Option.some.inj hcl).symm
          subst hc
          rw [e5] at f9
          cases f9
          exact ⟨dx', vs', f2, f5, by rw [hx]; exact p3 () μ3 μ3 _ f6 ⟨rfl, f7⟩⟩
      · exact p3.elim
end
end Fw

/-! ## Fw8 -/
set_option Elab.async false
set_option linter.all false
set_option maxRecDepth 100000
set_option maxHeartbeats 4000000
/-! Loops: what is walked, targets, for, while. -/
namespace Fw
open PySem PySem.Spec PyProof.Rows L2

/-- the walk J gives these items, as the heap goes on -/
def Walks (g : G) (μ : List Addr) (H : Hp) (J : It) (ds : List D) : Prop := ∀ μ' H', Step μ H μ' μ' H' → J.stop ds.length H' ∧
  ∀ (i : Nat) (d : D), ds[i]? = some d → J.go i H' ∧ ∀ x H'', J.yld i H' x H'' → Step μ' H' μ' μ' H'' ∧ ∀ st, RS g μ' μ' H' st → RS g μ' μ' H'' st ∧ RV g μ' μ' H'' d x
def relI (g : G) : Rel (List D) It := fun ds st J μ α H => α = μ ∧ RS g μ μ H st ∧ Walks g μ H J ds
def tI (g : G) (Wx : WX) (xa : XA) (xn : XN) (m : Lc → Store → Res (List D)) : TI := fun σ H R => ∃ ρ μ st, SR g xa xn μ H ρ σ st ∧ PostR g (fun c d H' => Wx c d σ H') μ H (m ρ st) (relI g) R
abbrev MI (X : Cx) (g : G) (Wx : WX) (xa : XA) (xn : XN) (tg it : Expr) (m : Lc → Store → Res (List D)) : Prop := PI X tg it (tI g Wx xa xn m)
theorem PI.weak {X : Cx} {tg e : Expr} {t t' : TI} (h : PI X tg e t) (w : ∀ σ H Q, t' σ H Q → t σ H Q) : PI X tg e t' := ⟨fun pins s σ H Q I q => h.run pins s σ H Q I (w _ _ _ q)⟩

section
variable {X : Cx} {g : G} {Wx : WX} {xa : XA} {xn : XN} {a b c e tg : Expr} {pos p : Pos} {ma mb mc : Lc → Store → Res W} {ta : Lc → Store → Res Bool}

/-- a list or a tuple is walked -/
theorem pi_seq {te : TE} (hl : PE X e te) : PI X tg e (fun σ H R => te σ H fun x H1 => (∃ q xs, x = .ref q ∧ SqL X.K H1 q xs ∧ R (Itl X.K q) H1) ∨ (∃ q xs, x = .ref q ∧ SqT X.K H1 q xs ∧ R (Itt X.K q) H1)) := by
  refine ⟨fun pins s σ H R I h => thn (hl.run pins s σ H _ I h) ?_⟩
  rintro v s1 ⟨x, H1, J1, r1, ⟨q, xs, rfl, hq, k⟩ | ⟨q, xs, rfl, hq, k⟩⟩
  · cases r1
    obtain ⟨vs, _, isL, _⟩ := J1.list hq
    refine wpAny_pyIter_list isL.isList ⟨_, [s1.heap.objs.size], _, _, H1, rfl, ?_, turn_list q _, ?_, ?_, k⟩
    · exact J1.kept (t' := s1.toks) (fun _ _ z => Heap.get?_push_of_some _ z)
    · exact ⟨_, Heap.get?_push_size _ rfl, rfl, rfl⟩
    · intro y hy
      rw [List.mem_singleton.mp hy]
      exact J1.fpOk (Nat.le_refl _) (J1.hok.fresh (Nat.le_refl _))
  · cases r1
    obtain ⟨vs, _, isT, _⟩ := J1.tuple hq
    refine wpAny_pyIter_tuple (items := vs.toArray) isT ⟨_, [s1.heap.objs.size], _, _, H1, rfl, ?_, turn_tuple q _, ?_, ?_, k⟩
    · exact J1.kept (t' := s1.toks) (fun _ _ z => Heap.get?_push_of_some _ z)
    · exact ⟨_, Heap.get?_push_size _ rfl, rfl, rfl⟩
    · intro y hy
      rw [List.mem_singleton.mp hy]
      exact J1.fpOk (Nat.le_refl _) (J1.hok.fresh (Nat.le_refl _))
theorem mi_E (hK : g.K = X.K) (he : ME X g Wx xa xn e ma) : MI X g Wx xa xn tg e (fun ρ st => (ma ρ st).bind fun w st => match w.d with | .tup ds => .ok ds st | .lst ds => .ok ds st | _ => .stuck) :=
  PI.weak (pi_seq he) fun σ H R ⟨ρ, μ, st, hs, post⟩ => tE_bind hs post fun v H1 w st1 μ1 s1 r1 hs1 p1 => by
    cases hw : w.d with
    | tup ds =>
      rw [hw] at r1 p1
      cases r1 with
      | tup t1 rr =>
        rename_i q xs
        have sq := t1.sq
        rw [hK] at sq
        refine .inr ⟨q, xs, rfl, sq, p1 _ μ1 μ1 H1 .refl ⟨rfl, hs1.rs, fun μ' H' s' => ?_⟩⟩
        have t2 := (t1.step s').sq
        rw [hK] at t2
        have r2 := rr.step s'
        refine ⟨⟨xs, t2, Nat.le_of_eq r2.length.symm⟩, fun i d hd => ?_⟩
        obtain ⟨u, hu, ru⟩ := r2.get hd
        exact ⟨⟨xs, u, t2, hu⟩, fun x H'' ⟨e1, e2⟩ => by
          subst e1
          have := e2 xs t2
          rw [hu] at this; cases this
          exact ⟨.refl, fun _ h => ⟨h, ru⟩⟩⟩
    | lst ds =>
      rw [hw] at r1 p1
      cases r1 with
      | lst t1 rr =>
        rename_i q xs
        refine .inl ⟨q, xs, rfl, SqL.of t1.1, p1 _ μ1 μ1 H1 .refl ⟨rfl, hs1.rs, fun μ' H' s' => ?_⟩⟩
        have t2 : SqL X.K H' q xs := SqL.of (t1.step s').1
        have r2 := rr.step s'
        refine ⟨⟨xs, t2, Nat.le_of_eq r2.length.symm⟩, fun i d hd => ?_⟩
        obtain ⟨u, hu, ru⟩ := r2.get hd
        exact ⟨⟨xs, u, t2, hu⟩, fun x H'' ⟨e1, e2⟩ => by
          subst e1
          have := e2 xs t2
          rw [hu] at this; cases this
          exact ⟨.refl, fun _ h => ⟨h, ru⟩⟩⟩
    | _ => rw [hw] at p1; exact p1.elim
theorem rng_len : ∀ (n : Nat) (lo : Int), (rng lo n).length = n
  | 0, _ => rfl
  | n + 1, lo => by simp [rng, rng_len n]
theorem rng_get : ∀ (n : Nat) (lo : Int) (i : Nat) (d : D), (rng lo n)[i]? = some d → i < n ∧ d = .int (lo + i)
  | 0, _, _, _, h => by simp [rng] at h
  | n + 1, lo, 0, d, h => by simp [rng] at h; subst h; exact ⟨by omega, by simp⟩
  | n + 1, lo, i + 1, d, h => by
    simp only [rng, List.getElem?_cons_succ] at h
    obtain ⟨h1, h2⟩ := rng_get n (lo + 1) i d h
    exact ⟨by omega, by rw [h2]; congr 1; omega⟩
theorem walks_rng {μ : List Addr} {H : Hp} {lo : Int} {n : Nat} : Walks g μ H (Itr lo n) (rng lo n) := fun μ' H' s' =>
  ⟨by rw [rng_len]; exact Nat.le_refl n, fun i d hd => by
    obtain ⟨h1, h2⟩ := rng_get n lo i d hd
    refine ⟨h1, fun x H'' hy => ?_⟩
    obtain ⟨e1, e2⟩ := hy
    subst e1; subst e2; subst h2
    exact ⟨.refl, fun _ h => ⟨h, .int _⟩⟩⟩
theorem mi_R1 (hg : Gl X "range") (hm : X.mg "range" = none) (ha : ME X g Wx xa xn a ma) (hst : starEach [a] X.env = [(false, eval a X.env)]) :
    MI X g Wx xa xn tg (.Call (.Name "range" p) [a] [] pos) (fun ρ st => (ma ρ st).bind fun w st => match w.d with | .int n => if -(2 ^ 62) ≤ n ∧ n < 2 ^ 62 then .ok (rng 0 n.toNat) st else .stuck | _ => .stuck) :=
  PI.weak (pi_range1 hg hm (pa_cons ha pa_nil hst) hst) fun σ H R ⟨ρ, μ, st, hs, post⟩ => tE_bind hs post fun v H1 w st1 μ1 s1 r1 hs1 p1 => by
    cases hw : w.d with
    | int n =>
      rw [hw] at r1 p1
      cases r1
      dsimp only at p1
      split at p1
      · rename_i hc
        exact ⟨n, rfl, hc.1, hc.2, p1 _ μ1 μ1 H1 .refl ⟨rfl, hs1.rs, walks_rng⟩⟩
      · exact p1.elim
    | _ => rw [hw] at p1; exact p1.elim
theorem mi_R2 (hg : Gl X "range") (hm : X.mg "range" = none) (ha : ME X g Wx xa xn a ma) (hb : ME X g Wx xa xn b mb) (hst : starEach [a, b] X.env = [(false, eval a X.env), (false, eval b X.env)]) (hst2 : starEach [b] X.env = [(false, eval b X.env)]) :
    MI X g Wx xa xn tg (.Call (.Name "range" p) [a, b] [] pos) (fun ρ st => (ma ρ st).bind fun x st => (mb ρ st).bind fun y st => match x.d, y.d with
      | .int i, .int j => if -(2 ^ 62) ≤ i ∧ i < 2 ^ 62 ∧ -(2 ^ 62) ≤ j ∧ j < 2 ^ 62 then .ok (rng i (j - i).toNat) st else .stuck | _, _ => .stuck) :=
  PI.weak (pi_range2 hg hm (pa_cons ha (pa_cons hb pa_nil hst2) (by rw [hst, hst2])) hst hst2) fun σ H R ⟨ρ, μ, st, hs, post⟩ => tE_bind hs post fun v H1 w st1 μ1 s1 r1 hs1 p1 => tE_bind hs1 p1 fun v2 H2 w2 st2 μ2 s2 r2 hs2 p2 => by
    cases hw : w.d with
    | int n =>
      cases hw2 : w2.d with
      | int m =>
        rw [hw] at r1 p2
        rw [hw2] at r2 p2
        cases r1; cases r2
        dsimp only at p2
        split at p2
        · rename_i hc
          exact ⟨n, m, rfl, hc, p2 _ μ2 μ2 H2 .refl ⟨rfl, hs2.rs, walks_rng⟩⟩
        · exact p2.elim
      | _ => rw [hw, hw2] at p2; exact p2.elim
    | _ => rw [hw] at p2; exact p2.elim
theorem rngC_len : ∀ (n : Nat) (lo c : Int), (rngC lo c n).length = n
  | 0, _, _ => rfl
  | n + 1, lo, c => by simp [rngC, rngC_len n]
theorem rngC_get : ∀ (n : Nat) (lo c : Int) (i : Nat) (d : D), (rngC lo c n)[i]? = some d → i < n ∧ d = .int (lo + i * c)
  | 0, _, _, _, _, h => by simp [rngC] at h
  | n + 1, lo, c, 0, d, h => by simp [rngC] at h; subst h; exact ⟨by omega, by simp⟩
  | n + 1, lo, c, i + 1, d, h => by
    simp only [rngC, List.getElem?_cons_succ] at h
    obtain ⟨h1, h2⟩ := rngC_get n (lo + c) c i d h
    refine ⟨by omega, ?_⟩
    rw [h2]
    congr 1
    have : ((i + 1 : Nat) : Int) * c = (i : Int) * c + c := by rw [Int.natCast_add, Int.add_mul]; simp
    omega
theorem size_nn (i j c : Int) : 0 ≤ Builtin.Range.rangeSize i j c ∧ (-(2 ^ 40) ≤ i → i < 2 ^ 40 → -(2 ^ 40) ≤ j → j < 2 ^ 40 → c ≠ 0 → Builtin.Range.rangeSize i j c ≤ 2 ^ 42) := by
  unfold Builtin.Range.rangeSize
  have bound : ∀ x d : Int, 0 ≤ x → 0 < d → 0 ≤ x / d ∧ x / d ≤ x := fun x d hx hd => ⟨Int.ediv_nonneg hx (by omega), Int.ediv_le_self _ hx⟩
  split
  · split
    · have := bound (j - i - 1) c (by omega) (by omega)
      exact ⟨by omega, fun _ _ _ _ _ => by omega⟩
    · exact ⟨by omega, fun _ _ _ _ _ => by omega⟩
  · split
    · by_cases hc : c = 0
      · subst hc
        exact ⟨by simp, fun _ _ _ _ h => absurd rfl h⟩
      · have := bound (i - j - 1) (-c) (by omega) (by omega)
        exact ⟨by omega, fun _ _ _ _ _ => by omega⟩
    · exact ⟨by omega, fun _ _ _ _ _ => by omega⟩
theorem small_ok {i j c : Int} (h : -(2 ^ 40) ≤ i ∧ i < 2 ^ 40 ∧ -(2 ^ 40) ≤ j ∧ j < 2 ^ 40 ∧ c ≠ 0 ∧ -1000000 ≤ c ∧ c ≤ 1000000) : Builtin.Range.small i j c = true := by
  obtain ⟨h1, h2, h3, h4, h5, h6, h7⟩ := h
  obtain ⟨s1, s2⟩ := size_nn i j c
  have s3 := s2 h1 h2 h3 h4 h5
  unfold Builtin.Range.small
  generalize Builtin.Range.rangeSize i j c = n at *
  simp only [Builtin.Range.rangeFitsLong, Bool.and_eq_true, Bool.or_eq_true, decide_eq_true_eq, beq_iff_eq]
  split <;> (simp only [Bool.and_eq_true, decide_eq_true_eq]; omega)
theorem walks_rngC {μ : List Addr} {H : Hp} {lo c : Int} {n : Nat} : Walks g μ H (Itc lo c n) (rngC lo c n) := fun μ' H' s' =>
  ⟨by rw [rngC_len]; exact Nat.le_refl n, fun i d hd => by
    obtain ⟨h1, h2⟩ := rngC_get n lo c i d hd
    refine ⟨h1, fun x H'' hy => ?_⟩
    obtain ⟨e1, e2⟩ := hy
    subst e1; subst e2; subst h2
    exact ⟨.refl, fun _ h => ⟨h, .int _⟩⟩⟩
theorem mi_R3 (hg : Gl X "range") (hm : X.mg "range" = none) (ha : ME X g Wx xa xn a ma) (hb : ME X g Wx xa xn b mb) (hc : ME X g Wx xa xn c mc) (hst : starEach [a, b, c] X.env = (false, eval a X.env) :: starEach [b, c] X.env) (hst2 : starEach [b, c] X.env = (false, eval b X.env) :: starEach [c] X.env) (hst3 : starEach [c] X.env = (false, eval c X.env) :: starEach [] X.env)
    (hpl : (backTo pos (starEach [b, c] X.env)).any (·.1) = false) :
    MI X g Wx xa xn tg (.Call (.Name "range" p) [a, b, c] [] pos) (fun ρ st => (ma ρ st).bind fun x st => (mb ρ st).bind fun y st => (mc ρ st).bind fun z st => match x.d, y.d, z.d with
      | .int i, .int j, .int c => if -(2 ^ 40) ≤ i ∧ i < 2 ^ 40 ∧ -(2 ^ 40) ≤ j ∧ j < 2 ^ 40 ∧ c ≠ 0 ∧ -1000000 ≤ c ∧ c ≤ 1000000 then .ok (rngC i c (turns i j c)) st else .stuck | _, _, _ => .stuck) :=
  PI.weak (pi_range3 hg hm (pa_cons ha (pa_cons hb (pa_cons hc pa_nil hst3) hst2) hst) hst hpl) fun σ H R ⟨ρ, μ, st, hs, post⟩ => tE_bind hs post fun v H1 w st1 μ1 s1 r1 hs1 p1 => tE_bind hs1 p1 fun v2 H2 w2 st2 μ2 s2 r2 hs2 p2 =>
    tE_bind hs2 p2 fun v3 H3 w3 st3 μ3 s3 r3 hs3 p3 => by
    cases hw : w.d with
    | int i =>
      cases hw2 : w2.d with
      | int j =>
        cases hw3 : w3.d with
        | int k =>
          rw [hw] at r1 p3
          rw [hw2] at r2 p3
          rw [hw3] at r3 p3
          cases r1; cases r2; cases r3
          dsimp only at p3
          split at p3
          · rename_i hc
            exact ⟨i, j, k, turns i j k, rfl, ⟨hc.2.2.2.2.1, by omega, small_ok hc, by unfold turns; rw [Int.toNat_of_nonneg (size_nn i j k).1]⟩, p3 _ μ3 μ3 H3 .refl ⟨rfl, hs3.rs, walks_rngC⟩⟩
          · exact p3.elim
        | _ => rw [hw, hw2, hw3] at p3; exact p3.elim
      | _ => rw [hw, hw2] at p3; exact p3.elim
    | _ => rw [hw] at p3; exact p3.elim

/-! ### targets -/
def tgIx : T → List Nat
  | .tgN i => [i]
  | .tgT is => is
  | _ => []
def tG (g : G) (xa : XA) (xn : XN) (t : T) : TG := fun v σ H Q => ∃ ρ μ st d ρ', SR g xa xn μ H ρ σ st ∧ RV g μ μ H d v ∧ tgt t d ρ = some ρ' ∧ ∀ σ', σ'.length = σ.length → (∀ j, j ∉ tgIx t → σ'[j]? = σ[j]?) → RL g μ H ρ' σ' → Q σ' H
theorem PG.weak {X : Cx} {e : Expr} {t t' : TG} (h : PG X e t) (w : ∀ v σ H Q, t' v σ H Q → t v σ H Q) : PG X e t' := ⟨fun pins s σ H v u Q I r q => h.run pins s σ H v u Q I r (w _ _ _ _ q)⟩
theorem mg_N {i : Nat} {x : Str} (hN : X.N.Nodup) (hi : X.N[i]? = some x) (hx : L2.Loc X.env.scope x) (hf : X.fn x = true ∨ X.env.scope.names.lookup x = some .local) : PG X (.Name x pos) (tG g xa xn (.tgN i)) :=
  PG.weak (pg_name hN hi hx hf) fun v σ H Q ⟨ρ, μ, st, d, ρ', hs, r, e, k⟩ => by
    cases e
    exact k _ (by simp) (fun j hj => by rw [List.getElem?_set_ne (fun z => hj (by simp [tgIx, z]))]) (hs.loc.set i r)
/-- names one after another -/
def gNames : List Nat → TGs
  | [] => gNil
  | i :: is => gCons (gName i) (gNames is)
theorem gNames_ok {μ : List Addr} {H : Hp} {Q : L2.St → Hp → Prop} : ∀ {is : List Nat} {ds : List D} {vs : List V} {ρ : Lc} {σ : L2.St}, RL g μ H ρ σ → RVs g μ μ H ds vs → ds.length = is.length →
    (∀ σ', σ'.length = σ.length → (∀ j, j ∉ is → σ'[j]? = σ[j]?) → RL g μ H (ρ.puts is ds) σ' → Q σ' H) → gNames is vs σ H Q
  | [], [], _, ρ, σ, hl, r, _, k => by
    cases r
    exact ⟨rfl, k σ rfl (fun _ _ => rfl) hl⟩
  | i :: is, d :: ds, _, ρ, σ, hl, r, e, k => by
    cases r with
    | cons r1 r2 =>
      refine ⟨_, _, rfl, ?_⟩
      exact gNames_ok (hl.set i r1) r2 (by simpa using e) fun σ' e' f' h' => k σ' (by rw [e']; simp) (fun j hj => by
        rw [f' j (fun z => hj (List.mem_cons_of_mem _ z)), List.getElem?_set_ne (fun z => hj (by simp [z]))]) h'
  | [], _ :: _, _, _, _, _, _, e, _ => by simp at e
  | _ :: _, [], _, _, _, _, _, e, _ => by simp at e
theorem mg_T (hK : g.K = X.K) (hc : X.calm = true) {es : List Expr} {k : Nat} {is : List Nat} (h : PGs X es (gNames is)) (hn : (assignEach es X.env).length = is.length) (hst : (assignEach es X.env).findIdx? (·.1) = none) : PG X (.Tuple es k pos) (tG g xa xn (.tgT is)) :=
  PG.weak (pg_tup hc h hn hst) fun v σ H Q ⟨ρ, μ, st, d, ρ', hs, r, e, k⟩ => by
    unfold tgt at e
    cases d with
    | tup ds =>
      dsimp only at e
      split at e
      · rename_i hl
        cases e
        cases r with
        | @tup _ q xs t1 rr =>
          have t2 := t1.sq
          rw [hK] at t2
          exact ⟨q, xs, rfl, t2, by rw [← rr.length]; exact hl, gNames_ok hs.loc rr hl k⟩
      · cases e
    | _ => cases e

/-! ### for, while -/
theorem ms_for {it : Expr} {body : List Stmt} {mi : Lc → Store → Res (List D)} {kb : Lc → Store → Out} {t : T} (hp : PassesOwn (model X.prog X.w) X.A X.env X.xe) (hc : X.calm = true) (hi : MI X g Wx xa xn tg it mi) (hg : PG X tg (tG g none none t)) (hb : MSs X g Wx none none body kb)
    (hs : ∀ x, foldedSetIterable it X.env x = pure x) :
    MS X g Wx xa xn (.For tg it body [] pos) (fun ρ st => stp (mi ρ st) ρ fun ds st => forM (fun d ρ st => match tgt t d ρ with | none => .stuck | some ρ => kb ρ st) ds ρ st) :=
  PS.weak (ps_for hp hc hi hg hb hs) fun D σ H ⟨ρ, μ, st, hsr, post⟩ => by
    dsimp only at post
    refine ⟨ρ, μ, st, hsr, ?_⟩
    cases e : mi ρ st with
    | stuck => rw [e] at post; exact post
    | exc c fs st1 => rw [e] at post; exact fun C dd μ' H' s hx hr => post σ C dd μ' H' s hx (hsr.loc.step s) hr
    | ok ds st1 =>
      rw [e] at post
      rintro J μ1 α1 H1 s1 ⟨eα, rs1, wk⟩
      have s1 : Step μ H μ1 μ1 H1 := s1.frz
      have post1 := FlowPost.step (σ1 := σ) post s1
      refine ⟨fun i m σ H => m + i = ds.length ∧ ∃ ρ μ st, SR g none none μ H ρ σ st ∧ Step μ1 H1 μ μ H ∧ FlowPost g Wx xa xn D μ H σ (forM (fun d ρ st => match tgt t d ρ with | none => .stuck | some ρ => kb ρ st) (ds.drop i) ρ st),
        ⟨ds.length, rfl, ρ, _, st1, (hsr.step s1 rs1).drop, .refl, post1⟩, ?_⟩
      rintro i m σ2 H2 ⟨hm, ρ2, μ2, st2, hs2, s2, p2⟩
      obtain ⟨w1, w2⟩ := wk μ2 H2 s2
      cases m with
      | zero =>
        left
        have : i = ds.length := by omega
        subst this
        rw [List.drop_length] at p2
        exact ⟨w1, p2 σ2 μ2 H2 .refl hs2.loc hs2.rs⟩
      | succ m =>
        right
        have hlt : i < ds.length := by omega
        have hget : ds[i]? = some ds[i] := by simp [hlt]
        obtain ⟨go, yl⟩ := w2 i _ hget
        refine ⟨go, fun σ' H' => m + (i + 1) = ds.length ∧ ∃ ρ μ st, SR g none none μ H' ρ σ' st ∧ Step μ1 H1 μ μ H' ∧ FlowPost g Wx xa xn D μ H' σ' (forM (fun d ρ st => match tgt t d ρ with | none => .stuck | some ρ => kb ρ st) (ds.drop (i + 1)) ρ st),
          fun σ' H' h => ⟨m, by omega, h⟩, fun x H3 hy => ?_⟩
        obtain ⟨s3, k3⟩ := yl x H3 hy
        obtain ⟨rs3, rx⟩ := k3 _ hs2.rs
        have hs3 := hs2.step s3 rs3
        have p3 := FlowPost.step (σ1 := σ2) p2 s3
        rw [List.drop_eq_getElem_cons hlt] at p3
        unfold forM at p3
        cases et : tgt t ds[i] ρ2 with
        | none => rw [et] at p3; exact p3.elim
        | some ρ3 =>
          rw [et] at p3
          refine ⟨ρ2, μ2, st2, ds[i], ρ3, hs3, rx, et, fun σ3 hlen _ hl3 => ⟨ρ3, μ2, st2, SR.mk0 hl3 hs3.rs, ?_⟩⟩
          dsimp only at p3
          cases eb : kb ρ3 st2 with
          | stuck => rw [eb] at p3; exact p3
          | exc c fs ρ4 st4 => rw [eb] at p3; exact p3
          | ret w st4 => rw [eb] at p3; exact p3
          | bk ρ4 st4 => rw [eb] at p3; exact p3
          | nx ρ4 st4 =>
            rw [eb] at p3
            exact fun σ4 μ4 H4 s4 hl4 hr4 => ⟨by omega, ρ4, μ4, st4, SR.mk0 hl4 hr4, (s2.trans s3).trans s4, FlowPost.step (σ1 := σ4) p3 s4⟩
theorem ms_wh {body : List Stmt} {kb : Lc → Store → Out} (hp : PassesOwn (model X.prog X.w) X.A X.env X.xe) (hc : MT X g Wx none none c ta) (hb : MSs X g Wx none none body kb) :
    MS X g Wx xa xn (.While c body [] pos) (fun ρ st => whl ta kb ρ st) :=
  PS.weak (ps_while hp hc hb) fun D σ H ⟨ρ, μ, st, hsr, post⟩ => by
    dsimp only at post
    have ne : whl ta kb ρ st ≠ .stuck := fun z => by rw [z] at post; exact post
    obtain ⟨n, hn⟩ := whl_some ne
    generalize whl ta kb ρ st = o at hn post
    refine ⟨fun m σ H => ∃ ρ μ st, SR g none none μ H ρ σ st ∧ whN ta kb m ρ st = some o ∧ FlowPost g Wx xa xn D μ H σ o, ⟨n, ρ, μ, st, hsr.drop, hn, post⟩, ?_⟩
    rintro m σ2 H2 ⟨ρ2, μ2, st2, hs2, e2, p2⟩
    cases m with
    | zero => simp [whN] at e2
    | succ m =>
      unfold whN at e2
      refine ⟨ρ2, μ2, st2, hs2, ?_⟩
      cases et : ta ρ2 st2 with
      | stuck => rw [et] at e2; cases e2
      | exc c fs st3 =>
        rw [et] at e2
        cases e2
        exact fun C dd μ' H' s hx hr => p2 σ2 C dd μ' H' s hx (hs2.loc.step s) hr
      | ok b st3 =>
        rw [et] at e2
        rintro b' μ3 α3 H3 s3 ⟨rfl, rfl, rs3⟩
        have hs3 := hs2.step s3 rs3
        have p3 := FlowPost.step (σ1 := σ2) p2 s3
        cases b' with
        | false =>
          cases e2
          exact p3 σ2 _ H3 .refl hs3.loc hs3.rs
        | true =>
          dsimp only at e2
          refine ⟨fun σ' H' => ∃ ρ μ st, SR g none none μ H' ρ σ' st ∧ whN ta kb m ρ st = some o ∧ FlowPost g Wx xa xn D μ H' σ' o, fun σ' H' h => ⟨m, by omega, h⟩, ρ2, _, st3, hs3, ?_⟩
          cases eb : kb ρ2 st3 with
          | stuck => rw [eb] at e2; cases e2
          | exc c fs ρ4 st4 => rw [eb] at e2; cases e2; exact p3
          | ret w st4 => rw [eb] at e2; cases e2; exact p3
          | bk ρ4 st4 => rw [eb] at e2; cases e2; exact p3
          | nx ρ4 st4 =>
            rw [eb] at e2
            exact fun σ4 μ4 H4 s4 hl4 hr4 => ⟨ρ4, μ4, st4, SR.mk0 hl4 hr4, e2, FlowPost.step (σ1 := σ4) p3 s4⟩
end
end Fw

/-! ## Fw9 -/
set_option Elab.async false
set_option linter.all false
set_option maxRecDepth 100000
set_option maxHeartbeats 4000000
/-! Defs: what one promises, calls of it, methods, new objects. -/
namespace Fw
open PySem PySem.Spec PyProof.Rows L2

/-- a def's promise where no text of a tuple is under way -/
structure FnG (P : Program) (w : World) (K : PySem.W.Frag) (mg : Str → Option Value) (base : Heap) (k : Nat) (f : Addr) (fd : FuncData) (ps : List Str) (sp : Sp) : Prop where
  len : ∀ vs H Q E, sp vs H Q E → vs.length = ps.length
  run : ∀ (A : Around) (outer : List Env) (s : Shared) (H : Hp) (args : Args) (us : List Value) (vs : List V) (Q : VK) (E : XK), A.guards = some [] → Room k A → Env0 P w K mg base A outer s H →
    BindsTo s fd args (ps.zip us) → Vals vs us → sp vs H Q E → codeAny (model P w) A (.call (.ref f) args) (CR (L2.CX P w) outer P w H s Q E) s
theorem FnG.mono {P w K mg base j k f fd ps sp} (F : FnG P w K mg base j f fd ps sp) (h : j ≤ k) : FnG P w K mg base k f fd ps sp :=
  ⟨F.len, fun A outer s H args us vs Q E hg hr => F.run A outer s H args us vs Q E hg (hr.mono h)⟩
theorem guards_deeper {A : Around} {e : Env} (h : A.guards = some []) : (A.deeper e).guards = some [] := by
  first | exact h | (simp only [Around.deeper]; exact h)
/-- a def by its body -/
theorem fnG_of {P : Program} {w : World} {K : PySem.W.Frag} {mg : Str → Option Value} {base : Heap} {k : Nat} {x qual : Str} {st : Stmt} {f : Addr} {fd : FuncData} {N ps : List Str} {sp : Sp} (F : Fun K x qual st f fd) (S : FnScope N ps (defScope st))
    (len : ∀ vs H Q E, sp vs H Q E → vs.length = ps.length)
    (hbody : ∀ (cdv : Value) (A : Around) (outer : List Env) (s : Shared) (H : Hp) (vs : List V) (Q : VK) (E : XK), A.guards = some [] → Room k (A.deeper (envOfC qual (defScope st) s.heap.objs.size f cdv)) → sp vs H Q E →
      ∃ t, PSs (cxOf (L2.CX P w) P w K mg base N qual (defScope st) f cdv A outer s H E) (defBody st) t ∧ t { nx := fun _ H' => Q .non H', rt := Q } (start N vs) H) :
    FnG P w K mg base (k + 1) f fd ps sp := by
  obtain ⟨oc, od, kV, doc, pm, an, cdv, ct, osl, rfl, lk, hcd⟩ := F.ex
  refine ⟨len, ?_⟩
  intro A outer s H args us vs Q E hgu hroom e0 hbind rv hsp
  have hlen := len _ _ _ _ hsp
  have inK : K.In s.heap := e0.mod.kin.keeps (fun b o z => (e0.bs b o z).1)
  have nolim : s.heap.NoLimit := e0.mod.nolimit.keeps (fun b o z => (e0.bs b o z).1)
  have kinds : ∀ y ∈ ps.zip us, (defScope st).names.lookup y.1 = some .local ∨ ((defScope st).names.lookup y.1 = some .cell ∧ ((cellsFrom (s.heap.objs.size + 1) (defScope st).names []).lookup y.1).isSome = true) := by
    rintro ⟨n, v⟩ hy
    rcases S.par n (List.of_mem_zip hy).1 with q | q
    · exact Or.inl q
    · exact Or.inr ⟨q, PySem.W.cellsFrom_some _ _ _ (Or.inl q)⟩
  refine codeAny_call_function hroom.depth (inK _ _ lk) rfl S.co S.gen rfl (PySem.W.codeRec_of inK hcd) (hbind _ _ _ _ (wpAny_newFunctionEnv_cells S.kind kinds ?_))
  intro env he s1 x1
  subst he
  refine ⟨nolim.keeps x1.toInCall.keep, codeAny_func ?_⟩
  obtain ⟨t, ht, hq⟩ := hbody cdv A outer s H vs Q E hgu (hroom.deeper _) hsp
  have J : Inv (cxOf (L2.CX P w) P w K mg base N qual (defScope st) f cdv A outer s H E) [] (start N vs) H s1 := inv_start S hroom.hd e0 hlen rv x1
  refine wpAny_mono (ht.run [] s1 (start N vs) H _ J hq) ?_ (fun _ _ z => z)
  intro fl s' hs
  cases fl with
  | ret u => exact let ⟨v, _, H', J', r', q'⟩ := hs; ⟨v, H', J'.os, J'.bare, J'.base, J'.hok, r', q'⟩
  | next => exact let ⟨_, H', J', q'⟩ := hs; ⟨V.non, H', J'.os, J'.bare, J'.base, J'.hok, rfl, q'⟩
  | brk => exact let ⟨_, _, _, q'⟩ := hs; False.elim q'
  | cont => exact let ⟨_, _, _, q'⟩ := hs; False.elim q'

def spF (g : G) (m : List D → Store → Res W) : Sp := fun vs H Q E => ∃ ds μ st, RVs g μ μ H ds vs ∧ RS g μ μ H st ∧ PostR g E μ H (m ds st) (relW g) Q
/-- the def number f keeps its promise -/
structure FOk (P : Program) (w : World) (K : PySem.W.Frag) (mg : Str → Option Value) (base : Heap) (g : G) (k : Nat) (a : Addr) (m : List D → Store → Res W) : Prop where
  kp : PySem.W.keepIn K (.ref a) = true
  ex : ∃ fd ps, Binds K fd ps [] ∧ FnG P w K mg base k a fd ps (spF g m)

section
variable {X : Cx} {g : G} {Wx : WX} {xa : XA} {xn : XN} {e o : Expr} {es : List Expr} {pos p apos : Pos} {ma : Lc → Store → Res W} {ms : Lc → Store → Res (List D)} {k : Nat} {a : Addr} {m : List D → Store → Res W}

theorem run_g {pins : List (Addr × Obj)} {σ : L2.St} {H : Hp} {s : Shared} {Q : VK} {us : List Value} {vs : List V} {fd : FuncData} {ps : List Str} {sp : Sp} (F : FnG X.prog X.w X.K X.mg X.base k a fd ps sp) (hgu : X.A.guards = some []) (hr : Room k X.A) (hb : Binds X.K fd ps []) (tk : Takes X Wx)
    (I : Inv X pins σ H s) (r : Vals vs us) (h : sp vs H Q (fun c d H' => Wx c d σ H')) : wpAny (model X.prog X.w) X.A (call (.ref a) us) (EP X pins σ Q) X.xe s := by
  have hl : us.length = ps.length := by rw [← r.length]; exact F.len _ _ _ _ h
  have bd := hb s us I.kIn (by simpa using hl)
  rw [List.append_nil] at bd
  refine wpAny_call (codeAny_mono (F.run X.A X.stack s H ⟨us, []⟩ us vs Q _ hgu hr I.env0 bd r h) ?_)
  intro res s' hq
  match res, hq with
  | .error er, hq => exact tk er s' (XE.of_call I (fun _ _ _ z => z) hq)
  | .ok (.ret u), hq => exact I.after hq
  | .ok .next, hq => exact hq.elim
  | .ok .brk, hq => exact hq.elim
  | .ok .cont, hq => exact hq.elim

/-- a def is called by its name -/
theorem me_call {x : Str} (F : FOk X.prog X.w X.K X.mg X.base g k a m) (hgu : X.A.guards = some []) (hr : Room k X.A) (tk : Takes X Wx) (hg : Gl X x) (hm : X.mg x = some (.ref a)) (ha : MEs X g Wx xa xn (e :: es) ms) (hdb : (x == ("__debug__" : Str)) = false)
    (he : starEach (e :: es) X.env = (false, eval e X.env) :: starEach es X.env) (hpl : (backTo pos (starEach es X.env)).any (·.1) = false) :
    ME X g Wx xa xn (.Call (.Name x p) (e :: es) [] pos) (fun ρ st => (ms ρ st).bind fun ds st => m ds st) := by
  obtain ⟨fd, ps, hb, FG⟩ := F.ex
  refine ⟨fun pins s σ H Q I ⟨ρ, μ, st, hs, post⟩ => wpAny_Call_Name_kw (ld_glob I hg hm (PySem.W.callWith_K (h₀ := X.base) I.ok.mod.kin F.kp (thn (ha.run pos pins s σ H _ I (tEs_bind hs post fun vs H1 ds st1 μ1 s1 r1 hs1 p1 =>
    (show (spF g m) vs H1 Q (fun c d H' => Wx c d σ H') from ⟨ds, μ1, st1, r1, hs1.rs, p1⟩))) ?_) he hpl) hdb)⟩
  rintro us s1 ⟨vs, H1, I1, r, q⟩
  exact ⟨I1.kIn, run_g FG hgu hr hb tk I1 r q⟩
theorem me_call0 {x : Str} (F : FOk X.prog X.w X.K X.mg X.base g k a m) (hgu : X.A.guards = some []) (hr : Room k X.A) (tk : Takes X Wx) (hg : Gl X x) (hm : X.mg x = some (.ref a)) (hdb : (x == ("__debug__" : Str)) = false) :
    ME X g Wx xa xn (.Call (.Name x p) [] [] pos) (fun ρ st => Res.bind (.ok [] st) fun ds st => m ds st) := by
  obtain ⟨fd, ps, hb, FG⟩ := F.ex
  refine ⟨fun pins s σ H Q I ⟨ρ, μ, st, hs, post⟩ => wpAny_Call_Name_kw (ld_glob I hg hm ?_ hdb)⟩
  exact PySem.W.callWith_K0 I.kIn F.kp (run_g (us := []) FG hgu hr hb tk I .nil ⟨[], μ, st, .nil, hs.rs, post⟩)

/-- what stands at an instance -/
theorem ins_at {μ : List Addr} {H : Hp} {st : Store} {n c : Nat} {fs : List (Nat × D)} {v : V} (hs : RS g μ μ H st) (r : RV g μ μ H (.ref n) v) (q : st[n]? = some (.ins c fs)) : ∃ p C dx vs, v = .ref p ∧ g.cls c = some C ∧ H p = some (.ins C dx vs) ∧ RF g μ μ H fs vs := by
  cases r with
  | ref h1 =>
    have ro := hs.ob n _ _ q h1
    cases ro with
    | ins hC hp rf => exact ⟨_, _, _, _, rfl, hC, hp, rf⟩
/-- a method's call -/
def mMeth (c mn : Nat) (ma : Lc → Store → Res W) (ms : Lc → Store → Res (List D)) (m : List D → Store → Res W) : Lc → Store → Res W := fun ρ st => (ma ρ st).bind fun x st => match x.d with
    | .ref n => match st[n]? with
      | some (.ins c' fs) => if c' = c ∧ fs.lookup mn = none then (ms ρ st).bind fun ds st => m (.ref n :: ds) st else .stuck
      | _ => .stuck
    | _ => .stuck
theorem me_methA {x : Str} {c mn : Nat} {C : Addr} {pl : Sem Bool} (hC : g.cls c = some C) (hx : x = g.nm mn) (hok : g.okF mn = true) (cl : Cls X.K C) (hm : Meth X.K C x a) (F : FOk X.prog X.w X.K X.mg X.base g k a m) (hgu : X.A.guards = some []) (hr : Room k X.A) (tk : Takes X Wx)
    (ho : ME X g Wx xa xn o ma) (ha : MEs X g Wx xa xn es ms)
    (hargs : ∀ (pins : List (Addr × Obj)) (s1 : Shared) (σ : L2.St) (H1 : Hp) (q : Addr) (Q : VK), Inv X pins σ H1 s1 → tEs g Wx xa xn ms σ H1 (fun vs H2 => spF g m (.ref q :: vs) H2 Q (fun c d H' => Wx c d σ H')) →
      wpAny (model X.prog X.w) X.A (callWith pos (.ref a) [.ref q] (backTo pos (starEach es X.env)) []) (EP X pins σ Q) X.xe s1)
    (ht : eval (.Call (.Attribute o x apos) es [] pos) X.env = (do
      let ov ← eval o X.env
      standAt apos.atName
      let (f, first) ← holding [ov] (getMethod ov x pl)
      callWith pos f first (backTo pos (starEach es X.env)) (backToKw pos (keywordEach [] X.env)))) :
    ME X g Wx xa xn (.Call (.Attribute o x apos) es [] pos) (mMeth c mn ma ms m) := by
  refine ⟨fun pins s σ H Q I ⟨ρ, μ, st, hs, post⟩ => PySem.W.methodCall_KW (pl := pl) (thn (ho.run pins s σ H _ I (tE_bind hs post (R := fun v H1 => ∃ q dx fs, v = .ref q ∧ H1 q = some (.ins C dx fs) ∧ fs.lookup x = none ∧
    tEs g Wx xa xn ms σ H1 (fun vs H2 => spF g m (.ref q :: vs) H2 Q (fun c d H' => Wx c d σ H'))) ?_)) ?_) ht⟩
  · intro v H1 w st1 μ1 s1 r1 hs1 p1
    split at p1
    · rename_i n hw
      split at p1
      · rename_i c' fs q
        split at p1
        · rename_i hc
          obtain ⟨rfl, hl⟩ := hc
          rw [hw] at r1
          obtain ⟨q1, C', dx, vs, rfl, e1, e2, rf⟩ := ins_at hs1.rs r1 q
          rw [hC] at e1; cases e1
          refine ⟨q1, dx, vs, rfl, e2, by rw [hx]; exact (lookup_nm hok rf).2 hl, tEs_bind hs1 p1 fun vs2 H2 ds st2 μ2 s2 r2 hs2 p2 => ⟨_, μ2, st2, .cons (r1.step s2) r2, hs2.rs, p2⟩⟩
        · exact p1.elim
      · exact p1.elim
    · exact p1.elim
  · rintro u s1 ⟨v, H1, I1, rv, q, dx, fs, rfl, e2, hl, t⟩
    obtain rfl : u = Value.ref q := rv
    exact getmeth_ok I1 e2 cl hm hl (hargs pins s1 σ H1 q Q I1 t)
theorem me_meth {x : Str} {c mn : Nat} {C : Addr} {pl : Sem Bool} (hC : g.cls c = some C) (hx : x = g.nm mn) (hok : g.okF mn = true) (cl : Cls X.K C) (hm : Meth X.K C x a) (F : FOk X.prog X.w X.K X.mg X.base g k a m) (hgu : X.A.guards = some []) (hr : Room k X.A) (tk : Takes X Wx)
    (ho : ME X g Wx xa xn o ma) (ha : MEs X g Wx xa xn (e :: es) ms) (he : starEach (e :: es) X.env = (false, eval e X.env) :: starEach es X.env) (hpl : (backTo pos (starEach es X.env)).any (·.1) = false)
    (ht : eval (.Call (.Attribute o x apos) (e :: es) [] pos) X.env = (do
      let ov ← eval o X.env
      standAt apos.atName
      let (f, first) ← holding [ov] (getMethod ov x pl)
      callWith pos f first (backTo pos (starEach (e :: es) X.env)) (backToKw pos (keywordEach [] X.env)))) :
    ME X g Wx xa xn (.Call (.Attribute o x apos) (e :: es) [] pos) (mMeth c mn ma ms m) := by
  obtain ⟨fd, ps, hb, FG⟩ := F.ex
  refine me_methA hC hx hok cl hm F hgu hr tk ho ha (fun pins s1 σ H1 q Q I1 t => ?_) ht
  refine PySem.W.callWith_K (first := [.ref q]) (h₀ := X.base) I1.ok.mod.kin F.kp (thn (ha.run pos pins s1 σ H1 _ I1 t) ?_) he hpl
  rintro us s2 ⟨vs, H2, I2, r, q2⟩
  exact ⟨I2.kIn, run_g (us := .ref q :: us) (vs := .ref q :: vs) FG hgu hr hb tk I2 (.cons rfl r) q2⟩
theorem me_meth0 {x : Str} {c mn : Nat} {C : Addr} {pl : Sem Bool} (hC : g.cls c = some C) (hx : x = g.nm mn) (hok : g.okF mn = true) (cl : Cls X.K C) (hm : Meth X.K C x a) (F : FOk X.prog X.w X.K X.mg X.base g k a m) (hgu : X.A.guards = some []) (hr : Room k X.A) (tk : Takes X Wx)
    (ho : ME X g Wx xa xn o ma)
    (ht : eval (.Call (.Attribute o x apos) [] [] pos) X.env = (do
      let ov ← eval o X.env
      standAt apos.atName
      let (f, first) ← holding [ov] (getMethod ov x pl)
      callWith pos f first (backTo pos (starEach [] X.env)) (backToKw pos (keywordEach [] X.env)))) :
    ME X g Wx xa xn (.Call (.Attribute o x apos) [] [] pos) (mMeth c mn ma (fun _ st => .ok [] st) m) := by
  obtain ⟨fd, ps, hb, FG⟩ := F.ex
  refine me_methA hC hx hok cl hm F hgu hr tk ho mes_nil (fun pins s1 σ H1 q Q I1 t => ?_) ht
  obtain ⟨ρ, μ, st, hs, post⟩ := t
  exact PySem.W.callWith_K0 (first := [.ref q]) I1.kIn F.kp (run_g (us := [.ref q]) (vs := [.ref q]) FG hgu hr hb tk I1 (.cons rfl .nil) (post [] μ μ H1 .refl ⟨rfl, .nil, hs.rs⟩))

/-! ### a new object -/
def mNew (c : Nat) (ms : Lc → Store → Res (List D)) (m : List D → Store → Res W) : Lc → Store → Res W := fun ρ st => (ms ρ st).bind fun ds st => (m (.ref st.length :: ds) (st ++ [.ins c []])).bind fun w st' => match w with
    | .v .non => .ok (.v (.ref st.length)) st'
    | _ => .stuck
theorem guards_make {A : Around} {C : Addr} {us : List Value} {kw : List (Str × Value)} (h : A.guards = some []) : (A.under (.builtin "type.__call__" ⟨.ref C :: us, kw⟩)).guards = some [] := by
  have e : (Code.builtin "type.__call__" ⟨.ref C :: us, kw⟩).guards = [] := by
    unfold Code.guards
    rw [if_neg (by simp [Code.isGuard, guardIds])]
  have z : (A.under (.builtin "type.__call__" ⟨.ref C :: us, kw⟩)).guards = pushGuards (Code.builtin "type.__call__" ⟨.ref C :: us, kw⟩).guards A.guards := by
    unfold Around.under
    rfl
  rw [z, e, h]
  rfl
/-- the store gets an object -/
theorem RS.push {μ : List Addr} {H : Hp} {st : Store} {o : Ob} {p : Addr} {u : HO} (r : RS g μ μ H st) (hp : H p = none) (ho : RO g (μ ++ [p]) (μ ++ [p]) (upd H p u) o p) : RS g (μ ++ [p]) (μ ++ [p]) (upd H p u) (st ++ [o]) ∧ Step μ H (μ ++ [p]) (μ ++ [p]) (upd H p u) := by
  have np : p ∉ μ := r.fresh hp
  have s1 : Step μ H (μ ++ [p]) (μ ++ [p]) (upd H p u) := ⟨⟨[p], rfl⟩, fun _ h => h, fun q hq => by
      rcases List.mem_append.mp hq with z | z
      · exact .inl z
      · rw [List.mem_singleton.mp z]; exact .inr hp, fun q o e _ => by rw [upd_ne (ne_of_none e hp)]; exact e, fun q o e => by rw [upd_ne (ne_of_none e hp), e]; simp⟩
  refine ⟨⟨by simp [r.len], ?_, fun n o' b h1 h2 => ?_⟩, s1⟩
  · rw [List.nodup_append]
    exact ⟨r.nd, by simp, fun x hx y hy => by
      rw [List.mem_singleton.mp hy]; exact fun z => np (z ▸ hx)⟩
  · by_cases hn : n < st.length
    · rw [List.getElem?_append_left hn] at h1
      rw [List.getElem?_append_left (by rw [← r.len]; exact hn)] at h2
      have ro := r.ob n o' b h1 h2
      exact ro.imp s1.imp (upd_ne fun z => np (z ▸ List.mem_iff_getElem?.mpr ⟨n, h2⟩))
    · rw [List.getElem?_append_right (by omega)] at h1
      rw [List.getElem?_append_right (by rw [← r.len]; omega)] at h2
      have hz : n - st.length = 0 := by
        cases e : n - st.length with
        | zero => rfl
        | succ k => rw [e] at h1; simp at h1
      rw [hz] at h1
      rw [← r.len, hz] at h2
      simp at h1 h2
      subst h1; subst h2
      exact ho
theorem run_new {c : Nat} {C : Addr} {μ : List Addr} {st : Store} {ds : List D} {pins : List (Addr × Obj)} {σ : L2.St} {H : Hp} {s : Shared} {Q : VK} {us : List Value} {vs : List V} (hC : g.cls c = some C) (M : Mk X.K C a) (F : FOk X.prog X.w X.K X.mg X.base g k a m) (hgu : X.A.guards = some []) (hr : Room (k + 1) X.A) (tk : Takes X Wx)
    (I : Inv X pins σ H s) (r : Vals vs us) (rs : RS g μ μ H st) (rd : RVs g μ μ H ds vs)
    (post : PostR g (fun c d H' => Wx c d σ H') μ H ((m (.ref st.length :: ds) (st ++ [.ins c []])).bind fun w st' => match w with | .v .non => .ok (.v (.ref st.length)) st' | _ => .stuck) (relW g) Q) :
    wpAny (model X.prog X.w) X.A (call (.ref C) us) (EP X pins σ Q) X.xe s := by
  obtain ⟨fd, ps, hb, FG⟩ := F.ex
  have x0 : H (s.heap.objs.size + 1) = none := I.hok.fresh (Nat.le_succ _)
  have d0 : H s.heap.objs.size = none := I.hok.fresh (Nat.le_refl _)
  have dx : s.heap.objs.size ≠ s.heap.objs.size + 1 := Nat.ne_of_lt (Nat.lt_succ_self _)
  have I2 := Inv.made (C := C) I
  -- the new heap
  have x1 : (upd H s.heap.objs.size (.own (s.heap.objs.size + 1))) (s.heap.objs.size + 1) = none := by rw [upd_ne (Ne.symm dx)]; exact x0
  have s0 : Step μ H μ μ (upd H s.heap.objs.size (.own (s.heap.objs.size + 1))) := Step.fr0 d0
  have rs0 : RS g μ μ (upd H s.heap.objs.size (.own (s.heap.objs.size + 1))) st := rs.new d0
  obtain ⟨rs2, s2⟩ := rs0.push (o := .ins c []) (u := .ins C s.heap.objs.size []) x1 (.ins hC upd_same ⟨rfl, by simp, .nil⟩)
  have s3 := s0.trans s2
  have rref : RV g (μ ++ [s.heap.objs.size + 1]) (μ ++ [s.heap.objs.size + 1]) (upd (upd H s.heap.objs.size (.own (s.heap.objs.size + 1))) (s.heap.objs.size + 1) (.ins C s.heap.objs.size [])) (.ref st.length) (.ref (s.heap.objs.size + 1)) := .ref (by
    rw [rs.len, List.getElem?_append_right (Nat.le_refl _)]; simp)
  have hsp : spF g m (.ref (s.heap.objs.size + 1) :: vs) (upd (upd H s.heap.objs.size (.own (s.heap.objs.size + 1))) (s.heap.objs.size + 1) (.ins C s.heap.objs.size [])) (fun v H2 => v = .non ∧ Q (.ref (s.heap.objs.size + 1)) H2) (fun c d H' => Wx c d σ H') := by
    refine ⟨.ref st.length :: ds, _, _, .cons rref (rd.step s3), rs2, ?_⟩
    have p2 := PostR.step s3 post
    cases e : m (.ref st.length :: ds) (st ++ [.ins c []]) with
    | stuck => rw [e] at p2; exact p2
    | exc c' fs st' => rw [e] at p2; exact p2
    | ok w st' =>
      rw [e] at p2
      rintro v μ4 α4 H4 s4 hr4
      cases w with
      | fr ds => exact p2.elim
      | v d =>
        cases d with
        | non =>
          obtain ⟨rfl, rv, rs4⟩ := hr4
          cases rv
          exact ⟨rfl, p2 _ _ _ H4 s4 ⟨rfl, rref.step s4, rs4⟩⟩
        | _ => exact p2.elim
  have hl : us.length + 1 = ps.length := by
    have := FG.len _ _ _ _ hsp
    rw [List.length_cons, r.length] at this
    exact this
  have bd := hb _ (Value.ref (s.heap.objs.size + 1) :: us) I2.kIn (by simpa using hl)
  rw [List.append_nil] at bd
  refine wpAny_call (make_map (f := a) I.kIn M.makes M.init (beq_iff_eq.mp M.fn) (codeAny_mono (FG.run _ X.stack _ _ ⟨Value.ref (s.heap.objs.size + 1) :: us, []⟩ (Value.ref (s.heap.objs.size + 1) :: us) (V.ref (s.heap.objs.size + 1) :: vs) _ _ (guards_make hgu) (hr.make C us []) (I2.env0.make C us []) bd (.cons rfl r) hsp) ?_))
  intro res s' hq
  match res, hq with
  | .error er, hq => exact tk er s' (XE.of_call I2 (fun _ _ _ z => z) hq)
  | .ok (.ret u), hq =>
    obtain ⟨v, H', I3, rv, ev, q3⟩ := I2.after hq
    subst ev
    exact ⟨rv, ⟨V.ref (s.heap.objs.size + 1), H', I3, rfl, q3⟩⟩
  | .ok .next, hq => exact hq.elim
  | .ok .brk, hq => exact hq.elim
  | .ok .cont, hq => exact hq.elim
theorem me_new {x : Str} {c : Nat} {C : Addr} (hC : g.cls c = some C) (M : Mk X.K C a) (F : FOk X.prog X.w X.K X.mg X.base g k a m) (hgu : X.A.guards = some []) (hr : Room (k + 1) X.A) (tk : Takes X Wx) (hg : Gl X x) (hm : X.mg x = some (.ref C)) (ha : MEs X g Wx xa xn (e :: es) ms) (hdb : (x == ("__debug__" : Str)) = false)
    (he : starEach (e :: es) X.env = (false, eval e X.env) :: starEach es X.env) (hpl : (backTo pos (starEach es X.env)).any (·.1) = false) :
    ME X g Wx xa xn (.Call (.Name x p) (e :: es) [] pos) (mNew c ms m) := by
  refine ⟨fun pins s σ H Q I ⟨ρ, μ, st, hs, post⟩ => wpAny_Call_Name_kw (ld_glob I hg hm (PySem.W.callWith_K (h₀ := X.base) I.ok.mod.kin M.kp (thn (ha.run pos pins s σ H _ I (tEs_bind hs post fun vs H1 ds st1 μ1 s1 r1 hs1 p1 =>
    (show (fun (vs : List V) (H1 : Hp) => ∃ ds μ1 st1, RVs g μ1 μ1 H1 ds vs ∧ RS g μ1 μ1 H1 st1 ∧ PostR g (fun c d H' => Wx c d σ H') μ1 H1 ((m (.ref st1.length :: ds) (st1 ++ [.ins c []])).bind fun w st' => match w with | .v .non => .ok (.v (.ref st1.length)) st' | _ => .stuck) (relW g) Q) vs H1 from ⟨ds, μ1, st1, r1, hs1.rs, p1⟩))) ?_) he hpl) hdb)⟩
  rintro us s1 ⟨vs, H1, I1, r, ds, μ1, st1, r1, rs1, q⟩
  exact ⟨I1.kIn, run_new hC M F hgu hr tk I1 r rs1 r1 q⟩
theorem me_new0 {x : Str} {c : Nat} {C : Addr} (hC : g.cls c = some C) (M : Mk X.K C a) (F : FOk X.prog X.w X.K X.mg X.base g k a m) (hgu : X.A.guards = some []) (hr : Room (k + 1) X.A) (tk : Takes X Wx) (hg : Gl X x) (hm : X.mg x = some (.ref C)) (hdb : (x == ("__debug__" : Str)) = false) :
    ME X g Wx xa xn (.Call (.Name x p) [] [] pos) (mNew c (fun _ st => .ok [] st) m) := by
  refine ⟨fun pins s σ H Q I ⟨ρ, μ, st, hs, post⟩ => wpAny_Call_Name_kw (ld_glob I hg hm ?_ hdb)⟩
  exact PySem.W.callWith_K0 I.kIn M.kp (run_new (us := []) hC M F hgu hr tk I .nil hs.rs .nil post)
end
end Fw

/-! ## Fx1 -/
set_option Elab.async false
set_option linter.all false
set_option maxRecDepth 100000
set_option maxHeartbeats 4000000
/-! An own exception's __init__ that says super().__init__(..) and lays its fields. -/
namespace Fw
open PySem PySem.W PySem.Calls PyProof.Rows PySem.HandSPX

/-- a method's call on one line -/
theorem mcall_eq {o : Expr} {name : Str} {apos pos : Pos} {args : List Expr} {env : Env} (hform : methodCallForm (args.length + 0) (backTo pos (starEach args env)) (backToKw pos (keywordEach [] env)) = true) (hpos : (apos.endLine == pos.line) = true) :
    eval (.Call (.Attribute o name apos) args [] pos) env = (do
      let ov ← attributeBase o name env (eval o env)
      standAt apos.atName
      let (f, first) ← holding [ov] (getMethod ov name (do return (← importBound o env).getD true))
      callWith pos f first (backTo pos (starEach args env)) (backToKw pos (keywordEach [] env))) := by
  have e : methodCallPos true o env apos pos = pure pos := by unfold methodCallPos; simp [hpos]
  show (attributeBase o name env (eval o env) >>= fun ov => standAt apos.atName >>= fun _ => methodCall o name apos pos env ov (args.length + 0) (backTo pos (starEach args env)) (backToKw pos (keywordEach [] env))) = _
  unfold methodCall
  simp only [hform, e, pure_bind]
  rfl
/-- what the written part says of a def whose cell holds the class D -/
structure SiFn (K : Frag) (P : Program) (fI D : Addr) (body : List Stmt) (names : List Str) (f1 : Str) : Prop where
  ex : ∃ (oc : Value) (od : Option Addr) (qual : Str) (params : Arguments) (scope : Scope) (kV doc pm ct : Value) (an : Option Addr) (osl : Array (Option Value)) (cda cc : Addr) (ar : Arg)
      (ccl cl : Value) (cdd cld : Option Addr) (vs : Array Value) (ccs csl : Array (Option Value)) (file : Str) (tf : Tok) (cdD : ClassData),
    K.lookup fI = some ⟨oc, od, .func (ksFn "__init__" qual params body scope .none kV doc pm an (.ref cda) ct cc), osl⟩ ∧ codeIn K (.ref cda) qual = true ∧
    (∀ (us : List Value), us.length = names.length → bindArgs (ksFn "__init__" qual params body scope .none kV doc pm an (.ref cda) ct cc) ⟨us, []⟩ = pure (names.zip us)) ∧
    (params.posonlyargs ++ params.args).head? = some ar ∧ ar.arg = f1 ∧
    K.lookup cda = some ⟨ccl, cdd, .fields vs, ccs⟩ ∧ vs[2]? = some (.str file tf) ∧ ((P.main.file : Str) == file) = true ∧
    K.lookup cc = some ⟨cl, cld, .cell (some (.ref D)), csl⟩ ∧ clsIn K D = some cdD ∧
    scope.names.lookup ("super" : Str) = some .globalImplicit ∧ scope.names.lookup ("__class__" : Str) = some .free ∧ (∀ x ∈ names, scope.names.lookup x = some .local) ∧
    scope.kind = .function ∧ scope.isCoroutine = false ∧ scope.isGenerator = false ∧ scope.names.all (fun x => decide (x.2 ≠ .cell)) = true ∧ (P.main.scope.names.lookup ("super" : Str)).isSome = false ∧ ("super" : Str) ∉ names ∧ f1 ∈ names
/-- .. of a class of exceptions -/
structure XCls (K : Frag) (C D fI : Addr) : Prop where
  cls : ∃ nm q N bs bm sn sub ab col dd k0 k1 k2 k3 k5, K.lookup C = some (excClassObj nm q C N bs bm true sn sub ab col dd k0 k1 k2 k3 k5 "ValueError.__new__") ∧ refsVE bm = true
  sa : findIn K (.ref C) "__setattr__" = some (some (.builtin "object.__setattr__"))
  iC : findIn K (.ref C) "__init__" = some (some (.ref fI))
  tI : typeIn K (.ref fI) = some (.type "function")
  kC : keepIn K (.ref C) = true
  exC : subIn K (.ref C) (.type "BaseException") = some true
  tyC : typeIn K (.ref C) = some (.type "type")
  sub : mroIn K C (.ref D) = some true
  along : ks_superIn K C D "__init__" = some (some (.builtin "ValueError.__init__"))
  veC : subIn K (.ref C) (.type "ValueError") = some true
  any : nsIn K cStatics "thirdparty.any" = some none

theorem lookup_mem {α : Type} {a : Str} {b : α} : ∀ {l : List (Str × α)}, (l.map (·.1)).Nodup → (a, b) ∈ l → l.lookup a = some b
  | [], _, h => by cases h
  | (c, d) :: l, nd, h => by
    rw [List.map_cons, List.nodup_cons] at nd
    rcases List.mem_cons.mp h with e | e
    · cases e; simp [List.lookup]
    · have ne : a ≠ c := fun z => nd.1 (by rw [← z]; exact List.mem_map_of_mem (f := (·.1)) e)
      have q : (a == c) = false := by simpa using ne
      simp only [List.lookup, q]
      exact lookup_mem nd.2 e
theorem zip_mem {α β γ : Type} : ∀ {ns : List α} {us : List β} {f : α → Option β}, ns.length = us.length → (∀ a b, (a, b) ∈ ns.zip us → f a = some b) → ns.map f = us.map some
  | [], [], _, _, _ => rfl
  | [], _ :: _, _, h, _ => by simp at h
  | _ :: _, [], _, h, _ => by simp at h
  | n :: ns, u :: us, f, h, k => by
    rw [List.map_cons, List.map_cons, k n u (by simp), zip_mem (γ := γ) (by simpa using h) fun a b z => k a b (by simp [z])]
theorem rev_lookup {α : Type} {ns : List Str} {us : List α} (nd : ns.Nodup) (h : ns.length = us.length) : ns.map (fun y => (ns.zip us).reverse.lookup y) = us.map some :=
  zip_mem (γ := Unit) h fun a b z => lookup_mem (by rw [List.map_reverse, List.map_fst_zip (Nat.le_of_eq h)]; exact (List.reverse_perm _).nodup_iff.mpr nd) (List.mem_reverse.mpr z)
section
variable {prog : Program} {w : World} {A : Around} {E : Value → Shared → Prop} {h : Heap} {g : Array GenState} {d : Drawn} {t : Nat} {os : OsState}
variable {nm q : Str} {C N : Addr} {bs bm : List Value} {hdct : Bool} {sn : List Str} {sub : List Value} {ab : Bool} {col : Option Bool} {dd : Option Addr} {k0 k1 k2 k3 k5 : Option Value}
/-- ValueError.__init__ bound to an exception is called -/
theorem call_mw {u e t0 : Addr} {rest : List Value} {Q : Value → Shared → Prop}
    (hC : h.get? C = some (excClassObj nm q C N bs bm hdct sn sub ab col dd k0 k1 k2 k3 k5 "ValueError.__new__")) (he : h.get? e = some (excO C t0)) (hu : h.get? u = some (kxs_mw "ValueError.__init__" e)) (hrest : rest.length ≤ sizeLine)
    (hq : ∀ h' t1, (∀ b o, b ≠ e → h.get? b = some o → h'.get? b = some o) → h'.get? e = some (excO C t1) → Q .none ⟨h', g, d, t, os⟩) :
    wpAny (model prog w) A (call (.ref u) rest) Q E ⟨h, g, d, t, os⟩ := by
  refine wpAny_call (codeAny_of_tree ?_)
  show wpAny _ A.in1 (callAny (.ref u) ⟨rest, []⟩) _ _ _
  simp only [callAny]
  refine wpAny_bind (wpAny_load hu ?_)
  simp only [kxs_mw, show (Value.type "method-wrapper" == Value.type "method" || Value.type "method-wrapper" == Value.type "builtin_function_or_method" || Value.type "method-wrapper" == Value.type "method-wrapper") = true by decide, if_true]
  refine W.KFB.if_so (by decide) ?_
  refine wpAny_bind (check_bound_init F.excBase_ValueError.toExcCallFacts hC he rfl ?_)
  refine wpAny_bind (wpAny_pure (wpAny_pure ?_))
  refine ⟨Code.quiet_builtin _ (by decide +kernel), codeAny_builtin F.excBase_ValueError.initEntry ?_⟩
  rw [Around.under_plainId F.excBase_ValueError.init.plain _]
  wp_walk
  refine hq _ h.objs.size (fun b o hb ho => ?_) ?_
  · rw [Heap.get?_update_other _ _ (Ne.symm hb)]
    exact Heap.get?_push_of_some _ ho
  · rw [Heap.get?_update_self _ (Heap.get?_push_of_some _ he) rfl]
    rfl
end

section
variable {prog : Program} {w : World} {A : Around} {E : Value → Shared → Prop} {s : Shared} {K : Frag} {C D fI : Addr}
/-- the names' values -/
theorem spliced_names {p : Pos} {env : Env} {m : Str → Option Value} (hk : env.scope.kind = .function) : ∀ {xs : List (Str × Pos)} {us : List Value} {s : Shared} {Q : List Value → Shared → Prop}, s.heap.Ns env.locals m →
    xs.map (fun y => m y.1) = us.map some → (∀ y ∈ xs, env.kindOf y.1 = some .local ∧ (y.1 == ("__debug__" : Str)) = false) →
    Q us s → wpAny (model prog w) A (spliced (backTo p (starEach (xs.map fun y => Expr.Name y.1 y.2) env))) Q E s
  | [], us, s, Q, hn, he, hl, hq => by
    cases us with
    | nil => exact Calls.spliced_nil hq
    | cons _ _ => cases he
  | (x, q) :: xs, us, s, Q, hn, he, hl, hq => by
    cases us with
    | nil => cases he
    | cons u us =>
      simp only [List.map_cons, List.cons.injEq] at he
      refine Calls.spliced_cons ?_
      exact wpAny_Name (wpAny_loadName_local hk (hl _ List.mem_cons_self).1 hn he.1 (spliced_names hk hn he.2 (fun y hy => hl y (List.mem_cons_of_mem _ hy)) hq)) (hl _ List.mem_cons_self).2

/-- the first line of such an __init__, and the call -/
theorem si_run {mg : Str → Option Value} {R : Result → Shared → Prop} {x t0 : Addr} {us : List Value} {xs : List (Str × Pos)} {p0 p1 p2 p3 p4 : Pos} {rest : List Stmt}
    (T : SiFn K prog fI D (.Expr (.Call (.Attribute (.Call (.Name "super" p0) [] [] p1) "__init__" p2) (xs.map fun y => Expr.Name y.1 y.2) [] p3) p4 :: rest) (("self" : Str) :: xs.map (·.1)) "self") (XC : XCls K C D fI)
    (X : K.In s.heap) (hlim : s.heap.NoLimit) (hG : s.heap.Ns mainGlobals mg) (hm : mg "super" = none) (hB : ∃ mb, s.heap.Ns builtinsNs mb ∧ mb "super" = some (.type "super")) (hx : s.heap.get? x = some (excO C t0)) (hroom : A.depth < recursionLimit)
    (hl : us.length = xs.length) (hz : us.length ≤ sizeLine) (hnd : (("self" : Str) :: xs.map (·.1)).Nodup) (hne : xs ≠ []) (pl : Env → Sem Bool) (hev : ∀ env, eval (.Call (.Attribute (.Call (.Name "super" p0) [] [] p1) "__init__" p2) (xs.map fun y => Expr.Name y.1 y.2) [] p3) env = (do
      let ov ← attributeBase (.Call (.Name "super" p0) [] [] p1) "__init__" env (eval (.Call (.Name "super" p0) [] [] p1) env)
      standAt p2.atName
      let (f, first) ← holding [ov] (getMethod ov "__init__" (pl env))
      callWith p3 f first (backTo p3 (starEach (xs.map fun y => Expr.Name y.1 y.2) env)) []))
    (hplain : ∀ p env, (backTo p (starEach (xs.map fun y => Expr.Name y.1 y.2) env)).any (·.1) = false) (hdb : ∀ y ∈ xs, (y.1 == ("__debug__" : Str)) = false)
    (hrest : ∀ (env : Env) (A' : Around) (E' : Value → Shared → Prop) (h₁ : Heap) (tk : Nat) (t1 : Addr) (m : Str → Option Value), env.scope.kind = .function → (∀ y ∈ (("self" : Str) :: xs.map (·.1)), env.kindOf y = some .local) → s.heap.objs.size ≤ env.locals → h₁.Ns env.locals m →
      m "self" = some (.ref x) → (xs.map fun y => m y.1) = us.map some → (∀ b o, b ≠ x → s.heap.get? b = some o → h₁.get? b = some o) → h₁.get? x = some (excO C t1) →
      wpAny (model prog w) A' (execs rest env) (fun fl s' => R (.ok (.ret (match fl with | .ret v => v | _ => .none))) s') E' { s with heap := h₁, toks := tk }) :
    codeAny (model prog w) A (.call (.ref fI) ⟨.ref x :: us, []⟩) R s := by
  obtain ⟨oc, od, qual, params, scope, kV, doc, pm, ct, an, osl, cda, cc, ar, ccl, cl, cdd, cld, vs, ccs, csl, file, tf, cdD, ho, hcd, hbind, hp, har, hcode, hvs, hfile, hcell, hD, hks, hkc, hloc, hk, hco, hgen, hnc, htop, hsn, hsf⟩ := T.ex
  obtain ⟨nm, q, N, bs, bm, sn, sub, ab, col, dd, k0, k1, k2, k3, k5, hC, hbm⟩ := XC.cls
  have hlen : (Value.ref x :: us).length = (("self" : Str) :: xs.map (·.1)).length := by simp [hl]
  refine ks_codeAny_call_defAt (fd := ksFn "__init__" qual params _ scope .none kV doc pm an (.ref cda) ct cc) (binds := (("self" : Str) :: xs.map (·.1)).zip (.ref x :: us)) hroom (X _ _ ho) rfl hlim (codeRec_of X hcd) rfl
    (.of_eq (hbind _ hlen)) (fun y hy => by simpa using List.all_eq_true.mp hnc y hy) (fun y hy => hloc _ (List.of_mem_zip hy).1) (fun h₀ hns hk₀ => ?_) hco hgen hk
  have mall := rev_lookup hnd (us := Value.ref x :: us) hlen.symm
  rw [List.map_cons, List.map_cons, List.cons.injEq, List.map_map] at mall
  generalize hm0 : (fun y : Str => (((("self" : Str) :: xs.map (·.1)).zip (Value.ref x :: us)).reverse.lookup y)) = m at hns
  have mself : m "self" = some (.ref x) := by rw [← hm0]; exact mall.1
  have mrest : (xs.map fun y => m y.1) = us.map some := by rw [← hm0]; exact mall.2
  clear hm0 mall
  obtain ⟨hp0, g, d, t, os⟩ := s
  dsimp only at *
  have X0 : K.In h₀ := X.keeps hk₀
  have hx0 := hk₀ _ _ hx
  refine ks_wpAt_execs_cons (ks_wpAt_Expr_any (ks_wpAt_MethodCall (pl := pl _) ?_ (hev _)) (by show (scope.kind == .module && _) = false; rw [hk]; rfl))
  obtain ⟨oD, hD1, hD2⟩ : ∃ oD, h₀.get? D = some oD ∧ oD.data = .cls cdD := by
    unfold clsIn at hD
    split at hD
    · rename_i c d cd' sl ho
      cases hD
      exact ⟨_, X0 _ _ ho, rfl⟩
    · cases hD
  obtain ⟨mb, hb1, hb2⟩ := hB
  refine ks_wpAt_super_base (env := ksEnv qual scope hp0.objs.size fI (.ref cda) cc) hks hkc (by decide) rfl (X0 _ _ ho) rfl hp rfl (X0 _ _ hcode) rfl hvs hfile htop ?_
  refine ks_loadName_global hk hks (loadGlobal_builtin (env := ksEnv qual scope hp0.objs.size fI (.ref cda) cc) (hG.keeps hk₀) hm (hb1.keeps hk₀) hb2 ⟨rfl, ?_⟩)
  refine wpAny_loadName_free hk hkc rfl ⟨_, X0 _ _ hcell, rfl⟩ ?_
  rw [har]
  refine wpAny_loadName_local hk (hloc _ hsf) hns mself ?_
  refine ks_wpAny_isType_cls hD1 hD2 ⟨rfl, ?_⟩
  refine ks_wpAny_call_super hD1 hD2 hx0 rfl (fun c e => by cases e) (looks_mroIn X0 XC.sub) (fun h2 e2 k2 => ?_)
  have X2 : K.In h2 := X0.keeps k2
  have hx2 := k2 _ _ hx0
  have I2 : W.InstAt h2 x (excO C t0) C none := ⟨hx2, rfl, rfl, trivial⟩
  have hI : Looks (model prog w) h2 (isInstance (.ref x) (.type "ValueError")) true := I2.type.andThen (looks_subIn X2 XC.veC)
  have hal := XC.along
  cases hc : clsIn K C with
  | none => unfold ks_superIn at hal; rw [hc] at hal; cases hal
  | some cd =>
    unfold ks_superIn at hal
    rw [hc] at hal
    refine kxs_getMethod kxs_ValueError e2 (looks_opaque X2 XC.any) (l₀ := cd.mro) ?_ rfl X2 hal hI (ks_ne X2 I2 hc) (by decide) ?_
    · exact fun A Q E s k q => wpAny_bind ((looks_clsIn X2 hc) A _ E s k (wpAny_pure q))
    have k3 : ∀ b o, h2.get? b = some o → (h2.push (kxs_mw "ValueError.__init__" x)).get? b = some o := fun b o e => Heap.get?_push_of_some _ e
    refine kxs_callWith (i := "ValueError.__init__") (x := x) (hplain _ _) ?_
    obtain ⟨y0, ys, rfl⟩ : ∃ y0 ys, xs = y0 :: ys := by
      cases xs with
      | nil => exact absurd rfl hne
      | cons a b => exact ⟨a, b, rfl⟩
    refine evalArgs_plain ?_
    refine spliced_names (env := ksEnv qual scope hp0.objs.size fI (.ref cda) cc) hk (hns.keeps fun b o z => k3 _ _ (k2 _ _ z)) mrest (fun y hy => ⟨hloc _ (List.mem_cons_of_mem _ (List.mem_map_of_mem hy)), hdb y hy⟩) ?_
    refine ⟨Heap.get?_push_at rfl rfl, ?_⟩
    refine call_mw (k3 _ _ (X2 _ _ hC)) (k3 _ _ hx2) (Heap.get?_push_at rfl rfl) hz fun h4 t1 k4 e4 => ?_
    refine wpAt_of_wpAny (hrest (ksEnv qual scope hp0.objs.size fI (.ref cda) cc) _ _ h4 _ t1 m hk (fun y hy => hloc y hy) (Nat.le_refl _) ?_ mself mrest (fun b o hb z => k4 b o hb (k3 _ _ (k2 _ _ (hk₀ _ _ z)))) e4)
    have hLx : hp0.objs.size ≠ x := Nat.ne_of_gt (Heap.lt_size hx)
    exact hns.at fun o z => k4 _ _ hLx (k3 _ _ (k2 _ _ z))

/-- what is behind such an __init__ -/
structure SiEnd (h h' : Heap) (x C dx t1 : Addr) (m : Str → Option Value) : Prop where
  keep : ∀ b o, b ≠ x → h.get? b = some o → h'.get? b = some o
  obj : h'.get? x = some { cls := .ref C, dict := some dx, data := .fields #[.ref t1, .none, .none, .none, .bool false, .none] }
  dbig : h.objs.size ≤ dx
  dne : dx ≠ x
  ns : h'.Ns1 dx m
theorem si_set1 {R : Flow → Shared → Prop} {x t1 : Addr} {h₁ : Heap} {f : Str} {u : Value} {q1 q2 q3 q4 : Pos} {env : Env} {m : Str → Option Value} {rest : List Stmt} {g : Array GenState} {d : Drawn} {t : Nat} {os : OsState} (XC : XCls K C D fI) (hk : env.scope.kind = .function) (hself : env.kindOf "self" = some .local) (hf : env.kindOf f = some .local)
    (X : K.In h₁) (hn : h₁.Ns env.locals m) (ms : m "self" = some (.ref x)) (mf : m f = some u) (hx : h₁.get? x = some (excO C t1)) (hd : (f == ("__debug__" : Str)) = false) (no : findIn K (.ref C) f = some none)
    (hs : swapsWith (.Name f q3) (some (.Attribute (.Name "self" q1) f q2)) q4.line env = pure false)
    (hq : ∀ h' tk dx, SiEnd h₁ h' x C dx t1 (fun y => if y = f then some u else none) → wpAny (model prog w) A (execs rest env) R E ⟨h', g, d, tk, os⟩) :
    wpAny (model prog w) A (execs (.Assign [.Attribute (.Name "self" q1) f q2] (.Name f q3) q4 :: rest) env) R E ⟨h₁, g, d, t, os⟩ := by
  obtain ⟨nm, q, N, bs, bm, sn, sub, ab, col, dd, k0, k1, k2, k3, k5, hC, hbm⟩ := XC.cls
  have hcl : clsIn K C = some { name := nm, bases := bs, mro := .ref C :: bm, ns := N, qualname := q, hasDict := true, slotNames := sn, subclasses := sub, abstract := ab, collection := col, hasDel := false } := by unfold clsIn; rw [hC] <;> rfl
  refine wpAny_execs_cons (plainObj_wpAny_Assign_Attribute ?_ hs)
  refine wpAny_Name (wpAny_loadName_local hk hf hn mf (wpAny_Name (wpAny_loadName_local hk hself hn ms ?_) (by decide))) hd
  refine set_plain X (ox := excO C t1) (od := none) ⟨hx, rfl, rfl, trivial⟩ XC.sa ?_
  exact exc_osa X hx hcl (show refsVE (.ref C :: bm) = true from hbm) rfl no (fun h₃ tk₃ dx k₃ dn dne hx₃ hn₃ => hq h₃ tk₃ dx ⟨k₃, hx₃, dn, dne, hn₃⟩)
theorem si_set2 {R : Flow → Shared → Prop} {x t1 dx : Addr} {h₁ : Heap} {f : Str} {u : Value} {q1 q2 q3 q4 : Pos} {env : Env} {m m0 : Str → Option Value} {nl : List Str} {rest : List Stmt} {g : Array GenState} {d : Drawn} {t : Nat} {os : OsState} (XC : XCls K C D fI) (hk : env.scope.kind = .function) (hself : env.kindOf "self" = some .local) (hf : env.kindOf f = some .local)
    (X : K.In h₁) (hn : h₁.Ns env.locals m) (ms : m "self" = some (.ref x)) (mf : m f = some u) (hx : h₁.get? x = some { cls := .ref C, dict := some dx, data := .fields #[.ref t1, .none, .none, .none, .bool false, .none] }) (hns : h₁.Ns1 dx m0) (hw : Within m0 nl) (hz : nl.length ≤ 1000)
    (hd : (f == ("__debug__" : Str)) = false) (no : findIn K (.ref C) f = some none)
    (hs : swapsWith (.Name f q3) (some (.Attribute (.Name "self" q1) f q2)) q4.line env = pure false)
    (hq : ∀ h' tk, (∀ b o, b ≠ dx → h₁.get? b = some o → h'.get? b = some o) → h'.Ns1 dx (fun y => if y = f then some u else m0 y) → wpAny (model prog w) A (execs rest env) R E ⟨h', g, d, tk, os⟩) :
    wpAny (model prog w) A (execs (.Assign [.Attribute (.Name "self" q1) f q2] (.Name f q3) q4 :: rest) env) R E ⟨h₁, g, d, t, os⟩ := by
  obtain ⟨nm, q, N, bs, bm, sn, sub, ab, col, dd, k0, k1, k2, k3, k5, hC, hbm⟩ := XC.cls
  have hcl : clsIn K C = some { name := nm, bases := bs, mro := .ref C :: bm, ns := N, qualname := q, hasDict := true, slotNames := sn, subclasses := sub, abstract := ab, collection := col, hasDel := false } := by unfold clsIn; rw [hC] <;> rfl
  refine wpAny_execs_cons (plainObj_wpAny_Assign_Attribute ?_ hs)
  refine wpAny_Name (wpAny_loadName_local hk hf hn mf (wpAny_Name (wpAny_loadName_local hk hself hn ms ?_) (by decide))) hd
  obtain ⟨oD, _, _, hoD, _, _⟩ := hns.count hw
  refine set_plain X (od := some oD) ⟨hx, rfl, rfl, hoD⟩ XC.sa ?_
  exact OEX.osa_old X hx hns hw hz hcl (show refsVE (.ref C :: bm) = true from hbm) rfl no (fun h' tk' k hn' => hq h' tk' k hn')
end
/-- one field -/
structure Si1 (K : Frag) (P : Program) (C D fI : Addr) (f : Str) : Prop where
  cl : XCls K C D fI
  no : findIn K (.ref C) f = some none
  fs : (f == ("__debug__" : Str)) = false ∧ f ≠ "self"
  fn : ∃ p0 p1 p2 p3 p4 q0 q1 q2 q3 q4 : Pos, (p2.endLine == p3.line) = true ∧ SiFn K P fI D [.Expr (.Call (.Attribute (.Call (.Name "super" p0) [] [] p1) "__init__" p2) [.Name f q0] [] p3) p4, .Assign [.Attribute (.Name "self" q1) f q2] (.Name f q3) q4] ["self", f] "self"
structure Si2 (K : Frag) (P : Program) (C D fI : Addr) (f f' : Str) : Prop where
  cl : XCls K C D fI
  no : findIn K (.ref C) f = some none
  no' : findIn K (.ref C) f' = some none
  fs : (f == ("__debug__" : Str)) = false ∧ f ≠ "self" ∧ (f' == ("__debug__" : Str)) = false ∧ f' ≠ "self" ∧ f ≠ f'
  fn : ∃ p0 p1 p2 p3 p4 q0 q1 q2 q3 q4 r0 r1 r2 r3 r4 : Pos, (p2.endLine == p3.line) = true ∧ SiFn K P fI D [.Expr (.Call (.Attribute (.Call (.Name "super" p0) [] [] p1) "__init__" p2) [.Name f q0, .Name f' r0] [] p3) p4, .Assign [.Attribute (.Name "self" q1) f q2] (.Name f q3) q4,
    .Assign [.Attribute (.Name "self" r1) f' r2] (.Name f' r3) r4] ["self", f, f'] "self"
section
variable {prog : Program} {w : World} {A : Around} {E : Value → Shared → Prop} {s : Shared} {K : Frag} {C D fI : Addr} {mg : Str → Option Value} {R : Result → Shared → Prop}
theorem si1_init {x t0 : Addr} {u : Value} {f : Str} (T : Si1 K prog C D fI f) (X : K.In s.heap) (hlim : s.heap.NoLimit) (hG : s.heap.Ns mainGlobals mg) (hm : mg "super" = none) (hB : ∃ mb, s.heap.Ns builtinsNs mb ∧ mb "super" = some (.type "super"))
    (hx : s.heap.get? x = some (excO C t0)) (hxk : K.lookup x = none) (hroom : A.depth < recursionLimit)
    (hq : ∀ h' tk dx t1, SiEnd s.heap h' x C dx t1 (fun y => if y = f then some u else none) → R (.ok (.ret .none)) { s with heap := h', toks := tk }) :
    codeAny (model prog w) A (.call (.ref fI) ⟨[.ref x, u], []⟩) R s := by
  obtain ⟨p0, p1, p2, p3, p4, q0, q1, q2, q3, q4, hpp, T1⟩ := T.fn
  refine si_run (xs := [(f, q0)]) (us := [u]) (pl := _) T1 T.cl X hlim hG hm hB hx hroom rfl (by simp only [List.length_cons, List.length_nil, sizeLine_eq]; omega) (by simp [Ne.symm T.fs.2]) (by simp) (hev := fun env => mcall_eq (by rfl) hpp) (hplain := fun p env => by rfl) (by simpa using T.fs.1) fun env A' E' h₁ tk t1 m hk hloc hL hn ms mf k hx₁ => ?_
  have hkeep : K.In h₁ := fun a o e => k a o (fun z => by rw [z, hxk] at e; cases e) (X a o e)
  obtain ⟨hh, g, d, t, os⟩ := s
  simp only [List.map_cons, List.map_nil, List.cons.injEq, and_true] at mf
  refine si_set1 T.cl hk (hloc _ (by simp)) (hloc _ (by simp)) hkeep hn ms mf hx₁ T.fs.1 T.no (by rfl) fun h' tk dx Z => ?_
  refine wpAny_execs_nil (hq h' tk dx t1 ⟨fun b o hb e => Z.keep b o hb (k b o hb e), Z.obj, ?_, Z.dne, Z.ns⟩)
  have z1 : Nat.lt env.locals h₁.objs.size := hn.lt
  have z2 : Nat.le h₁.objs.size dx := Z.dbig
  exact Nat.le_trans hL (Nat.le_trans (Nat.le_of_lt z1) z2)
theorem si2_init {x t0 : Addr} {u v : Value} {f f' : Str} (T : Si2 K prog C D fI f f') (X : K.In s.heap) (hlim : s.heap.NoLimit) (hG : s.heap.Ns mainGlobals mg) (hm : mg "super" = none) (hB : ∃ mb, s.heap.Ns builtinsNs mb ∧ mb "super" = some (.type "super"))
    (hx : s.heap.get? x = some (excO C t0)) (hxk : K.lookup x = none) (hroom : A.depth < recursionLimit)
    (hq : ∀ h' tk dx t1, SiEnd s.heap h' x C dx t1 (fun y => if y = f' then some v else if y = f then some u else none) → R (.ok (.ret .none)) { s with heap := h', toks := tk }) :
    codeAny (model prog w) A (.call (.ref fI) ⟨[.ref x, u, v], []⟩) R s := by
  obtain ⟨p0, p1, p2, p3, p4, q0, q1, q2, q3, q4, r0, r1, r2, r3, r4, hpp, T1⟩ := T.fn
  obtain ⟨g1, g2, g3, g4, g5⟩ := T.fs
  refine si_run (xs := [(f, q0), (f', r0)]) (us := [u, v]) (pl := _) T1 T.cl X hlim hG hm hB hx hroom rfl (by simp only [List.length_cons, List.length_nil, sizeLine_eq]; omega) (by simp [Ne.symm g2, Ne.symm g4, g5]) (by simp) (hev := fun env => mcall_eq (by rfl) hpp) (hplain := fun p env => by rfl) (by simpa using And.intro g1 g3) fun env A' E' h₁ tk t1 m hk hloc hL hn ms mf k hx₁ => ?_
  have hkeep : K.In h₁ := fun a o e => k a o (fun z => by rw [z, hxk] at e; cases e) (X a o e)
  obtain ⟨hh, g, d, t, os⟩ := s
  simp only [List.map_cons, List.map_nil, List.cons.injEq, and_true] at mf
  refine si_set1 T.cl hk (hloc _ (by simp)) (hloc _ (by simp)) hkeep hn ms mf.1 hx₁ g1 T.no (by rfl) fun h' tk dx Z => ?_
  have hlx : env.locals ≠ x := fun z => by have z3 : Nat.lt x hh.objs.size := Heap.lt_size hx; have z4 : Nat.le hh.objs.size env.locals := hL; rw [z] at z4; exact Nat.lt_irrefl _ (Nat.lt_of_lt_of_le z3 z4)
  have hld : env.locals ≠ dx := fun z => by have z1 : Nat.lt env.locals h₁.objs.size := hn.lt; have z2 : Nat.le h₁.objs.size dx := Z.dbig; rw [z] at z1; exact Nat.lt_irrefl _ (Nat.lt_of_lt_of_le z1 z2)
  refine si_set2 (nl := [f]) T.cl hk (hloc _ (by simp)) (hloc _ (by simp)) (fun a o e => Z.keep a o (fun z => by rw [z, hxk] at e; cases e) (hkeep a o e)) (hn.at fun o z => Z.keep _ _ hlx z) ms mf.2 Z.obj Z.ns (fun y hy => ?_) (by simp) g3 T.no' (by rfl) fun h2 tk2 k2 hn2 => ?_
  · by_cases e : y = f
    · simp [e]
    · rw [if_neg e] at hy; exact absurd rfl hy
  have hxd : ∀ b, b ≠ x → hh.get? b ≠ none → b ≠ dx := fun b hb e z => by
    cases q : hh.get? b with
    | none => exact e q
    | some o => have z3 : Nat.lt b hh.objs.size := Heap.lt_size q; have z1 : Nat.lt env.locals h₁.objs.size := hn.lt; have z2 : Nat.le h₁.objs.size dx := Z.dbig; have z4 : Nat.le hh.objs.size env.locals := hL; rw [z] at z3; exact Nat.lt_irrefl _ (Nat.lt_of_lt_of_le z3 (Nat.le_trans z4 (Nat.le_trans (Nat.le_of_lt z1) z2)))
  refine wpAny_execs_nil (hq h2 tk2 dx t1 ⟨fun b o hb e => k2 b o (hxd b hb (by rw [e]; simp)) (Z.keep b o hb (k b o hb e)), k2 _ _ (Ne.symm Z.dne) Z.obj, ?_, Z.dne, hn2⟩)
  have z1 : Nat.lt env.locals h₁.objs.size := hn.lt
  have z2 : Nat.le h₁.objs.size dx := Z.dbig
  exact Nat.le_trans hL (Nat.le_trans (Nat.le_of_lt z1) z2)
end
end Fw

/-! ## Fx2 -/
set_option Elab.async false
set_option linter.all false
set_option maxRecDepth 100000
set_option maxHeartbeats 4000000
/-! Own exceptions are made and raised. -/
namespace Fw
open PySem PySem.W PySem.Calls PyProof.Rows PySem.HandSPX

structure XMade (h h' : Heap) (e C d : Addr) (m : Str → Option Value) : Prop where
  keep : ∀ b o, h.get? b = some o → h'.get? b = some o
  new : h.objs.size ≤ e
  obj : ∃ oe vs, h'.get? e = some oe ∧ oe.cls = .ref C ∧ oe.dict = some d ∧ oe.data = .fields vs ∧ vs[1]? = some .none
  dbig : h.objs.size ≤ d
  dne : d ≠ e
  ns : h'.Ns1 d m
/-- C(..) makes an exception with these fields -/
structure XMk (P : Program) (w : World) (K : Frag) (mg : Str → Option Value) (C : Addr) (fs : List Str) : Prop where
  kC : keepIn K (.ref C) = true
  exC : subIn K (.ref C) (.type "BaseException") = some true
  tyC : typeIn K (.ref C) = some (.type "type")
  made : ∀ (A : Around) (s : Shared) (R : Result → Shared → Prop) (us : List Value), us.length = fs.length → K.In s.heap → s.heap.NoLimit → s.heap.Ns mainGlobals mg → (∃ mb, s.heap.Ns builtinsNs mb ∧ mb "super" = some (.type "super")) → A.depth + 1 < recursionLimit →
    (∀ h' tk e d m, XMade s.heap h' e C d m → (∀ (vs : List L2.V), L2.Vals vs us → ∀ f, L2.RelO ((fs.zip vs).lookup f) (m f)) → R (.ok (.ret (.ref e))) { s with heap := h', toks := tk }) → codeAny (model P w) A (.call (.ref C) ⟨us, []⟩) R s

section
variable {P : Program} {w : World} {K : Frag} {mg : Str → Option Value} {C D fI : Addr}
theorem lookup_above {hp : Heap} (X : K.In hp) {e : Addr} (h : Nat.le hp.objs.size e) : K.lookup e = none := by
  cases q : K.lookup e with
  | none => rfl
  | some o =>
    have z : Nat.lt e hp.objs.size := Heap.lt_size (X _ _ q)
    exact absurd (Nat.lt_of_lt_of_le z h) (Nat.lt_irrefl _)
theorem call_x {A : Around} {R : Result → Shared → Prop} {s : Shared} {us : List Value} (XC : XCls K C D fI) (X : K.In s.heap) (hz : us.length ≤ sizeLine)
    (hq : codeAny (model P w) (A.under (.builtin "type.__call__" ⟨.ref C :: us, []⟩)) (.call (.ref fI) ⟨.ref (s.heap.objs.size + 1) :: us, []⟩) (W.InitBack (s.heap.objs.size + 1) R) { s with heap := (s.heap.push (kdv_tup us)).push (excO C s.heap.objs.size) }) :
    codeAny (model P w) A (.call (.ref C) ⟨us, []⟩) R s := by
  obtain ⟨nm, q, N, bs, bm, sn, sub, ab, col, dd, k0, k1, k2, k3, k5, hC, hbm⟩ := XC.cls
  obtain ⟨hp, g, dr, tk, os⟩ := s
  exact call_own F.excBase_ValueError (fun X => refsVE_contains X bm hbm) (X _ _ hC) (looks_findIn X XC.iC) (fun self => bind_fn X self XC.tI) hz hq
theorem up2 {hp : Heap} {us : List Value} : ∀ b o, hp.get? b = some o → ((hp.push (kdv_tup us)).push (excO C hp.objs.size)).get? b = some o := fun b o e => Heap.get?_push_of_some _ (Heap.get?_push_of_some _ e)
theorem SiEnd.made {hp h' : Heap} {us : List Value} {dx t1 : Addr} {m : Str → Option Value} (Z : SiEnd ((hp.push (kdv_tup us)).push (excO C hp.objs.size)) h' (hp.objs.size + 1) C dx t1 m) : XMade hp h' (hp.objs.size + 1) C dx m := by
  have old : ∀ b o, hp.get? b = some o → h'.get? b = some o := fun b o e => Z.keep b o (Nat.ne_of_lt (Nat.lt_succ_of_lt (Heap.lt_size e))) (up2 b o e)
  have z : hp.objs.size ≤ dx := by
    have q := Z.dbig
    rw [Heap.size_push, Heap.size_push] at q
    exact Nat.le_trans (Nat.le_trans (Nat.le_succ _) (Nat.le_succ _)) q
  exact ⟨old, Nat.le_succ _, ⟨_, _, Z.obj, rfl, rfl, rfl, rfl⟩, z, Z.dne, Z.ns⟩
theorem si1_mk {f : Str} (T : Si1 K P C D fI f) (hm : mg "super" = none) : XMk P w K mg C [f] := by
  refine ⟨T.cl.kC, T.cl.exC, T.cl.tyC, ?_⟩
  rintro A s R us hl X hlim hG ⟨mb, hb1, hb2⟩ hroom hq
  match us, hl with
  | [u], _ =>
    refine call_x T.cl X (by simp only [List.length_cons, List.length_nil, sizeLine_eq]; omega) ?_
    obtain ⟨hp, g, dr, tk, os⟩ := s
    dsimp only at *
    have hget : ((hp.push (kdv_tup [u])).push (excO C hp.objs.size)).get? (hp.objs.size + 1) = some (excO C hp.objs.size) := by heap_get
    have hk := up2 (C := C) (hp := hp) (us := [u])
    refine si1_init (mg := mg) T (X.keeps hk) (hlim.keeps hk) (hG.keeps hk) hm ⟨mb, hb1.keeps hk, hb2⟩ hget (lookup_above X (Nat.le_succ _)) (by show A.depth + 1 < recursionLimit; exact hroom) fun h' tk' dx t1 Z => ?_
    refine ⟨rfl, hq h' tk' _ dx _ Z.made ?_⟩
    intro vs rv f'
    cases rv with
    | cons r1 r2 =>
      cases r2
      show L2.RelO (List.lookup f' [(f, _)]) _
      by_cases e : f' = f
      · subst e; simp [List.lookup]; exact r1
      · have q : (f' == f) = false := by simpa using e
        simp only [List.lookup, q, if_neg e]; trivial
theorem si2_mk {f f2 : Str} (T : Si2 K P C D fI f f2) (hm : mg "super" = none) : XMk P w K mg C [f, f2] := by
  refine ⟨T.cl.kC, T.cl.exC, T.cl.tyC, ?_⟩
  rintro A s R us hl X hlim hG ⟨mb, hb1, hb2⟩ hroom hq
  match us, hl with
  | [u, v], _ =>
    refine call_x T.cl X (by simp only [List.length_cons, List.length_nil, sizeLine_eq]; omega) ?_
    obtain ⟨hp, g, dr, tk, os⟩ := s
    dsimp only at *
    have hget : ((hp.push (kdv_tup [u, v])).push (excO C hp.objs.size)).get? (hp.objs.size + 1) = some (excO C hp.objs.size) := by heap_get
    have hk := up2 (C := C) (hp := hp) (us := [u, v])
    refine si2_init (mg := mg) T (X.keeps hk) (hlim.keeps hk) (hG.keeps hk) hm ⟨mb, hb1.keeps hk, hb2⟩ hget (lookup_above X (Nat.le_succ _)) (by show A.depth + 1 < recursionLimit; exact hroom) fun h' tk' dx t1 Z => ?_
    refine ⟨rfl, hq h' tk' _ dx _ Z.made ?_⟩
    intro vs rv f'
    have ne := T.fs.2.2.2.2
    cases rv with
    | cons r1 r2 =>
      cases r2 with
      | cons r3 r4 =>
        cases r4
        show L2.RelO (List.lookup f' [(f, _), (f2, _)]) _
        by_cases e2 : f' = f2
        · subst e2
          have q : (f' == f) = false := by simpa using Ne.symm ne
          simp [List.lookup, q]; exact r3
        · have q2 : (f' == f2) = false := by simpa using e2
          by_cases e : f' = f
          · subst e; simp [List.lookup, ne]; exact r1
          · have q : (f' == f) = false := by simpa using e
            simp only [List.lookup, q, q2, if_neg e, if_neg e2]; trivial
end
end Fw

namespace Fw
open PySem PySem.Spec PyProof.Rows L2
section
variable {X : Cx} {C : Addr} {g : G} {Wx : WX} {xa : XA} {xn : XN}
/-- C(..) -/
def tMkX (C : Addr) (fs : List Str) (ta : TA) : L2.St → Hp → XK → Prop := fun σ H Q => ta σ H fun vs H1 => vs.length = fs.length ∧ ∀ d, H1 d = none → Q (.ref C) (some d) (upd H1 d (.xd (fs.zip vs)))
theorem pmk_x {x : Str} {fs : List Str} {e : Expr} {es : List Expr} {ta : TA} {p pos : Pos} {k : Nat} (T : XMk X.prog X.w X.K X.mg C fs) (hr : Room k X.A) (ha : PA X (e :: es) ta) (hg : Gl X x) (hm : X.mg x = some (.ref C)) (hdb : (x == ("__debug__" : Str)) = false)
    (he : starEach (e :: es) X.env = (false, eval e X.env) :: starEach es X.env) (hpl : (backTo pos (starEach es X.env)).any (·.1) = false) :
    PMk X (.Call (.Name x p) (e :: es) [] pos) (tMkX C fs ta) := by
  intro pins s σ H Q I h
  refine wpAny_Call_Name_kw (ld_glob I hg hm ?_ hdb)
  refine PySem.W.callWith_K (h₀ := X.base) I.ok.mod.kin T.kC (thn (ha.run pos pins s σ H _ I h) fun us s1 hh => ?_) he hpl
  obtain ⟨vs, H1, I1, r1, hl, q1⟩ := hh
  refine ⟨I1.kIn, ?_⟩
  show wpAny _ _ (call (.ref C) us) _ _ _
  have hlim := I1.nolimit
  have hX := I1.kIn
  have hG : s1.heap.Ns mainGlobals X.mg := I1.ok.mod.glob.keeps I1.bk
  obtain ⟨mb, hb1, hb2⟩ := I1.ok.mod.blt
  have hB : ∃ mb, s1.heap.Ns builtinsNs mb ∧ mb "super" = some (.type "super") := ⟨mb, hb1.keeps I1.bk, (hb2 _ (by decide)).trans (by rfl)⟩
  obtain ⟨hp, gg, dr, tk, os⟩ := s1
  refine wpAny_call (T.made _ _ _ us (by rw [← r1.length]; exact hl) hX hlim hG hB (by have := hr.dp; omega) fun h' tk' e d m M rel => ?_)
  show MkP X pins σ Q (.ref e) ⟨h', gg, dr, tk', os⟩
  obtain ⟨oe, fv, hoe, hc, hd, hdat, h1⟩ := M.obj
  have hns := M.ns
  obtain ⟨G', g1, g2⟩ := restrict h' fun b => decide (b ≠ e)
  have gk : ∀ b, b ≠ e → G'.get? b = h'.get? b := fun b hb => g1 b (decide_eq_true hb)
  have ge : G'.get? e = none := g2 e (by simp)
  have old : ∀ b o, hp.get? b = some o → G'.get? b = some o := fun b o q => (gk b (Nat.ne_of_lt (Nat.lt_of_lt_of_le (Heap.lt_size q) M.new))).trans (M.keep b o q)
  have ob : ObjOk X.prog X.w (upd H1 d (.xd (fs.zip vs))) G' d (.xd (fs.zip vs)) :=
    ⟨_, hns.at (fun o q => (gk d M.dne).trans q), rel vs r1⟩
  have J : Inv X pins σ (upd H1 d (.xd (fs.zip vs))) ⟨G', gg, dr, tk', os⟩ := I1.laid (t' := tk') old M.dbig ob
  refine ⟨e, oe, fv, ⟨G', gg, dr, tk', os⟩, _, .ref C, some d, rfl, J, fun b o q => ?_, ge, hoe, ⟨hc, hd⟩, hdat, h1, ?_, rfl, I1.bare, raises_own T.exC T.tyC, q1 d (I1.hok.fresh M.dbig)⟩
  · by_cases hb : b = e
    · have q' : G'.get? b = some o := q
      rw [hb, ge] at q'; cases q'
    · exact (gk b hb).symm.trans q
  · rw [upd_ne (Ne.symm M.dne)]
    exact I1.hok.fresh M.new
end
end Fw

/-! ## Fx3 -/
set_option Elab.async false
set_option linter.all false
set_option maxRecDepth 100000
set_option maxHeartbeats 4000000
/-! Several except clauses, with names and without. -/
namespace Fw
open PySem PySem.Spec PyProof.Rows L2

/-- one clause: the class, the slot of the name, the suite -/
abbrev Cl := Value × Option Nat × (Addr → Value → Option Addr → TS)
def endsN (oi : Option Nat) (D : Ends) : Ends := match oi with
  | none => D
  | some i => { nx := fun σ' H' => D.nx (σ'.set i none) H', rt := D.rt, bk := fun σ' H' => D.bk (σ'.set i none) H', ct := fun σ' H' => D.ct (σ'.set i none) H' }
def stN (oi : Option Nat) (a : Addr) (σ : L2.St) : L2.St := match oi with
  | none => σ
  | some i => σ.set i (some (.ref a))
def wN (K : PySem.W.Frag) (n : Nat) (Wout : WX) (D : Ends) : List Cl → WX
  | [] => Wout
  | (c, oi, ts) :: r => fun cls d σ H => ∃ b, PySem.W.exmOne K cls c = some b ∧ (b = true → ∀ a, H a = none → σ.length = n → ts a cls d (endsN oi D) (stN oi a σ) H) ∧ (b = false → wN K n Wout D r cls d σ H)
inductive HdN (X : Cx) : List ExceptHandler → List Cl → Prop
  | nil : HdN X [] []
  | plain {x : Str} {c : Value} {ts : Addr → Value → Option Addr → TS} {b₀ : Stmt} {suite : List Stmt} {np pos' : Pos} {hds : List ExceptHandler} {l : List Cl} (hc : Names X x c)
      (hsu : ∀ (a : Addr) (oe : Obj) (cls : Value) (d : Option Addr) (pn : List (Addr × Obj)), Zc cls d oe → (∃ vs, oe.data = .fields vs) → PSs (X.suite a ((a, oe) :: pn)) (b₀ :: suite) (ts a cls d)) (r : HdN X hds l) :
      HdN X (.ExceptHandler (some (.Name x np)) none (b₀ :: suite) pos' :: hds) ((c, none, ts) :: l)
  | named {x n : Str} {i : Nat} {c : Value} {ts : Addr → Value → Option Addr → TS} {b₀ : Stmt} {suite : List Stmt} {np pos' : Pos} {hds : List ExceptHandler} {l : List Cl} (hc : Names X x c) (hi : X.N[i]? = some n) (hln : X.env.kindOf n = some .local)
      (hsu : ∀ (a : Addr) (oe : Obj) (cls : Value) (d : Option Addr) (pn : List (Addr × Obj)), Zc cls d oe → (∃ vs, oe.data = .fields vs) → PSs (X.suite a ((a, oe) :: pn)) (b₀ :: suite) (ts a cls d)) (r : HdN X hds l) :
      HdN X (.ExceptHandler (some (.Name x np)) (some n) (b₀ :: suite) pos' :: hds) ((c, some i, ts) :: l)
section
variable {X : Cx} {body : List Stmt} {h₀ : ExceptHandler} {hds : List ExceptHandler} {l : List Cl} {pos : Pos} {tb : WX → TS} {Wout : WX}
theorem ps_tryN (hs : X.stack = X.env :: X.outer) (hf : X.env.frame = some X.env.locals) (hN : X.N.Nodup) (tk : Takes X Wout)
    (hb : ∀ (W : WX) (pn : List (Addr × Obj)) (xe : Value → Shared → Prop), Takes (X.tr pn xe) W → PassesOwn (model X.prog X.w) X.A X.env xe → PSs (X.tr pn xe) body (tb W))
    (hh : HdN X (h₀ :: hds) l) : PS X (.Try body (h₀ :: hds) [] [] pos) (fun D σ H => tb (wN X.K X.N.length Wout D l) D σ H) := by
  refine ⟨fun pins s σ H D I h => ?_⟩
  have ok := I.ok
  have hfr : X.A.frames = some (X.env :: X.outer) := by rw [ok.frames, hs]
  refine wpAny_Try_except ?_
  refine wpAny_mono ((hb (wN X.K X.N.length Wout D l) (X.pn ++ pins) (fun e s₁ => wpAny (model X.prog X.w) X.A (noteFrame e X.env) (fun _ s₂ => wpAny (model X.prog X.w) X.A (setFlight e none) (fun _ s₃ =>
    wpAny (model X.prog X.w) X.A (handleBy e X.env (h₀ :: hds)) (SP X pins D) X.xe s₃) X.xe s₂) X.xe s₁) (fun u s' xx => ?_) PassesOwn.looking).run [] s σ H D (I.toTry _) h) (fun f s1 hsp => ?_) (fun e s1 he => he)
  · -- the catch
    obtain ⟨a, B, sI, pins', σ', H', cls, d, rfl, J', nb, up, sky, na, os, ag, w⟩ := xx
    have J : Inv X pins σ' H' sI := J'.ofTry ok
    have sky' : Sky B (X.env :: X.outer) a (Zc cls d) X.env.locals s'.heap := by rw [← hs]; exact sky
    show wpAny (model X.prog X.w) X.A (noteFrame (.ref a) X.env) _ _ _
    refine Sky.land Zc.steady hfr hf sky' fun h3 fl3 up3 => ?_
    have J3 : Inv X pins σ' H' { s' with heap := h3 } := J.landed nb fl3.1 (up.trans up3) os ag
    obtain ⟨oe3, vs3, he3, hz3, hd3⟩ := fl3.there
    have notFr : ∀ {h : Heap} {o : Obj} {vs : Array Value}, h.FunFrames B (X.env :: X.outer) → h.get? a = some o → o.data = .fields vs → a ∉ frs (X.env :: X.outer) := fun {h o vs} ff e dd hm => by
      obtain ⟨_, o', e', hnf⟩ := ff.mem hm
      rw [e] at e'; cases e'
      exact hnf _ dd
    have nfr := notFr fl3.2.2.1 he3 hd3
    have nL : a ≠ X.env.locals := fun z => nfr (List.mem_filterMap.mpr ⟨X.env, List.mem_cons_self, by rw [hf, z]⟩)
    have nF : a ∉ X.fs := fun hm => by
      obtain ⟨e, he, q⟩ := List.mem_filterMap.mp hm
      exact nfr (List.mem_filterMap.mpr ⟨e, List.mem_cons_of_mem _ he, q⟩)
    have S3 := J3.suite he3 hd3 na nL nF
    have go : ∀ {hds' : List ExceptHandler} {l' : List Cl}, HdN X hds' l' → wN X.K X.N.length Wout D l' cls d σ' H' →
        wpAny (model X.prog X.w) X.A (handleBy (.ref a) X.env hds') (SP X pins D) X.xe { s' with heap := h3 } := by
      intro hds' l' hk
      induction hk with
      | nil =>
        intro w
        refine wpAny_handleBy_nil ?_
        obtain ⟨k1, k2, k3, oe, vs, T, oT, ts', he, hz, hd, h1, hr⟩ := id fl3
        unfold PySem.passOn
        refine wpAny_bind (wpAny_field he hd h1 ?_)
        rw [if_neg (show ¬ ((Value.ref T == Value.none) = true) from by simp)]
        have fin : wpAny (model X.prog X.w) X.A (setFlight (.ref a) X.env.frame) (fun _ s4 => wpAny (model X.prog X.w) X.A (throw (.ref a) : Sem Flow) (SP X pins D) X.xe s4) X.xe { s' with heap := h3 } := by
          rw [hf]
          refine HandSPX.setFlight_upZ fl3 fun h4 hh4 up4 => wpAny_throw (tk _ _ ?_)
          exact ⟨a, B, sI, pins, σ', H', cls, d, rfl, J, nb, (up.trans up3).trans up4, .inr (.inr (by rw [hs]; exact hh4)), na, os, ag, w⟩
        first
          | exact wpAny_bind (wpAny_pure (wpAny_bind fin))
          | exact wpAny_bind fin
      | @plain x c ts b₀ suite np pos' hds2 l2 hc hsu r ih =>
        intro w
        obtain ⟨b, hb1, hyes, hno⟩ := w
        refine wpAny_handleBy_cons (codeAny_handlers_test ?_) (by intro q; cases q)
        have LT : PySem.W.Looks (model X.prog X.w) h3 (typeOf (.ref a)) cls := fun A Q E s k q => wpAny_typeOf_ref (k _ _ he3) (by rw [hz3.1]; exact q)
        have LM := PySem.W.exm_one (M := model X.prog X.w) (J3.kIn) LT hb1
        have test : ∀ {Q : Value → Shared → Prop} {E : Value → Shared → Prop}, Q c { s' with heap := h3 } → wpAny (model X.prog X.w) (X.A.mark (some (.ref a))) (eval (.Name x np) X.env) Q E { s' with heap := h3 } := fun {Q E} q => by
          obtain ⟨hg, hdbg, hm | ⟨hm, hv, hnn⟩⟩ := hc
          · exact ld_glob (X := X.suite a ((a, oe3) :: (X.pn ++ pins))) S3 hg hm q hdbg
          · exact ld_blt (X := X.suite a ((a, oe3) :: (X.pn ++ pins))) S3 hg hm hv q hnn hdbg
        refine test (LM.here ?_)
        cases b with
        | true =>
          refine codeAny_handlers_suite ?_
          refine HandSPX.lands_againZ fl3 fun h4 fl4 up4 => ?_
          have J4 : Inv X pins σ' H' { s' with heap := h4 } := J.landed nb fl4.1 ((up.trans up3).trans up4) os ag
          obtain ⟨oe4, vs4, he4, hz4, hd4⟩ := fl4.there
          have S4 := J4.suite he4 hd4 na nL nF
          refine wpAny_mono ((hsu a oe4 cls d (X.pn ++ pins) hz4 ⟨_, hd4⟩).run [] _ _ H' _ S4 (hyes rfl a na J.len)) (fun f s6 hsp => ?_) (fun _ _ z => False.elim z)
          cases f with
          | next =>
            obtain ⟨σ6, H6, S6, q6⟩ := hsp
            exact ⟨_, _, S6.unsuite ok, q6⟩
          | brk =>
            obtain ⟨σ6, H6, S6, q6⟩ := hsp
            exact ⟨_, _, S6.unsuite ok, q6⟩
          | cont =>
            obtain ⟨σ6, H6, S6, q6⟩ := hsp
            exact ⟨_, _, S6.unsuite ok, q6⟩
          | ret u =>
            obtain ⟨v6, σ6, H6, S6, r6, q6⟩ := hsp
            exact ⟨_, _, _, S6.unsuite ok, r6, q6⟩
        | false =>
          show wpAny _ X.A (handleBy (.ref a) X.env hds2) _ _ _
          exact ih (hno rfl)
      | @named x n i c ts b₀ suite np pos' hds2 l2 hc hi hln hsu r ih =>
        intro w
        obtain ⟨b, hb1, hyes, hno⟩ := w
        have hloc : L2.Loc X.env.scope n := .inl hln
        refine wpAny_handleBy_cons (codeAny_handlers_test ?_) (by intro q; cases q)
        have LT : PySem.W.Looks (model X.prog X.w) h3 (typeOf (.ref a)) cls := fun A Q E s k q => wpAny_typeOf_ref (k _ _ he3) (by rw [hz3.1]; exact q)
        have LM := PySem.W.exm_one (M := model X.prog X.w) (J3.kIn) LT hb1
        have test : ∀ {Q : Value → Shared → Prop} {E : Value → Shared → Prop}, Q c { s' with heap := h3 } → wpAny (model X.prog X.w) (X.A.mark (some (.ref a))) (eval (.Name x np) X.env) Q E { s' with heap := h3 } := fun {Q E} q => by
          obtain ⟨hg, hdbg, hm | ⟨hm, hv, hnn⟩⟩ := hc
          · exact ld_glob (X := X.suite a ((a, oe3) :: (X.pn ++ pins))) S3 hg hm q hdbg
          · exact ld_blt (X := X.suite a ((a, oe3) :: (X.pn ++ pins))) S3 hg hm hv q hnn hdbg
        refine test (LM.here ?_)
        cases b with
        | true =>
          refine codeAny_handlers_suite_as ?_
          refine HandSPX.lands_againZ fl3 fun h4 fl4 up4 => ?_
          have J4 : Inv X pins σ' H' { s' with heap := h4 } := J.landed nb fl4.1 ((up.trans up3).trans up4) os ag
          obtain ⟨oe4, vs4, he4, hz4, hd4⟩ := fl4.there
          have S4 := J4.suite he4 hd4 na nL nF
          refine store_ok (X := X.suite a ((a, oe4) :: (X.pn ++ pins))) (v := .ref a) S4 hN hi hloc rfl (fun s5 S5 => ?_) (.inr hln)
          refine wpAny_mono ((hsu a oe4 cls d (X.pn ++ pins) hz4 ⟨_, hd4⟩).run [] s5 _ H' _ S5 (hyes rfl a na J.len)) (fun f s6 hsp => ?_) (fun _ _ z => False.elim z)
          have end_ : ∀ {σ6 : L2.St} {H6 : Hp} {Q : Shared → Prop}, Inv (X.suite a ((a, oe4) :: (X.pn ++ pins))) [] σ6 H6 s6 → (∀ s7, Inv X pins (σ6.set i none) H6 s7 → Q s7) →
              wpAny (model X.prog X.w) X.A (do bindName X.env n .none; unbindBehindTheSuite X.env n pos') (fun _ s7 => Q s7) X.xe s6 := fun {σ6 H6 Q} S6 hq => gone_ok (S6.unsuite ok) hN hi hln hq
          cases f with
          | next =>
            obtain ⟨σ6, H6, S6, q6⟩ := hsp
            exact end_ S6 fun s7 J7 => ⟨_, _, J7, q6⟩
          | brk =>
            obtain ⟨σ6, H6, S6, q6⟩ := hsp
            exact end_ S6 fun s7 J7 => ⟨_, _, J7, q6⟩
          | cont =>
            obtain ⟨σ6, H6, S6, q6⟩ := hsp
            exact end_ S6 fun s7 J7 => ⟨_, _, J7, q6⟩
          | ret u =>
            obtain ⟨v6, σ6, H6, S6, r6, q6⟩ := hsp
            exact end_ S6 fun s7 J7 => ⟨_, _, _, J7, r6, q6⟩
        | false =>
          show wpAny _ X.A (handleBy (.ref a) X.env hds2) _ _ _
          exact ih (hno rfl)
    exact go hh w
  · cases f with
    | next =>
      obtain ⟨σ', H', J', q⟩ := hsp
      exact wpAny_execs_nil ⟨σ', H', J'.ofTry ok, q⟩
    | brk =>
      obtain ⟨σ', H', J', q⟩ := hsp
      exact ⟨σ', H', J'.ofTry ok, q⟩
    | cont =>
      obtain ⟨σ', H', J', q⟩ := hsp
      exact ⟨σ', H', J'.ofTry ok, q⟩
    | ret u =>
      obtain ⟨v, σ', H', J', r, q⟩ := hsp
      exact ⟨v, σ', H', J'.ofTry ok, r, q⟩
end
end Fw

/-! ## Fx4 -/
set_option Elab.async false
set_option linter.all false
set_option maxRecDepth 100000
set_option maxHeartbeats 4000000
/-! raise, try, and what a suite asks of its exception. -/
namespace Fw
open PySem PySem.Spec PyProof.Rows L2

/-- what the written part says of the exceptions' classes -/
structure ExF (K : PySem.W.Frag) (g : G) (exf : Nat → List Nat) (sub : Nat → Nat → Bool) (okx : Nat → Bool) : Prop where
  x : ∀ c C, g.cls c = some C → exf c ≠ [] → XfC K C ∧ ExcC K C ∧ ∀ f ∈ exf c, PySem.W.findIn K (.ref C) (g.nm f) = some none
  s : ∀ c C k Ck, g.cls c = some C → exf c ≠ [] → okx k = true → g.cls k = some Ck → PySem.W.exmOne K (.ref C) (.ref Ck) = some (sub c k) ∧ PySem.W.kitOne K (.ref C) (.ref Ck) = some (sub c k)

section
variable {X : Cx} {g : G} {Wx : WX} {xa : XA} {xn : XN} {e : Expr} {es : List Expr} {pos p pos2 : Pos} {ms : Lc → Store → Res (List D)}
theorem stEs {D : Ends} {σ : L2.St} {H : Hp} {ρ : Lc} {μ : List Addr} {st : Store} {k : List Fw.D → Store → Out} (hs : SR g xa xn μ H ρ σ st) (post : FlowPost g Wx xa xn D μ H σ (stp (ms ρ st) ρ k)) {R : List V → Hp → Prop}
    (f : ∀ v H1 w st1 μ1, Step μ H μ1 μ1 H1 → RVs g μ1 μ1 H1 w v → SR g xa xn μ1 H1 ρ σ st1 → FlowPost g Wx xa xn D μ1 H1 σ (k w st1) → R v H1) : tEs g Wx xa xn ms σ H R := by
  refine ⟨ρ, μ, st, hs, ?_⟩
  cases e : ms ρ st with
  | stuck => rw [e] at post; exact post
  | exc c fs st1 => rw [e] at post; exact fun C dd μ' H' s hx hr => post σ C dd μ' H' s hx (hs.loc.step s) hr
  | ok w st1 =>
    rw [e] at post
    rintro v μ1 α1 H1 s ⟨rfl, hr, rs⟩
    exact f v H1 w st1 _ s hr (hs.step s rs) (FlowPost.step (σ1 := σ) post s)
theorem ms_raise {x : Str} {c : Nat} {C : Addr} {fs : List Nat} {k : Nat} (hc : X.calm = true) (hC : g.cls c = some C) (T : XMk X.prog X.w X.K X.mg C (fs.map g.nm)) (hok : ∀ f ∈ fs, g.okF f = true) (hr : Room k X.A) (tk : Takes X Wx) (ha : MEs X g Wx xa xn (e :: es) ms) (hg : Gl X x) (hm : X.mg x = some (.ref C)) (hdb : (x == ("__debug__" : Str)) = false)
    (he : starEach (e :: es) X.env = (false, eval e X.env) :: starEach es X.env) (hpl : (backTo pos (starEach es X.env)).any (·.1) = false) :
    MS X g Wx xa xn (.Raise (some (.Call (.Name x p) (e :: es) [] pos)) none pos2) (fun ρ st => stp (ms ρ st) ρ fun ds st => if ds.length = fs.length then .exc c (fs.zip ds) ρ st else .stuck) :=
  PS.weak (ps_raise hc tk (pmk_x T hr ha hg hm hdb he hpl)) fun D σ H ⟨ρ, μ, st, hs, post⟩ => stEs hs post fun v H1 ds st1 μ1 s1 rv hs1 p1 => by
    split at p1
    · rename_i hl
      refine ⟨by rw [← rv.length, hl]; simp, fun d hd => ?_⟩
      refine p1 σ C d μ1 _ (Step.fr0 hd) ⟨C, d, _, rfl, hC, upd_same, hs1.rs.fresh hd, ?_⟩ (hs1.loc.step (Step.fr0 hd)) (hs1.rs.new hd)
      have hl2 : (fs.map g.nm).length ≤ v.length := by rw [← rv.length, hl]; simp
      have hl3 : fs.length ≤ ds.length := by omega
      refine ⟨?_, ?_, ?_⟩
      · rw [List.map_fst_zip hl2, show (fs.zip ds).map (fun p => g.nm p.1) = ((fs.zip ds).map (·.1)).map g.nm by rw [List.map_map]; rfl, List.map_fst_zip hl3]
      · intro p hp
        exact hok _ (List.of_mem_zip hp).1
      · rw [List.map_snd_zip (by omega), List.map_snd_zip (by rw [← rv.length, hl]; simp)]
        exact rv.step (Step.fr0 hd)
    · exact p1.elim

/-! ### the suite's exception -/
theorem me_efld {a : Addr} {i : Nat} {C dd : Addr} {c : Nat} {fs : List (Nat × D)} {oe : Obj} {pn : List (Addr × Obj)} {en n : Str} {f : Nat} {exf : Nat → List Nat} {sub : Nat → Nat → Bool} {okx : Nat → Bool} (F : ExF X.K g exf sub okx) (hn : n = g.nm f) (hokf : g.okF f = true)
    (hz : Zc (.ref C) (some dd) oe) (hf : ∃ vs, oe.data = .fields vs) (hN : X.N[i]? = some en) (hv : Vis X.env.scope en) (hd : (en == ("__debug__" : Str)) = false) (hcd : (en == ("__classdict__" : Str)) = false)
    (hb : attributeBase (.Name en p) n X.env (eval (.Name en p) X.env) = eval (.Name en p) X.env) :
    ME (X.suite a ((a, oe) :: pn)) g Wx (some ((C, dd), a, i)) (some (c, fs)) (.Attribute (.Name en p) n pos) (fun _ st => if (exf c).contains f then match fs.lookup f with | some d => .ok (.v d) st | none => .stuck else .stuck) := by
  by_cases hq : g.cls c = some C ∧ (exf c).contains f = true
  · obtain ⟨hC, hcf⟩ := hq
    have hm : f ∈ exf c := by simpa using hcf
    obtain ⟨h1, h2, h3⟩ := F.x c C hC (by intro z; rw [z] at hm; cases hm)
    refine PE.weak (pe_xf (X := X) (a := a) (n := n) h1 (by rw [hn]; exact h3 f hm) hz hf (pe_var (X := X.suite a ((a, oe) :: pn)) (i := i) hN hv hd hcd) hb) fun σ H Q ⟨ρ, μ, st, hs, post⟩ => ?_
    dsimp only at post
    rw [if_pos hcf] at post
    cases e : fs.lookup f with
    | none => rw [e] at post; exact post.elim
    | some d =>
      rw [e] at post
      obtain ⟨C', dd', vs, e1, e2, e3, e4, rf⟩ := hs.ex
      cases e1
      obtain ⟨v, hv1, hv2⟩ := (lookup_nm hokf rf).1 d e
      exact ⟨_, hs.slot _ a i rfl, rfl, rfl, dd, vs, v, rfl, e3, by rw [hn]; exact hv1, post.v hs.rs hv2⟩
  · refine ⟨fun pins s σ H Q I ⟨ρ, μ, st, hs, post⟩ => ?_⟩
    exfalso
    obtain ⟨C', dd', vs, e1, e2, e3, e4, rf⟩ := hs.ex
    cases e1
    dsimp only at post
    rw [if_neg (fun z => hq ⟨e2, z⟩)] at post
    exact post

theorem call_isD {a C : Addr} {oe : Obj} {pn : List (Addr × Obj)} {dd : Addr} (T : ExcC X.K C) (hz : Zc (.ref C) (some dd) oe) (hf : ∃ vs, oe.data = .fields vs) :
    CallR (X.suite a ((a, oe) :: pn)) (.builtin "isinstance") (fun xs H Q => ∃ (c : V) (cv : Value) (b : Bool) (fs : List (Str × V)), xs = [.ref a, c] ∧ (∀ u, RelV c u → u = cv) ∧ PySem.W.kitOne X.K (.ref C) cv = some b ∧ H dd = some (.xd fs) ∧ Q (.bl b) H) := by
  intro pins s σ H xs us Q I r h
  obtain ⟨c, cv, b, fs, rfl, hcv, e, hdd, q⟩ := h
  cases r with
  | cons rx rr =>
    cases rr with
    | cons rt rr =>
      cases rr
      cases rx
      have ec := hcv _ rt
      subst ec
      obtain ⟨hget, _⟩ := I.pin (a, oe) (List.mem_append.mpr (.inl List.mem_cons_self))
      obtain ⟨vs, hv⟩ := hf
      have hx : ObjOk X.prog X.w H s.heap dd (.xd fs) := I.hok dd _ hdd
      obtain ⟨mA, hns, hr⟩ := hx
      obtain ⟨od, ho, hl⟩ := lookIn_ns hns
      have J : PySem.W.InstAt s.heap a oe C (some od) := by
        obtain ⟨oc, od', oda, osl⟩ := oe
        obtain ⟨h1, h2⟩ := hz
        dsimp only at h1 h2 hv
        subst h1 h2 hv
        exact ⟨hget, rfl, rfl, ho⟩
      have hfo : PySem.W.findObj X.K C (some od) "__class__" = some (.bind (.builtin "getset_descriptor.__get__") (.builtin "object.__class__")) := PySem.W.findObj_dataE (by obtain ⟨cd, hc, _⟩ := PySem.W.any_some T.hd; rw [hc]; rfl) T.ha T.hn T.ht
      have base := PySem.W.handS_kitx_exc (x := a) (ox := oe) T.hg T.hk T.hs T.hd T.ha T.hn T.ht T.hm
      have Z : PySem.W.KitX X.K (.ref a) (.ref C) (fun h => PySem.W.InstAt h a oe C (some od)) := {
        ty := fun _ _ _ I => I.type
        it := fun M h X' _ => by
          obtain ⟨cdD, hcD, _⟩ := PySem.W.any_some T.hd
          unfold PySem.W.clsIn at hcD
          split at hcD
          · rename_i c' d' cd' sl' ho
            intro A' Q' E' s' k q
            unfold isType loadHead
            exact wpAny_bind (wpAny_loadPart (k _ _ (X' _ _ ho)) (wpAny_pure q))
          · cases hcD
        ne := base.ne
        ca := fun X' I k => PySem.W.kx_classE X' I T.hg T.hk T.hs hfo T.hm k }
      exact PySem.W.kia_one Z I.kIn J e (fun z => nomatch z) fun tk => ⟨.bl b, H, I.kept (t' := tk) fun _ _ z => z, rfl, q⟩
theorem me_eisi {a : Addr} {i : Nat} {C dd Ck : Addr} {c k : Nat} {fs : List (Nat × D)} {oe : Obj} {pn : List (Addr × Obj)} {en x : Str} {p2 p3 : Pos} {exf : Nat → List Nat} {sub : Nat → Nat → Bool} {okx : Nat → Bool} (F : ExF X.K g exf sub okx) (hk : okx k = true) (hCk : g.cls k = some Ck)
    (hz : Zc (.ref C) (some dd) oe) (hf : ∃ vs, oe.data = .fields vs) (hN : X.N[i]? = some en) (hv : Vis X.env.scope en) (hd : (en == ("__debug__" : Str)) = false) (hcd : (en == ("__classdict__" : Str)) = false)
    (hg : Gl X "isinstance") (hm : X.mg "isinstance" = none) (hg2 : Gl X x) (hm2 : X.mg x = some (.ref Ck)) (hxd : (x == ("__debug__" : Str)) = false) :
    ME (X.suite a ((a, oe) :: pn)) g Wx (some ((C, dd), a, i)) (some (c, fs)) (.Call (.Name "isinstance" p) [.Name en p2, .Name x p3] [] pos) (fun _ st => if (exf c).isEmpty then .stuck else .ok (.v (.bl (sub c k))) st) := by
  by_cases hq : g.cls c = some C ∧ (exf c).isEmpty = false
  · obtain ⟨hC, hcf⟩ := hq
    have hne : exf c ≠ [] := by intro z; rw [z] at hcf; cases hcf
    obtain ⟨h1, h2, h3⟩ := F.x c C hC hne
    obtain ⟨h4, h5⟩ := F.s c C k Ck hC hne hk hCk
    have hb : PE (X.suite a ((a, oe) :: pn)) (.Name x p3) (tC (.ref Ck)) := pe_glob (X := X.suite a ((a, oe) :: pn)) hg2 hm2 rfl hxd
    have hE : PE (X.suite a ((a, oe) :: pn)) (.Name en p2) (tVar i) := pe_var (X := X.suite a ((a, oe) :: pn)) (i := i) hN hv hd hcd
    refine PE.weak (pe_callB (X := X.suite a ((a, oe) :: pn)) (call_isD h2 hz hf) hg hm (by decide +kernel) (pa_cons hE (pa_cons hb pa_nil rfl) rfl) (by decide +kernel) (by decide +kernel) rfl rfl) fun σ H Q ⟨ρ, μ, st, hs, post⟩ => ?_
    dsimp only at post
    rw [if_neg (by rw [hcf]; simp)] at post
    obtain ⟨C', dd', vs, e1, e2, e3, e4, rf⟩ := hs.ex
    cases e1
    exact ⟨_, hs.slot _ a i rfl, .ref Ck, .ref Ck, sub c k, vs, rfl, (fun u r => r), h5, e3, post.v hs.rs (.bl _)⟩
  · refine ⟨fun pins s σ H Q I ⟨ρ, μ, st, hs, post⟩ => ?_⟩
    exfalso
    obtain ⟨C', dd', vs, e1, e2, e3, e4, rf⟩ := hs.ex
    cases e1
    dsimp only at post
    by_cases h : (exf c).isEmpty = true
    · rw [if_pos h] at post; exact post
    · exact hq ⟨e2, by simpa using h⟩

/-! ### try -/
/-- one clause: the class, the slot, what the suite computes -/
structure Hd where
  k : Nat
  i : Option Nat
  ks : Nat → List (Nat × D) → Lc → Store → Out
def hdO (exf : Nat → List Nat) (sub : Nat → Nat → Bool) : List Hd → Nat → List (Nat × D) → Lc → Store → Out
  | [], c, fs, ρ, st => .exc c fs ρ st
  | h :: t, c, fs, ρ, st => if (exf c).isEmpty then .stuck else if sub c h.k then outN h.i (h.ks c fs (ρ.wipe h.i.toList) st) else hdO exf sub t c fs ρ st
def W0 : WX := fun _ _ _ _ => False
/-- the clauses as they stand -/
inductive HdM (X : Cx) (g : G) (okx : Nat → Bool) : List ExceptHandler → List Hd → Prop
  | nil : HdM X g okx [] []
  | plain {x : Str} {Ck : Addr} {k : Nat} {ks : Nat → List (Nat × D) → Lc → Store → Out} {b₀ : Stmt} {suite : List Stmt} {np pos' : Pos} {hds : List ExceptHandler} {l : List Hd} (hc : Names X x (.ref Ck)) (hk : g.cls k = some Ck) (hok : okx k = true)
      (hsu : ∀ (a : Addr) (oe : Obj) (C dd : Addr) (pn : List (Addr × Obj)) (c : Nat) (fs : List (Nat × D)), Zc (.ref C) (some dd) oe → (∃ vs, oe.data = .fields vs) → MSs (X.suite a ((a, oe) :: pn)) g W0 none none (b₀ :: suite) (ks c fs)) (r : HdM X g okx hds l) :
      HdM X g okx (.ExceptHandler (some (.Name x np)) none (b₀ :: suite) pos' :: hds) (⟨k, none, ks⟩ :: l)
  | named {x n : Str} {i : Nat} {Ck : Addr} {k : Nat} {ks : Nat → List (Nat × D) → Lc → Store → Out} {b₀ : Stmt} {suite : List Stmt} {np pos' : Pos} {hds : List ExceptHandler} {l : List Hd} (hc : Names X x (.ref Ck)) (hk : g.cls k = some Ck) (hok : okx k = true) (hi : X.N[i]? = some n) (hln : X.env.kindOf n = some .local)
      (hsu : ∀ (a : Addr) (oe : Obj) (C dd : Addr) (pn : List (Addr × Obj)) (c : Nat) (fs : List (Nat × D)), Zc (.ref C) (some dd) oe → (∃ vs, oe.data = .fields vs) → MSs (X.suite a ((a, oe) :: pn)) g W0 (some ((C, dd), a, i)) (some (c, fs)) (b₀ :: suite) (ks c fs)) (r : HdM X g okx hds l) :
      HdM X g okx (.ExceptHandler (some (.Name x np)) (some n) (b₀ :: suite) pos' :: hds) (⟨k, some i, ks⟩ :: l)
/-- the readings of the suites -/
def clsOf (g : G) : List Hd → List Cl
  | [] => []
  | h :: t => (match g.cls h.k with
    | some Ck => (.ref Ck, h.i, fun a cls d => fun D σ H => ∃ C dd c fs, cls = .ref C ∧ d = some dd ∧ tS g W0 (h.i.map fun i => ((C, dd), a, i)) (match h.i with | none => none | some _ => some (c, fs)) (h.ks c fs) D σ H)
    | none => (.none, none, fun _ _ _ _ _ _ => False)) :: clsOf g t
theorem HdM.hdN {okx : Nat → Bool} {hds : List ExceptHandler} {l : List Hd} (h : HdM X g okx hds l) : HdN X hds (clsOf g l) := by
  induction h with
  | nil => exact .nil
  | plain hc hk hok hsu r ih =>
    simp only [clsOf, hk]
    refine .plain hc (fun a oe cls d pn hz hf => ⟨fun pins s σ H D I ⟨C, dd, c, fs, e1, e2, t⟩ => ?_⟩) ih
    subst e1; subst e2
    exact (hsu a oe C dd pn c fs hz hf).run pins s σ H D I t
  | named hc hk hok hi hln hsu r ih =>
    simp only [clsOf, hk]
    refine .named hc hi hln (fun a oe cls d pn hz hf => ⟨fun pins s σ H D I ⟨C, dd, c, fs, e1, e2, t⟩ => ?_⟩) ih
    subst e1; subst e2
    exact (hsu a oe C dd pn c fs hz hf).run pins s σ H D I t
theorem RL.gone {μ : List Addr} {H : Hp} {ρ : Lc} {σ : L2.St} (h : RL g μ H ρ σ) (i : Nat) : RL g μ H (ρ.wipe [i]) (σ.set i none) := by
  refine ⟨by simp [Lc.wipe, h.1], fun k d e => ?_⟩
  unfold Lc.wipe Lc.wipe Lc.get at e
  by_cases hk : i = k
  · subst hk
    by_cases hl : i < ρ.length
    · rw [List.getElem?_set_self hl] at e; simp at e
    · rw [List.getElem?_eq_none (by simpa using hl)] at e; simp at e
  · rw [List.getElem?_set_ne hk] at e
    obtain ⟨v, h1, h2⟩ := h.2 k d (by unfold Lc.get; exact e)
    exact ⟨v, by rw [List.getElem?_set_ne hk]; exact h1, h2⟩
theorem RL.held {μ : List Addr} {H : Hp} {ρ : Lc} {σ : L2.St} (h : RL g μ H ρ σ) (i : Nat) (v : V) : RL g μ H (ρ.wipe [i]) (σ.set i (some v)) := by
  refine ⟨by simp [Lc.wipe, h.1], fun k d e => ?_⟩
  unfold Lc.wipe Lc.wipe Lc.get at e
  by_cases hk : i = k
  · subst hk
    by_cases hl : i < ρ.length
    · rw [List.getElem?_set_self hl] at e; simp at e
    · rw [List.getElem?_eq_none (by simpa using hl)] at e; simp at e
  · rw [List.getElem?_set_ne hk] at e
    obtain ⟨v, h1, h2⟩ := h.2 k d (by unfold Lc.get; exact e)
    exact ⟨v, by rw [List.getElem?_set_ne hk]; exact h1, h2⟩
/-- the clauses take what the body raises -/
theorem hdO_ok {okx : Nat → Bool} {exf : Nat → List Nat} {sub : Nat → Nat → Bool} (F : ExF X.K g exf sub okx) {xa : XA} {xn : XN} {D : Ends} {μ : List Addr} {H : Hp} {σ : L2.St} {c : Nat} {fs : List (Nat × Fw.D)} {ρ : Lc} {st : Store} {C dd : Addr}
    (hx : RX g μ H (some (C, dd)) (some (c, fs))) (hl : RL g μ H ρ σ) (hr : RS g μ μ H st) {hds : List ExceptHandler} {l : List Hd} (h : HdM X g okx hds l)
    (post : FlowPost g Wx xa xn D μ H σ (hdO exf sub l c fs ρ st)) : wN X.K X.N.length Wx D (clsOf g l) (.ref C) (some dd) σ H := by
  obtain ⟨C', dd', vs, e1, hC, hdd, hnm, rf⟩ := id hx
  cases e1
  induction h with
  | nil => exact post σ C dd μ H .refl hx hl hr
  | @plain x Ck k ks b₀ suite np pos' hds l hc hk hok hsu r ih =>
    simp only [clsOf, hk, wN]
    unfold hdO at post
    by_cases h0 : (exf c).isEmpty = true
    · rw [if_pos h0] at post; exact post.elim
    · rw [if_neg h0] at post
      obtain ⟨h4, h5⟩ := F.s c C k Ck hC (by intro z; rw [z] at h0; exact h0 rfl) hok hk
      refine ⟨sub c k, h4, fun hb a ha hn => ?_, fun hb => ?_⟩
      · rw [hb, if_pos rfl] at post
        refine ⟨C, dd, c, fs, rfl, rfl, ρ, μ, st, ⟨hl, hr, trivial, fun _ _ _ e => by cases e⟩, ?_⟩
        dsimp only [Option.toList, Lc.wipe] at post
        cases e : ks c fs ρ st with
        | stuck => rw [e] at post; exact post
        | exc c' fs' ρ' st' => rw [e] at post; exact post.elim
        | ret w st' => rw [e] at post; exact post
        | nx ρ' st' => rw [e] at post; exact post
        | bk ρ' st' => rw [e] at post; exact post
      · rw [hb, if_neg (by simp)] at post
        exact ih post
  | @named x n i Ck k ks b₀ suite np pos' hds l hc hk hok hi hln hsu r ih =>
    simp only [clsOf, hk, wN]
    unfold hdO at post
    by_cases h0 : (exf c).isEmpty = true
    · rw [if_pos h0] at post; exact post.elim
    · rw [if_neg h0] at post
      obtain ⟨h4, h5⟩ := F.s c C k Ck hC (by intro z; rw [z] at h0; exact h0 rfl) hok hk
      refine ⟨sub c k, h4, fun hb a ha hn => ?_, fun hb => ?_⟩
      · rw [hb, if_pos rfl] at post
        have hil : i < σ.length := by rw [hn]; exact (List.getElem?_eq_some_iff.mp hi).1
        refine ⟨C, dd, c, fs, rfl, rfl, ρ.wipe [i], μ, st, ⟨hl.held i _, hr, hx, fun p a' i' e => ?_⟩, ?_⟩
        · simp only [Option.map_some, Option.some.injEq, Prod.mk.injEq] at e
          obtain ⟨_, rfl, rfl⟩ := e
          show (σ.set _ _)[_]? = _
          rw [List.getElem?_set_self hil]
        dsimp only [Option.toList] at post
        cases e : ks c fs (ρ.wipe [i]) st with
        | stuck => rw [e] at post; exact post
        | exc c' fs' ρ' st' => rw [e] at post; exact post.elim
        | ret w st' => rw [e] at post; exact post
        | nx ρ' st' => rw [e] at post; exact fun σ' μ' H' s hl' hr' => post (σ'.set i none) μ' H' s (hl'.gone i) hr'
        | bk ρ' st' => rw [e] at post; exact fun σ' μ' H' s hl' hr' => post (σ'.set i none) μ' H' s (hl'.gone i) hr'
      · rw [hb, if_neg (by simp)] at post
        exact ih post

theorem ms_try {okx : Nat → Bool} {exf : Nat → List Nat} {sub : Nat → Nat → Bool} {kb : Lc → Store → Out} {body : List Stmt} {h₀ : ExceptHandler} {hds : List ExceptHandler} {l : List Hd} (F : ExF X.K g exf sub okx) (hs : X.stack = X.env :: X.outer) (hf : X.env.frame = some X.env.locals) (hN : X.N.Nodup) (tk : Takes X Wx)
    (hb : ∀ (W : WX) (pn : List (Addr × Obj)) (xe : Value → Shared → Prop), Takes (X.tr pn xe) W → PassesOwn (model X.prog X.w) X.A X.env xe → MSs (X.tr pn xe) g W none none body kb)
    (hh : HdM X g okx (h₀ :: hds) l) : MS X g Wx xa xn (.Try body (h₀ :: hds) [] [] pos) (fun ρ st => match kb ρ st with | .exc c fs ρ st => hdO exf sub l c fs ρ st | o => o) :=
  PS.weak (ps_tryN (tb := fun W => tS g W none none kb) hs hf hN tk hb hh.hdN) fun D σ H ⟨ρ, μ, st, hsr, post⟩ => by
    refine ⟨ρ, μ, st, hsr.drop, ?_⟩
    dsimp only at post
    cases e : kb ρ st with
    | stuck => rw [e] at post; exact post
    | nx ρ' st' => rw [e] at post; exact post
    | bk ρ' st' => rw [e] at post; exact post
    | ret w st' => rw [e] at post; exact post
    | exc c fs ρ' st' =>
      rw [e] at post
      exact fun σ' C dd μ' H' s hx hl hr => hdO_ok F hx hl hr hh (FlowPost.step (σ1 := σ') post s)
end
end Fw

/-! ## Fx5 -/
set_option Elab.async false
set_option linter.all false
set_option maxRecDepth 100000
set_option maxHeartbeats 4000000
/-! List comprehensions whose parts may raise; the new list is no one's till the end. -/
namespace Fw
open PySem PySem.Spec PyProof.Rows L2

/-- what a comprehension asks of its block's end -/
def endX (M : Model) (A : Around) (E : Value → Shared → Prop) (use : Option (Value → Sem Unit)) (Q : Value → Shared → Prop) (acc : Value) (cenv : Env) (r : Result) (s' : Shared) : Prop := match r with
  | .ok f => compPost M A E use Q acc cenv.locals (.ok f) s'
  | .error x => ∃ m, s'.heap.Ns cenv.locals m ∧ ∀ h', Heap.SameBut cenv.locals s'.heap h' → wpAny M A (passOn "comprehension.variables-let-go" x cenv : Sem Value) (fun _ _ => False) E { s' with heap := h' }
section
variable {M : Model} {A : Around} {E : Value → Shared → Prop} {s : Shared} {env : Env}
theorem run_comp {e : Expr} {scope : Scope} {pos : Pos} {newAcc first : Sem Value} {g : Comprehension} {gs : List Comprehension} {cl : List (Str × Addr)} {use : Option (Value → Sem Unit)} {Q : Value → Shared → Prop}
    (hcl : clausesOf e = g :: gs) (hs : ∀ x, foldedSetIterable g.iter env x = pure x) (hclos : closureFor scope env = pure cl) (hkind : scope.kind = .function) (hnames : ∀ x ∈ scope.names, x.2 = .local → scope.names.lookup x.1 = some .local)
    (h : wpAny M A first (fun x s₁ => wpAny M A (pyIter x) (fun it s₂ => wpAny M A newAcc (fun acc s₃ => wpAny M A (newFunctionEnv scope env.globals cl [] env.qual none .none (some env)) (fun cenv s₄ =>
        codeAny M A (.compStart e 0 it acc { cenv with scope := relabel scope env }) (endX M A E use Q acc { cenv with scope := relabel scope env }) s₄) E s₃) E s₂) E s₁) E s) :
    wpAny M A (comprehension e scope env pos newAcc false first use) Q E s := by
  unfold comprehension
  rw [hclos, hcl]
  refine wpAny_bind (wpAny_mono h (fun x s₁ h₁ => ?_) fun _ _ z => z)
  refine wpAny_bind (wpAny_standAt (wpAny_bind (wpAny_of_eq (hs x) (wpAny_bind (wpAny_holding (wpAny_mono h₁ (fun it s₂ h₂ => ?_) fun _ _ z => z))))))
  refine wpAny_standIf (wpAny_bind (wpAny_mono h₂ (fun acc s₃ h₃ => ?_) fun _ _ z => z))
  refine wpAny_bind (wpAny_pure (wpAny_bind (wpAny_mono h₃ (fun cenv s₄ h₄ => ?_) fun _ _ z => z)))
  dsimp only
  have vloc : ∀ l : List (Str × NameKind), (∀ x ∈ l, x ∈ scope.names) → ∀ x ∈ l, x.2 = .local → Env.kindOf { cenv with scope := relabel scope env } x.1 = some .local := fun l hl x hx hk => lookup_relabel_local (hnames x (hl x hx) hk)
  have v1 := vloc (scope.names.filter fun x => (x.2 == .local || x.2 == .cell) && x.1 != (".0" : Str)).reverse fun x hx => (List.mem_filter.mp (List.mem_reverse.mp hx)).1
  have v2 := vloc ((scope.names.filter fun x => (x.2 == .local || x.2 == .cell) && x.1 != (".0" : Str)).reverse.drop 1 ++ (scope.names.filter fun x => (x.2 == .local || x.2 == .cell) && x.1 != (".0" : Str)).reverse.take 1) fun x hx => by
    rcases List.mem_append.mp hx with z | z
    · exact (List.mem_filter.mp (List.mem_reverse.mp (List.mem_of_mem_drop z))).1
    · exact (List.mem_filter.mp (List.mem_reverse.mp (List.mem_of_mem_take z))).1
  refine wpAny_holding (wpAny_bind (wpAny_attempt (wpAny_holding (wpAny_run (codeAny_mono h₄ fun r s' hr => ?_)))))
  cases r with
  | error x =>
    obtain ⟨m, hn, hr⟩ := hr
    exact wpAny_bind (wpAny_holding (wpAny_comp_letGo (cenv := { cenv with scope := relabel scope env }) hkind _ s' m v1 hn fun h' m' _ hs' => wpAny_mono (hr h' hs') (fun _ _ f => f.elim) fun _ _ y => y))
  | ok f =>
    cases use with
    | none =>
      obtain ⟨m, hn, hr⟩ := hr
      exact wpAny_bind (wpAny_holding (wpAny_comp_letGo (cenv := { cenv with scope := relabel scope env }) hkind _ s' m v1 hn fun h' m' _ hs' => wpAny_pure (hr h' hs')))
    | some u =>
      refine wpAny_bind (wpAny_rule (wpAny_bind (wpAny_holding (wpAny_mono hr (fun _ s'' hr' => ?_) fun _ _ z => z))))
      obtain ⟨m, hn, hr'⟩ := hr'
      exact wpAny_bind (wpAny_comp_letGo (cenv := { cenv with scope := relabel scope env }) hkind _ s'' m v2 hn fun h' m' _ hs' => wpAny_pure (hr' h' hs'))
end

/-- the frame alone counts -/
theorem noteFrame_frame {e : Value} {env env' : Env} (h : env.frame = env'.frame) : noteFrame e env = noteFrame e env' := by
  unfold PySem.noteFrame PySem.frameOf
  rw [h]
section
open HandSPX
variable {M : Model} {A : Around} {E : Value → Shared → Prop} {s : Shared} {Z : Obj → Prop} {base : Heap} {env : Env} {outer : List Env} {L e : Addr}
/-- an exception that another frame noted is noted -/
theorem note_other {fl : Value} {Q : Unit → Shared → Prop} (hZ : Steady Z) (hfr : A.frames = some (env :: outer)) (hf : env.frame = some L) (hkb : base.StaysIn s.heap) (hen : base.get? e = none) (hl : s.heap.FunFrames base (env :: outer)) (ht : TracedZ s.heap base e Z fl)
    (hfl : (fl == rawInt L) = false) (hQ : ∀ h', HeldZ base (env :: outer) e Z L h' → s.heap.UpToSlots h' → Q () { s with heap := h' }) : wpAny M A (noteFrame (.ref e) env) Q E s := by
  obtain ⟨oe, vs, T, oT, ts, he, hz, hd, h1, hnT, hTe, hT, hdT, h3⟩ := ht
  have other : ∀ b, b ≠ T → (s.heap.update T (Obj.mapFields (·.setIfInBounds 3 Value.none))).get? b = s.heap.get? b := fun b hb => Heap.get?_update_other _ _ (Ne.symm hb)
  have noT : ∀ b o, s.heap.get? b = some o → (∀ vs, o.data ≠ .fields vs) → b ≠ T := fun b o hb hnf q => by
    subst q; rw [hT] at hb; cases hb; exact hnf ts hdT
  have notB : ∀ b o, base.get? b = some o → b ≠ T := fun b o hb q => by subst q; rw [hnT] at hb; cases hb
  unfold noteFrame
  simp only [hf]
  refine wpAny_bind (wpAny_field he hd h1 ?_)
  rw [if_pos (show (Value.ref T != Value.none) = true from by simp)]
  refine wpAny_bind (wpAny_field hT hdT h3 ?_)
  rw [if_neg (by rw [hfl]; decide)]
  refine wpAny_bind (wpAny_setField hT hdT (Array.getElem?_eq_some_iff.mp h3).1 ?_)
  refine wpAny_entryZ hZ hfr (hl.of_keeps fun b o hb hnf => ⟨o, (other b (noT b o hb hnf)).trans hb, rfl⟩) hf ((other e (Ne.symm hTe)).trans he) (fun b o hbo => (other b (notB b o hbo)).trans (hkb b o hbo)) hen hd (Array.getElem?_eq_some_iff.mp h1).1 hz fun h' hN => ?_
  exact hQ h' ⟨hN.1, hen, hN.2.1, hN.2.2.1⟩ fun b o hb hnf => hN.2.2.2 b o ((other b (noT b o hb hnf)).trans hb) hnf
end

/-- a block's context: its list and its iterator at fp -/
abbrev blx (X : Cx) (s : Shared) (H : Hp) (scope : Scope) (cenv : Env) (fp : List Addr) (xe : Value → Shared → Prop) : Cx := { X.blk s H scope cenv fp with xe := xe }
section
variable {X : Cx} {pins : List (Addr × Obj)} {σ : L2.St} {H H' : Hp} {s s' : Shared}
theorem blx_of {s0 : Shared} {H0 : Hp} {scope : Scope} {cenv : Env} {fp : List Addr} {xe : Value → Shared → Prop} (I : L2.Inv (X.blk s0 H0 scope cenv fp) pins σ H s) : L2.Inv (blx X s0 H0 scope cenv fp xe) pins σ H s :=
  ⟨⟨I.ok.mod, I.ok.kind, I.ok.glob, I.ok.blt, I.ok.above, I.ok.inj, I.ok.has, I.ok.cab, I.ok.hd, I.ok.frames, I.ok.stk, I.ok.exf, I.ok.bs, I.ok.bsz, I.ok.noex, I.ok.exfs, I.ok.funs, I.ok.frf⟩, I.os, I.bare, I.base, I.loc, I.cell, I.free, I.freeC, I.pin, I.hok, I.len⟩
/-- what is tracked stands in another heap too -/
theorem hok_stay {P : Program} {w : World} {h h' : Heap} (k : HOk P w H h) (q : ∀ b o, H b = some o → h.get? b = h'.get? b) : HOk P w H h' := fun b o e =>
  (k b o e).stay (fun c v hc z => by
    have : ∃ o', H c = some o' := by rcases hc with hc | hc
                                     · exact ⟨o, by rw [hc]; exact e⟩
                                     · exact ⟨_, hc⟩
    obtain ⟨o', e'⟩ := this
    rw [← q c o' e']; exact z) (fun _ z => z) (fun _ _ z => z)
/-- one more is tracked -/
theorem hok_one {P : Program} {w : World} {h : Heap} {D : Addr} {o : HO} (k : HOk P w H h) (hn : H D = none) (new : ObjOk P w (upd H D o) h D o) : HOk P w (upd H D o) h := fun b u e => by
  by_cases hb : b = D
  · subst hb
    rw [upd_same] at e; cases e
    exact new
  · rw [upd_ne hb] at e
    exact (k b u e).stay (fun _ _ _ z => z) (fun c hc => by rw [upd_ne (ne_of_none hc hn)]; exact hc) (fun c xs hc => by rw [upd_ne (ne_of_none hc hn)]; exact hc)
/-- a block's exception goes on from the def's own hand -/
theorem blk_takes {s0 : Shared} {H0 : Hp} {scope : Scope} {ce : Env} {fp : List Addr} {W : WX} {use : Option (Value → Sem Unit)} {Qf : Value → Shared → Prop} {acc : Value} (hs : X.stack = X.env :: X.outer) (hf : X.env.frame = some X.env.locals) (hfs : X.fs = frs X.outer) (tk : Takes X W)
    (I0 : L2.Inv X pins σ H0 s0) (hfp : ∀ b ∈ fp, FpOk X pins H0 b) (hce : ce.frame = X.env.frame) (hC : s0.heap.objs.size ≤ ce.locals) (xe : Value → Shared → Prop)
    (hxe : xe = notedBy (model X.prog X.w) X.A ce fun e s' => endX (model X.prog X.w) X.A X.xe use Qf acc ce (.error e) s') :
    Takes (blx X s0 H0 scope ce fp xe) (fun c d _ H => W c d σ H) := by
  rintro u s' ⟨a, B, sI, pins', σ', H', cls, d, rfl, I, nb, up, sky, na, os, ag, w⟩
  have hfr : X.A.frames = some (X.env :: X.outer) := by rw [I0.ok.frames, hs]
  have fC : FpOk X pins H' ce.locals := I0.fpOk hC I.free
  have stk : ∀ b, b ∈ frs X.stack → b ≠ ce.locals := fun b hb z => by
    rw [hs] at hb
    rw [show frs (X.env :: X.outer) = X.env.locals :: frs X.outer from by simp [frs, hf]] at hb
    rcases List.mem_cons.mp hb with e | e
    · exact fC.2.1 (by rw [← z, e])
    · exact fC.2.2.1 (by rw [hfs, ← z]; exact e)
  have skyD : Sky B (X.env :: X.outer) a (Zc cls d) ce.locals s'.heap := by rw [← hs]; exact sky
  show xe (.ref a) s'
  rw [hxe]
  show wpAny _ _ (noteFrame (.ref a) ce) _ _ _
  rw [noteFrame_frame hce]
  have cont : ∀ h5, HandSPX.HeldZ B (X.env :: X.outer) a (Zc cls d) X.env.locals h5 → s'.heap.UpToSlots h5 → endX (model X.prog X.w) X.A X.xe use Qf acc ce (.error (.ref a)) { s' with heap := h5 } := by
    intro h5 hh5 up5
    obtain ⟨m, ⟨oC, es, ep, hoC, rC⟩, _⟩ := I.loc
    have hoC : sI.heap.get? ce.locals = some oC := hoC
    have dC : ∀ vs, oC.data ≠ .fields vs := fun vs z => by
      have := rC.1
      rw [z] at this; cases this
    obtain ⟨slC, hoC5⟩ := (up.trans up5) ce.locals oC hoC dC
    refine ⟨m, ⟨{ oC with slots := slC }, es, ep, hoC5, rC⟩, fun h6 sb => ?_⟩
    obtain ⟨f1, f2, f3, oe, vs, T, oT, ts, he, hz, hd, h1, hnT, hTe, hT, hdT, h3⟩ := hh5
    have aC : a ≠ ce.locals := fun z => by rw [z, hoC5] at he; cases he; exact dC vs hd
    have BC : B.get? ce.locals = some oC := nb _ _ hoC fun z => stk _ z rfl
    have TC : T ≠ ce.locals := fun z => by rw [z, BC] at hnT; cases hnT
    obtain ⟨B', b1, b2⟩ := restrict B fun b => decide (b ≠ ce.locals)
    obtain ⟨G, g1, g2⟩ := restrict sI.heap fun b => decide (b ≠ ce.locals)
    have bk : ∀ b, b ≠ ce.locals → B'.get? b = B.get? b := fun b hb => b1 b (decide_eq_true hb)
    have bC : B'.get? ce.locals = none := b2 _ (by simp)
    have gk : ∀ b, b ≠ ce.locals → G.get? b = sI.heap.get? b := fun b hb => g1 b (decide_eq_true hb)
    have gC : G.get? ce.locals = none := g2 _ (by simp)
    have b0 : ∀ b o, B'.get? b = some o → b ≠ ce.locals ∧ B.get? b = some o := fun b o e => by
      have n : b ≠ ce.locals := fun z => by rw [z, bC] at e; cases e
      exact ⟨n, by rw [← bk b n]; exact e⟩
    have held : HandSPX.HeldZ B' (X.env :: X.outer) a (Zc cls d) X.env.locals h6 := by
      refine ⟨fun b o e => (sb.2 b (b0 b o e).1).trans (f1 b o (b0 b o e).2), ?_, ?_, oe, vs, T, oT, ts, (sb.2 a aC).trans he, hz, hd, h1, ?_, hTe, (sb.2 T TC).trans hT, hdT, h3⟩
      · rw [bk a aC]; exact f2
      · have f4 : h5.FunFrames B' (X.env :: X.outer) := funFrames_none f3 fun L hL => by
          have : B.get? L = none := by
            obtain ⟨q, _⟩ := f3.mem hL
            exact q
          rw [bk L (stk L (by rw [hs]; exact hL))]
          exact this
        have hm : ∀ b ∈ frs (X.env :: X.outer), h6.get? b = h5.get? b := fun b hb => sb.2 b (stk b (by rw [hs]; exact hb))
        have : ∀ {l : List Env}, h5.FunFrames B' l → (∀ b ∈ frs l, h6.get? b = h5.get? b) → h6.FunFrames B' l := by
          intro l
          induction l with
          | nil => intro _ _; trivial
          | cons env l ih =>
            rintro ⟨hk, ⟨L, o, hf, hn, ho, hd⟩, hr⟩ hm
            exact ⟨hk, ⟨L, o, hf, hn, (hm L (List.mem_filterMap.mpr ⟨env, List.mem_cons_self, hf⟩)).trans ho, hd⟩, ih hr fun b hb => by
              obtain ⟨e, he, q⟩ := List.mem_filterMap.mp hb
              exact hm b (List.mem_filterMap.mpr ⟨e, List.mem_cons_of_mem _ he, q⟩)⟩
        exact this f4 hm
      · rw [bk T TC]; exact hnT
    unfold PySem.passOn
    refine wpAny_bind (wpAny_field ((sb.2 a aC).trans he) hd h1 ?_)
    rw [if_neg (show ¬ ((Value.ref T == Value.none) = true) from by simp)]
    have fin : wpAny (model X.prog X.w) X.A (setFlight (.ref a) ce.frame) (fun _ s4 => wpAny (model X.prog X.w) X.A (throw (.ref a) : Sem Value) (fun _ _ => False) X.xe s4) X.xe { s' with heap := h6 } := by
      rw [hce, hf]
      refine HandSPX.setFlight_onZ held fun h7 hh7 up7 => wpAny_throw (tk _ _ ?_)
      have J : L2.Inv X pins σ H' { sI with heap := G } := by
        have nC0 : ∀ {b : Addr} {o : Obj}, s0.heap.get? b = some o → b ≠ ce.locals := fun {b o} e z => by
          have h1 : Nat.lt b s0.heap.objs.size := Heap.lt_size e
          have h2 : Nat.le s0.heap.objs.size ce.locals := hC
          rw [z] at h1
          exact Nat.lt_irrefl _ (Nat.lt_of_lt_of_le h1 h2)
        have U := I.base
        refine I0.call' (ch := fp) I.os ⟨fun b o e n hb hx => ?_, fun b o e n hb hx => ?_, fun b o e n hx => U.free b o e n hx, fun b o e hx => ?_, U.tups, U.frzs, U.tbls⟩ (hok_stay I.hok fun b o e => ?_) I.bare fun b hb => ⟨(hfp b hb).2.2.2.1, (hfp b hb).2.1, (hfp b hb).2.2.2.2.1, (hfp b hb).2.2.2.2.2⟩
        · show G.get? b = _; rw [gk b (nC0 e)]; exact U.keep b o e n hb hx
        · show ∃ sl, G.get? b = _; rw [gk b (nC0 e)]; exact U.slot b o e n hb hx
        · show ∃ o', G.get? b = _; rw [gk b (nC0 e)]; exact U.there b o e hx
        · show _ = G.get? b
          exact (gk b fun z => by rw [z, show H' ce.locals = none from I.free] at e; cases e).symm
      refine ⟨a, B', { sI with heap := G }, pins, σ, H', cls, d, rfl, J, fun b o e hb => ?_, fun b o e hnf => ?_, .inr (.inr (by rw [hs]; exact hh7)), na, os, ag, w⟩
      · have e : G.get? b = some o := e
        have n : b ≠ ce.locals := fun z => by rw [z, gC] at e; cases e
        rw [bk b n]
        exact nb b o (by rw [← gk b n]; exact e) hb
      · have e : G.get? b = some o := e
        have n : b ≠ ce.locals := fun z => by rw [z, gC] at e; cases e
        obtain ⟨sl, q⟩ := (up.trans up5) b o (by rw [← gk b n]; exact e) hnf
        exact up7 b _ ((sb.2 b n).trans q) hnf |>.imp fun _ z => z
    first
      | exact wpAny_bind (wpAny_pure (wpAny_bind fin))
      | exact wpAny_bind fin
  rcases skyD with ⟨hB, hn, hl, oe, vs, he, hz, hd, h1⟩ | fl | hd
  · exact HandSPX.look_newZ Zc.steady hfr hl hf he hB hn hd h1 hz cont
  · exact HandSPX.looks_onZ Zc.steady hfr hf fl cont
  · obtain ⟨k1, k2, k3, k4⟩ := hd
    refine note_other Zc.steady hfr hf k1 k2 k3 k4 ?_ cont
    have : ce.locals ≠ X.env.locals := fC.2.1
    simp only [rawInt]
    simpa using fun z => this (Int.ofNat_inj.mp z)
end
end Fw

/-! ## Fx6 -/
set_option Elab.async false
set_option linter.all false
set_option maxRecDepth 100000
set_option maxHeartbeats 4000000
/-! List comprehensions: the rule, and what they compute. -/
namespace Fw
open PySem PySem.Spec PyProof.Rows L2

/-- a plain list's object -/
def lobj (us : List Value) (n : Nat) : Obj := { cls := .type "list", dict := none, data := .seq us.toArray n }
/-- [elt for target in iter if ..]: acc by the turn; the new list is laid last -/
def tCmp (wi : TI) (g : TG) (tt : TT) (te : TE) (vs : List Nat) : TE := fun σ H Q => wi σ H fun J H1 => ∃ W : Nat → Nat → List V → Hp → Prop, (∃ m, W 0 m [] H1) ∧ ∀ i m acc H, W i m acc H →
  (J.stop i H ∧ ∀ D, H D = none → Q (.ref D) (upd H D (.lst acc))) ∨ (J.go i H ∧ ∃ Nx : List V → Hp → Prop, (∀ acc' H', Nx acc' H' → ∃ m', m' < m ∧ W (i + 1) m' acc' H') ∧ ∀ x H', J.yld i H x H' → g x (wipe σ vs) H' fun σ2 H2 => wipe σ2 vs = wipe σ vs ∧ tt σ2 H2 fun b H3 =>
    if b = true then te σ2 H3 fun y H4 => acc.length < sizeLine ∧ Nx (acc ++ [y]) H4 else Nx acc H3)
section
variable {X : Cx}
theorem comp_core {pins : List (Addr × Obj)} {s : Shared} {σ : L2.St} {H : Hp} {Q : VK} {elt tg iter : Expr} {ifs : List Expr} {scope : Scope} {own : List (Str × Nat)} {pos pos' : Pos} {wi : TI} {g : TG} {tt : TT} {te : TE} {use : Option (Value → Sem Unit)} {Qf : Value → Shared → Prop}
    (hc : X.calm = true) (hN : X.N.Nodup) (I : L2.Inv X pins σ H s) (hi : PI X tg iter wi) (ok : BlkOk X.N X.env.scope scope own)
    (XE' : (Value → Shared → Prop) → Cx → Prop)
    (hX : ∀ (s0 : Shared) (H0 : Hp) (ce : Env) (fp : List Addr) (acc : Value), L2.Inv X pins σ H0 s0 → (∀ b ∈ fp, FpOk X pins H0 b) → ce.frame = X.env.frame → s0.heap.objs.size ≤ ce.locals →
      XE' (notedBy (model X.prog X.w) X.A ce fun e s' => endX (model X.prog X.w) X.A X.xe use Qf acc ce (.error e) s') (blx X s0 H0 scope ce fp (notedBy (model X.prog X.w) X.A ce fun e s' => endX (model X.prog X.w) X.A X.xe use Qf acc ce (.error e) s')))
    (hg : ∀ (s : Shared) (H : Hp) (C : Addr) (cl : List (Str × Addr)) (fp : List Addr) (xe : Value → Shared → Prop), XE' xe (blx X s H scope (compEnvC scope cl C X.env) fp xe) → PG (blx X s H scope (compEnvC scope cl C X.env) fp xe) tg g)
    (ht : ∀ (s : Shared) (H : Hp) (C : Addr) (cl : List (Str × Addr)) (fp : List Addr) (xe : Value → Shared → Prop), XE' xe (blx X s H scope (compEnvC scope cl C X.env) fp xe) → PTs (blx X s H scope (compEnvC scope cl C X.env) fp xe) ifs tt)
    (he : ∀ (s : Shared) (H : Hp) (C : Addr) (cl : List (Str × Addr)) (fp : List Addr) (xe : Value → Shared → Prop), XE' xe (blx X s H scope (compEnvC scope cl C X.env) fp xe) → PE (blx X s H scope (compEnvC scope cl C X.env) fp xe) elt te) (hs : ∀ x, foldedSetIterable iter X.env x = pure x)
    (h : tCmp wi g tt te (own.map (·.2)) σ H Q)
    (hRR : ∀ D C s' m H', L2.Inv X pins σ H' s' → Q (.ref D) H' → s'.heap.Ns C m → FpOk X pins H' C → compPost (model X.prog X.w) X.A X.xe use Qf (.ref D) C (.ok .next) s') :
    wpAny (model X.prog X.w) X.A (comprehension (.ListComp elt [⟨tg, iter, ifs, 0⟩] scope pos) scope X.env pos' (newList []) false (eval iter X.env) use) Qf X.xe s := by
  have hfree : ∀ y ∈ scope.names, y.2 = .free → ∃ c, X.env.cells.lookup y.1 = some c := fun y hy e => by
    rcases ok.free y hy e with k | k
    · exact I.ok.has _ (.inl k)
    · exact I.ok.has _ (.inr k)
  refine run_comp (use := use) rfl hs (closure_ok hfree) ok.kind (fun y hy e => by rw [ok.uniq y hy, e])
    (thn (hi.run pins s σ H _ I h) fun xv s1 hx => thn hx fun itv s2 h2 => ?_)
  obtain ⟨it, fp, tn, J, H2, e, I2, T, st2, f2, q⟩ := h2
  subst e
  refine wpAny_newObj_type (newEnv_comp ?_) (by show 0 ≤ sizeLine; decide)
  generalize hD : s2.heap.objs.size = D
  have hDn : H2 D = none := I2.hok.fresh (Nat.le_of_eq hD)
  obtain ⟨W, ⟨m0, w0⟩, turn⟩ := q
  -- the new list, no one's
  generalize hs3 : ({ s2 with heap := s2.heap.push { cls := .type "list", data := .seq ([] : List Value).toArray } } : Shared) = s3
  have h3 : s3.heap = s2.heap.push { cls := .type "list", data := .seq ([] : List Value).toArray } := by rw [← hs3]
  have I3 : L2.Inv X pins σ H2 s3 := by
    rw [← hs3]
    exact I2.kept (t' := s2.toks) fun b o e => Heap.get?_push_of_some _ e
  have D3 : s3.heap.get? D = some (lobj [] 0) := by
    rw [h3, ← hD]
    exact Heap.get?_push_size _ rfl
  have sz : ∀ b ∈ fp, b < s2.heap.objs.size := fun b hb => by
    obtain ⟨o, e, _⟩ := T.obj _ _ st2 b hb
    exact Heap.lt_size e
  have fD : FpOk X pins H2 D := I2.fpOk (Nat.le_of_eq hD) hDn
  have fp2 : ∀ b ∈ D :: fp, FpOk X pins H2 b := fun b hb => by
    rcases List.mem_cons.mp hb with z | z
    · rw [z]; exact fD
    · exact f2 b z
  have nD : ∀ b ∈ fp, b ≠ D := fun b hb => by rw [← hD]; exact Nat.ne_of_lt (sz b hb)
  have f3 : ∀ b ∈ D :: fp, FpOk X pins H2 b ∧ b < s3.heap.objs.size := fun b hb => ⟨fp2 b hb, by
    rw [h3, Heap.size_push]
    rcases List.mem_cons.mp hb with z | z
    · rw [z, ← hD]; exact Nat.lt_succ_self _
    · exact Nat.lt_succ_of_lt (sz b z)⟩
  have st3 : tn 0 s3.heap := T.keep _ _ _ st2 fun b _ o e => by rw [h3]; exact Heap.get?_push_of_some _ e
  have I4 := block_start I3 ok hN f3
  have hx0 := hX s3 H2 (compEnvC scope (cellsFrom (s3.heap.objs.size + 1) scope.names (cloFrom X.env.cells scope.names [])) s3.heap.objs.size X.env) (D :: fp) (.ref D) I3 fp2 rfl (Nat.le_refl _)
  have pg := hg s3 H2 s3.heap.objs.size (cellsFrom (s3.heap.objs.size + 1) scope.names (cloFrom X.env.cells scope.names [])) (D :: fp) _ hx0
  have pt := ht s3 H2 s3.heap.objs.size (cellsFrom (s3.heap.objs.size + 1) scope.names (cloFrom X.env.cells scope.names [])) (D :: fp) _ hx0
  have pe := he s3 H2 s3.heap.objs.size (cellsFrom (s3.heap.objs.size + 1) scope.names (cloFrom X.env.cells scope.names [])) (D :: fp) _ hx0
  show codeAny _ _ (.compStart (.ListComp elt [⟨tg, iter, ifs, 0⟩] scope pos) 0 (.ref it) (.ref D) (compEnvC scope (cellsFrom (s3.heap.objs.size + 1) scope.names (cloFrom X.env.cells scope.names [])) s3.heap.objs.size X.env))
    (endX (model X.prog X.w) X.A X.xe use Qf (.ref D) (compEnvC scope (cellsFrom (s3.heap.objs.size + 1) scope.names (cloFrom X.env.cells scope.names [])) s3.heap.objs.size X.env)) { s3 with heap := pushCells (s3.heap.push { cls := .type "dict", data := .dict #[] }) scope.names }
  generalize hce : compEnvC scope (cellsFrom (s3.heap.objs.size + 1) scope.names (cloFrom X.env.cells scope.names [])) s3.heap.objs.size X.env = ce at I4 pg pt pe hx0 ⊢
  have cL : ce.locals = s3.heap.objs.size := by subst hce; rfl
  generalize hs4 : ({ s3 with heap := pushCells (s3.heap.push { cls := .type "dict", data := .dict #[] }) scope.names } : Shared) = s4 at I4 ⊢
  have k34 : ∀ b o, s3.heap.get? b = some o → s4.heap.get? b = some o := fun b o e => by rw [← hs4]; exact pushCells_keeps _ _ _ _ (Heap.get?_push_of_some _ e)
  have st4 : tn 0 s4.heap := T.keep _ _ _ st3 fun b _ o e => k34 b o e
  generalize hxe : (notedBy (model X.prog X.w) X.A ce fun e s' => endX (model X.prog X.w) X.A X.xe use Qf (.ref D) ce (.error e) s') = bx at pg pt pe hx0
  have I4 : L2.Inv (blx X s3 H2 scope ce (D :: fp) bx) [] (wipe σ (own.map (·.2))) H2 s4 := blx_of I4
  -- what holds of the iterator's and the list's addresses
  have stat : ∀ {σ' : L2.St} {H' : Hp} {s' : Shared} {pn : List (Addr × Obj)}, L2.Inv (blx X s3 H2 scope ce (D :: fp) bx) pn σ' H' s' → (∀ b ∈ fp, H' b = none) → (∀ b ∈ fp, ∀ p ∈ pn, p.1 ≠ b) → ∀ b ∈ fp, FpOk (blx X s3 H2 scope ce (D :: fp) bx) pn H' b := fun {σ' H' s' pn} I' hn hp b hb =>
    ⟨hn b hb, (I'.ok.exf b (List.mem_cons_of_mem _ hb)).1, I'.ok.exfs b (List.mem_cons_of_mem _ hb), .inl (List.mem_cons_of_mem _ hb), fun x c e => (I'.ok.exf b (List.mem_cons_of_mem _ hb)).2 x c e, fun p hp' => hp b hb p (by simpa using hp')⟩
  have statD : ∀ {σ' : L2.St} {H' : Hp} {s' : Shared}, L2.Inv (blx X s3 H2 scope ce (D :: fp) bx) [] σ' H' s' → H' D = none → FpOk (blx X s3 H2 scope ce (D :: fp) bx) [] H' D := fun {σ' H' s'} I' hn =>
    ⟨hn, (I'.ok.exf D List.mem_cons_self).1, I'.ok.exfs D List.mem_cons_self, .inl List.mem_cons_self, fun x c e => (I'.ok.exf D List.mem_cons_self).2 x c e, fun p hp' => absurd (show p ∈ ([] : List (Addr × Obj)) ++ [] from hp') (by simp)⟩
  have loop : codeAny (model X.prog X.w) X.A (.compLoop (.ListComp elt [⟨tg, iter, ifs, 0⟩] scope pos) 0 (.ref it) (.ref D) ce) (endX (model X.prog X.w) X.A X.xe use Qf (.ref D) ce) s4 := by
    refine compLoop_any (fun n s' => ∃ i H' acc us k, L2.Inv (blx X s3 H2 scope ce (D :: fp) bx) [] (wipe σ (own.map (·.2))) H' s' ∧ tn i s'.heap ∧ (∀ b ∈ D :: fp, H' b = none) ∧ s'.heap.get? D = some (lobj us k) ∧ Vals acc us ∧ acc.length ≤ sizeLine ∧ W i n acc H') ?_ m0
      ⟨0, H2, [], [], 0, I4, st4, fun b hb => (fp2 b hb).1, k34 _ _ D3, .nil, Nat.zero_le _, w0⟩
    rintro n s5 ⟨i, H5, acc, us, k, I5, st5, n5, D5, ra, hz, w5⟩
    rw [hxe]
    have nD5 : H5 D = none := n5 D List.mem_cons_self
    have np : ∀ b ∈ fp, ∀ p ∈ [(D, lobj us k)], p.1 ≠ b := fun b hb p hp => by
      rw [List.mem_singleton.mp hp]
      exact Ne.symm (nD b hb)
    have I5p : L2.Inv (blx X s3 H2 scope ce (D :: fp) bx) [(D, lobj us k)] (wipe σ (own.map (·.2))) H5 s5 := I5.pins_of fun p hp => by
      rw [List.mem_singleton.mp hp]
      have f := statD I5 nD5
      exact ⟨D5, nD5, f.2.1, f.2.2.1, fun v z => by cases z⟩
    have n5' : ∀ b ∈ fp, H5 b = none := fun b hb => n5 b (List.mem_cons_of_mem _ hb)
    rcases turn i n acc H5 w5 with ⟨stop, qq⟩ | ⟨go, Nx, hNx, step⟩
    · have td := T.done (blx X s3 H2 scope ce (D :: fp) bx) rfl rfl rfl hc i [(D, lobj us k)] s5 _ H5 (fun _ _ => False) I5p (stat I5p n5' np) st5 stop
      refine thnF td fun r s6 ⟨hr, I6⟩ => ?_
      subst hr
      have D6 : s6.heap.get? D = some (lobj us k) := (I6.pin (D, lobj us k) (by simp)).1
      have nC : H5 s3.heap.objs.size = none := by
        have z : H5 ce.locals = none := I6.free
        rw [cL] at z
        exact z
      have U := I6.base
      have k23 : ∀ b o, s2.heap.get? b = some o → s3.heap.get? b = some o := fun b o e => by rw [h3]; exact Heap.get?_push_of_some _ e
      have b2 : ∀ {b : Addr} {o : Obj}, s2.heap.get? b = some o → b ≠ D := fun {b o} e z => by
        have h1 : Nat.lt b s2.heap.objs.size := Heap.lt_size e
        rw [z, hD] at h1
        exact Nat.lt_irrefl _ h1
      have ex : ∀ {b : Addr}, b ≠ D → b ∉ fp → b ∉ D :: fp := fun {b} h1 h2 z => by
        rcases List.mem_cons.mp z with z | z
        · exact h1 z
        · exact h2 z
      have hlen := ra.length
      have I7 : L2.Inv X pins σ (upd H5 D (.lst acc)) s6 := by
        refine I2.call' (ch := fp) (I6.os.trans (by rw [← hs3])) ⟨fun b o e n hb hx => U.keep b o (k23 b o e) n hb (ex (b2 e) hx), fun b o e n hb hx => U.slot b o (k23 b o e) n hb (ex (b2 e) hx), fun b o e n hx => ?_, fun b o e hx => U.there b o (k23 b o e) (ex (b2 e) hx), fun b xs e => ?_, fun b o u e => ?_, fun b ps e => ?_⟩
          (hok_one I6.hok nD5 ⟨hz, us, k, ra, D6⟩) I6.bare fun b hb => ⟨(f2 b hb).2.2.2.1, (f2 b hb).2.1, (f2 b hb).2.2.2.2.1, (f2 b hb).2.2.2.2.2⟩
        · rw [upd_ne (b2 e)]; exact U.free b o (k23 b o e) n (ex (b2 e) hx)
        · rw [upd_ne (ne_of_none e hDn)]; exact U.tups b xs e
        · rw [upd_ne (ne_of_none e hDn)]; exact U.frzs b o u e
        · rw [upd_ne (ne_of_none e hDn)]; exact U.tbls b ps e
      obtain ⟨m, hn, _⟩ := I6.loc
      have hn : s6.heap.Ns ce.locals m := hn
      have fC : FpOk X pins H5 s3.heap.objs.size := I3.fpOk (Nat.le_refl _) nC
      have hDC : s3.heap.objs.size ≠ D := by rw [h3, Heap.size_push, hD]; exact Nat.succ_ne_self _
      show compPost _ _ _ use Qf _ ce.locals _ _
      rw [cL] at hn ⊢
      exact hRR D s3.heap.objs.size s6 m _ I7 (qq D nD5) hn ⟨by rw [upd_ne hDC]; exact nC, fC.2⟩
    · have ti := T.item (blx X s3 H2 scope ce (D :: fp) bx) rfl rfl rfl hc i [(D, lobj us k)] s5 _ H5 (fun _ _ => False) I5p (stat I5p n5' np) st5 go
      refine thnF ti fun r s6 ⟨u, hr, h6⟩ => ?_
      subst hr
      refine thnF h6 fun _ s7 ⟨x, H7, I7, r7, y7, st7, n7⟩ => ?_
      have I7' := I7.pinned (stat I7 n7 np) (T.obj _ _ st7)
      refine thn (pg.run _ s7 _ H7 x u _ I7' r7 (step x H7 y7)) fun _ s8 ⟨σ8, H8, I8, hw8, q8⟩ => ?_
      refine thn (pt.run _ s8 σ8 H8 _ I8 q8) fun b s9 ⟨H9, I9, q9⟩ => ?_
      have pinD : ∀ {s' : Shared} {H' : Hp}, L2.Inv (blx X s3 H2 scope ce (D :: fp) bx) ([(D, lobj us k)] ++ pinsAt fp s7.heap) σ8 H' s' → s'.heap.get? D = some (lobj us k) ∧ H' D = none := fun {s' H'} I' =>
        let z := I'.pin (D, lobj us k) (by simp)
        ⟨z.1, z.2.1⟩
      have hl8 : (wipe σ (own.map (·.2))).length = σ8.length := by rw [← hw8, wipe_length]
      -- a turn's end
      have fin : ∀ {s' : Shared} {H' : Hp} {acc' : List V} {us' : List Value} {k' : Nat}, L2.Inv (blx X s3 H2 scope ce (D :: fp) bx) (pinsAt fp s7.heap) σ8 H' s' → H' D = none → s'.heap.get? D = some (lobj us' k') → Vals acc' us' → acc'.length ≤ sizeLine → Nx acc' H' →
          ∃ m, m < n ∧ ∃ i H' acc us k, L2.Inv (blx X s3 H2 scope ce (D :: fp) bx) [] (wipe σ (own.map (·.2))) H' s' ∧ tn i s'.heap ∧ (∀ b ∈ D :: fp, H' b = none) ∧ s'.heap.get? D = some (lobj us k) ∧ Vals acc us ∧ acc.length ≤ sizeLine ∧ W i m acc H' := fun {s' H' acc' us' k'} I' hDn' hD' ra' hz' nx => by
        obtain ⟨m', hm, w'⟩ := hNx acc' H' nx
        have pin' : ∀ b ∈ fp, ∀ o, s7.heap.get? b = some o → s'.heap.get? b = some o ∧ H' b = none := fun b hb o e =>
          let z := I'.pin (b, o) (List.mem_append_right _ (mem_pinsAt hb e))
          ⟨z.1, z.2.1⟩
        refine ⟨m', hm, i + 1, H', acc', us', k', (L2.Inv.unpinned (pins := []) (pl := pinsAt fp s7.heap) I').weak hl8 (fun j v e => ?_), T.keep _ _ _ st7 fun b hb o e => (pin' b hb o e).1, fun b hb => ?_, hD', ra', hz', w'⟩
        · rw [← hw8] at e
          exact (wipe_some e).1
        · rcases List.mem_cons.mp hb with z | z
          · rw [z]; exact hDn'
          · obtain ⟨o, e, _⟩ := T.obj _ _ st7 b z
            exact (pin' b z o e).2
      have drop : ∀ {s' : Shared} {H' : Hp}, L2.Inv (blx X s3 H2 scope ce (D :: fp) bx) ([(D, lobj us k)] ++ pinsAt fp s7.heap) σ8 H' s' → L2.Inv (blx X s3 H2 scope ce (D :: fp) bx) (pinsAt fp s7.heap) σ8 H' s' := fun {s' H'} I' => I'.pins_of fun p hp => I'.pin p (List.mem_append_right _ (List.mem_append_right _ hp))
      cases b with
      | false =>
        simp only [Bool.false_eq_true, if_false] at q9 ⊢
        exact fin (drop I9) (pinD I9).2 (pinD I9).1 ra hz q9
      | true =>
        simp only [if_true] at q9 ⊢
        refine thn (pe.run _ s9 σ8 H9 _ I9 q9) fun z s10 ⟨yv, H10, I10, r10, hz10, nx⟩ => ?_
        have hlen := ra.length
        refine append_at (hsz := by rw [List.size_toArray]; omega) (pinD I10).1 fun h' sb ho' => ?_
        have f0 := statD (L2.Inv.unpinned (pins := []) (pl := _) I10) (pinD I10).2
        have I11 : L2.Inv (blx X s3 H2 scope ce (D :: fp) bx) (pinsAt fp s7.heap) σ8 H10 { s10 with heap := h' } := (drop I10).turned (t' := s10.toks) (it := D) (fun b o hb e => (sb.2 b hb).trans e) (pinD I10).2 f0.2.1 f0.2.2.2.1 f0.2.2.2.2.1 fun p hp => by
          obtain ⟨hb, _⟩ := of_pinsAt (show p ∈ pinsAt fp s7.heap from by simpa using hp)
          exact nD _ hb
        refine fin (us' := us ++ [z]) (k' := k + 1) I11 (pinD I10).2 ?_ (ra.append (.cons r10 .nil)) (by rw [List.length_append]; exact hz10) nx
        show h'.get? D = _
        rw [ho']
        simp [lobj]
  exact codeAny_compStart_list loop (T.self X.A 0 _ _ _ st4 loop)

variable {g : G} {Wx : WX} {xa : XA} {xn : XN} {elt tg iter : Expr} {ifs : List Expr} {pos : Pos} {t : T} {mi : Lc → Store → Res (List D)} {ct : Lc → Store → Res Bool} {el : Lc → Store → Res W}
theorem wipe_in {σ : L2.St} {j : Nat} : ∀ {vs : List Nat}, j ∈ vs → j < σ.length → (wipe σ vs)[j]? = some none
  | [], h, _ => by cases h
  | v :: vs, h, hl => by
    unfold wipe
    by_cases hv : v = j
    · subst hv
      rw [List.getElem?_set_self (by rw [wipe_length]; exact hl)]
    · rw [List.getElem?_set_ne hv]
      rcases List.mem_cons.mp h with z | z
      · exact absurd z.symm hv
      · exact wipe_in z hl
theorem wipe_same {a b : L2.St} {vs : List Nat} (hl : a.length = b.length) (h : ∀ j, j ∉ vs → a[j]? = b[j]?) : wipe a vs = wipe b vs := by
  refine List.ext_getElem? fun j => ?_
  by_cases hj : j ∈ vs
  · by_cases h2 : j < a.length
    · rw [wipe_in hj h2, wipe_in hj (by rw [← hl]; exact h2)]
    · rw [List.getElem?_eq_none (by rw [wipe_length]; omega), List.getElem?_eq_none (by rw [wipe_length]; omega)]
  · rw [wipe_out hj, wipe_out hj, h j hj]
theorem RL.wipes {μ : List Addr} {H : Hp} {ρ : Lc} {σ : L2.St} (h : RL g μ H ρ σ) : ∀ vs : List Nat, RL g μ H (ρ.wipe vs) (L2.wipe σ vs)
  | [] => h
  | v :: vs => by
    have ih := RL.wipes h vs
    have := RL.gone ih v
    exact this
/-- what a turn computes -/
def turnL (t : T) (own : List Nat) (ct : Lc → Store → Res Bool) (el : Lc → Store → Res W) (ρ : Lc) (d : D) (st : Store) : Res (Option D) := match tgt t d (ρ.wipe own) with
  | none => .stuck
  | some ρ' => (ct ρ' st).bind fun k st => if k then (el ρ' st).bind fun w st => .ok (some w.d) st else .ok none st
def turnQ (t : T) (own : List Nat) (ct : Lc → Store → Res Bool) (el : Lc → Store → Res W) (ρ : Lc) (d : D) (st : Store) : Res (Option D) := match tgt t d (ρ.wipe own) with
  | none => .stuck
  | some ρ' => noX ((ct ρ' st).bind fun k st => if k then (el ρ' st).bind fun w st => .ok (some w.d) st else .ok none st)
def relO (g : G) : Rel (Option D) (Option V) := fun o st v μ α H => α = μ ∧ RS g μ μ H st ∧ match o, v with
  | some d, some v => RV g μ μ H d v
  | none, none => True
  | _, _ => False
/-- the turn's reading -/
theorem turn_of {W' : XK} {own : List Nat} (hsub : ∀ j ∈ tgIx t, j ∈ own) {σ : L2.St} {H : Hp} {ρ : Lc} {μ : List Addr} {st : Store} (hs : SR g none none μ H ρ σ st) {d : D} {v : V} (rv : RV g μ μ H d v) {R : Option V → Hp → Prop}
    (post : PostR g W' μ H (turnL t own ct el ρ d st) (relO g) R) :
    tG g none none t v (wipe σ own) H fun σ2 H2 => wipe σ2 own = wipe σ own ∧ tT g (fun c d _ H => W' c d H) none none ct σ2 H2 fun b H3 => if b = true then tE g (fun c d _ H => W' c d H) none none el σ2 H3 fun y H4 => R (some y) H4 else R none H3 := by
  unfold turnL at post
  cases e : tgt t d (ρ.wipe own) with
  | none => rw [e] at post; exact post.elim
  | some ρ' =>
    rw [e] at post
    refine ⟨ρ.wipe own, μ, st, d, ρ', .mk0 (hs.loc.wipes own) hs.rs, rv, e, fun σ' hl hj hl' => ⟨?_, ?_⟩⟩
    · rw [wipe_same (b := wipe σ own) (vs := own) hl fun j hjn => hj j fun z => hjn (hsub j z)]
      refine List.ext_getElem? fun j => ?_
      by_cases hj : j ∈ own
      · by_cases h2 : j < σ.length
        · rw [wipe_in hj (by rw [wipe_length]; exact h2), wipe_in hj h2]
        · rw [List.getElem?_eq_none (by rw [wipe_length, wipe_length]; omega), List.getElem?_eq_none (by rw [wipe_length]; omega)]
      · rw [wipe_out hj]
    · refine tT_bind (Wx := fun c d _ H => W' c d H) (σ := σ') (xa := none) (xn := none) (.mk0 hl' hs.rs) post fun H1 b st1 μ1 s1 hs1 p1 => ?_
      cases b with
      | false =>
        rw [if_neg (by simp)] at p1 ⊢
        exact p1 none μ1 μ1 H1 .refl ⟨rfl, hs1.rs, trivial⟩
      | true =>
        rw [if_pos rfl] at p1 ⊢
        exact tE_bind (Wx := fun c d _ H => W' c d H) hs1 p1 fun v H2 w st2 μ2 s2 r2 hs2 p2 => p2 (some v) μ2 μ2 H2 .refl ⟨rfl, hs2.rs, r2⟩
theorem tCmp_of {W' : XK} {own : List Nat} {turn : D → Store → Res (Option D)} (hsub : ∀ j ∈ tgIx t, j ∈ own) {σ : L2.St} {H : Hp} {Q : VK} {ρ : Lc} {μ : List Addr} {st : Store} (hs : SR g xa xn μ H ρ σ st)
    (hq : ∀ μ H d st R, PostR g (fun c d H' => Wx c d σ H') μ H (turn d st) (relO g) R → PostR g W' μ H (turnL t own ct el ρ d st) (relO g) R)
    (post : PostR g (fun c d H' => Wx c d σ H') μ H ((mi ρ st).bind fun ds st => if ds.length ≤ big then (lcM turn ds st).bind fun ds st => .ok (.fr ds) st else .stuck) (relW g) Q) :
    tCmp (tI g Wx xa xn mi) (tG g none none t) (tT g (fun c d _ H => W' c d H) none none ct) (tE g (fun c d _ H => W' c d H) none none el) own σ H Q := by
  refine ⟨ρ, μ, st, hs, (post.bind (rel1 := relI g)).mono fun J H1 ⟨ds, st1, μ0, μ1, s1, ⟨e1, rs1, wk⟩, p1⟩ => ?_⟩
  subst e1
  split at p1
  · rename_i hbig
    refine ⟨fun i n acc H => n + i = ds.length ∧ ∃ μ st da, RL g μ H ρ σ ∧ RS g μ μ H st ∧ Step μ1 H1 μ μ H ∧ RVs g μ μ H da acc ∧ da.length ≤ i ∧ PostR g (fun c d H' => Wx c d σ H') μ H ((lcM turn (ds.drop i) st).bind fun rs st => .ok (.fr (da ++ rs)) st) (relW g) Q,
      ⟨ds.length, rfl, μ1, st1, [], hs.loc.step s1, rs1, .refl, .nil, Nat.le_refl _, by simpa using p1⟩, ?_⟩
    rintro i m acc H2 ⟨hm, μ2, st2, da, hl2, rs2, s2, ra, hda, p2⟩
    obtain ⟨w1, w2⟩ := wk μ2 H2 s2
    cases m with
    | zero =>
      left
      have : i = ds.length := by omega
      subst this
      rw [List.drop_length] at p2
      refine ⟨w1, fun D hD => ?_⟩
      have p3 : PostR g (fun c d H' => Wx c d σ H') μ2 H2 (.ok (.fr da) st2) (relW g) Q := by simpa [lcM] using p2
      exact p3.newL rs2 ra D hD
    | succ m =>
      right
      have hlt : i < ds.length := by omega
      have hget : ds[i]? = some ds[i] := by simp [hlt]
      obtain ⟨go, yl⟩ := w2 i _ hget
      refine ⟨go, fun acc' H' => m + (i + 1) = ds.length ∧ ∃ μ st da, RL g μ H' ρ σ ∧ RS g μ μ H' st ∧ Step μ1 H1 μ μ H' ∧ RVs g μ μ H' da acc' ∧ da.length ≤ i + 1 ∧ PostR g (fun c d H' => Wx c d σ H') μ H' ((lcM turn (ds.drop (i + 1)) st).bind fun rs st => .ok (.fr (da ++ rs)) st) (relW g) Q,
        fun acc' H' h => ⟨m, by omega, h⟩, fun x H3 hy => ?_⟩
      obtain ⟨s3, k3⟩ := yl x H3 hy
      obtain ⟨rs3, rx⟩ := k3 _ rs2
      have p3 := PostR.step s3 p2
      rw [List.drop_eq_getElem_cons hlt] at p3
      unfold lcM at p3
      have p4 : PostR g (fun c d H' => Wx c d σ H') μ2 H3 ((turn ds[i] st2).bind fun r st => ((lcM turn (ds.drop (i + 1)) st).bind fun rs st => match r with | some x => .ok (x :: rs) st | none => .ok rs st).bind fun rs st => .ok (.fr (da ++ rs)) st) (relW g) Q := by
        cases ht : turn ds[i] st2 with
        | stuck => rw [ht] at p3; exact p3
        | exc c fs st' => rw [ht] at p3; exact p3
        | ok a st' => rw [ht] at p3; exact p3
      have p5 := hq _ _ _ _ _ (p4.bind (rel1 := relO g))
      have hs3 : SR g none none μ2 H3 ρ σ st2 := .mk0 (hl2.step s3) rs3
      have tn := turn_of hsub hs3 rx p5
      obtain ⟨ρw, μw, stw, dw, ρ', k1, k2, k3, k4⟩ := tn
      have fin : ∀ (o : Option V) (H4 : Hp), (∃ a st1 μ1' α1, Step μ2 H3 μ1' α1 H4 ∧ relO g a st1 o μ1' α1 H4 ∧ PostR g (fun c d H' => Wx c d σ H') μ1' H4 (((lcM turn (ds.drop (i + 1)) st1).bind fun rs st => match a with | some x => .ok (x :: rs) st | none => .ok rs st).bind fun rs st => .ok (.fr (da ++ rs)) st) (relW g) Q) →
          m + (i + 1) = ds.length ∧ ∃ μ st da', RL g μ H4 ρ σ ∧ RS g μ μ H4 st ∧ Step μ1 H1 μ μ H4 ∧ RVs g μ μ H4 da' (match o with | some y => acc ++ [y] | none => acc) ∧ da'.length ≤ i + 1 ∧ PostR g (fun c d H' => Wx c d σ H') μ H4 ((lcM turn (ds.drop (i + 1)) st).bind fun rs st => .ok (.fr (da' ++ rs)) st) (relW g) Q := by
        rintro o H4 ⟨a, st4, μ9, μ4, s4, ⟨e4, rs4, ro⟩, p6⟩
        subst e4
        have s4 : Step μ2 H3 μ4 μ4 H4 := s4.frz
        refine ⟨by omega, μ4, st4, ?_⟩
        have ra4 := (ra.step s3).step s4
        cases a with
        | none =>
          cases o with
          | some _ => exact ro.elim
          | none =>
            refine ⟨da, (hl2.step s3).step s4, rs4, (s2.trans s3).trans s4, ra4, by omega, ?_⟩
            cases hl : lcM turn (ds.drop (i + 1)) st4 with
            | stuck => rw [hl] at p6; exact p6
            | exc c fs st' => rw [hl] at p6; exact p6
            | ok rs st' => rw [hl] at p6; exact p6
        | some d =>
          cases o with
          | none => exact ro.elim
          | some y =>
            refine ⟨da ++ [d], (hl2.step s3).step s4, rs4, (s2.trans s3).trans s4, ra4.append (.cons ro .nil), by simp; omega, ?_⟩
            cases hl : lcM turn (ds.drop (i + 1)) st4 with
            | stuck => rw [hl] at p6; exact p6
            | exc c fs st' => rw [hl] at p6; exact p6
            | ok rs st' => rw [hl] at p6; simpa using p6
      refine ⟨ρw, μw, stw, dw, ρ', k1, k2, k3, fun σ' h1 h2 h3 => ?_⟩
      obtain ⟨q1, q2⟩ := k4 σ' h1 h2 h3
      refine ⟨q1, ?_⟩
      obtain ⟨ρt, μt, stt, hst, pt⟩ := q2
      refine ⟨ρt, μt, stt, hst, pt.mono fun b H4 q => ?_⟩
      have hlen := ra.length
      cases b with
      | false =>
        rw [if_neg (by simp)] at q ⊢
        exact fin none H4 q
      | true =>
        rw [if_pos rfl] at q ⊢
        obtain ⟨ρe, μe, ste, hse, pe⟩ := q
        exact ⟨ρe, μe, ste, hse, pe.mono fun y H5 q5 => ⟨by
          have : big = sizeLine := by rw [sizeLine_eq]
          omega, fin (some y) H5 q5⟩⟩
  · exact p1.elim

/-- a comprehension that computes m -/
def mLc (t : T) (own : List Nat) (mi : Lc → Store → Res (List D)) (ct : Lc → Store → Res Bool) (el : Lc → Store → Res W) : Lc → Store → Res W := fun ρ st =>
  (mi ρ st).bind fun ds st => if ds.length ≤ big then (lcM (turnL t own ct el ρ) ds st).bind fun ds st => .ok (.fr ds) st else .stuck
def mLcq (t : T) (own : List Nat) (mi : Lc → Store → Res (List D)) (ct : Lc → Store → Res Bool) (el : Lc → Store → Res W) : Lc → Store → Res W := fun ρ st =>
  (mi ρ st).bind fun ds st => if ds.length ≤ big then (lcM (turnQ t own ct el ρ) ds st).bind fun ds st => .ok (.fr ds) st else .stuck
/-- the parts of the block -/
structure Blk (X : Cx) (g : G) (tg elt : Expr) (ifs : List Expr) (scope : Scope) (own : List (Str × Nat)) (t : T) (ct : Lc → Store → Res Bool) (el : Lc → Store → Res W) (V : Cx → WX → Prop) : Prop where
  ok : BlkOk X.N X.env.scope scope own
  sub : ∀ j ∈ tgIx t, j ∈ own.map (·.2)
  hg : ∀ (s : Shared) (H : Hp) (C : Addr) (cl : List (Str × Addr)) (fp : List Addr) (xe : Value → Shared → Prop) (W : WX), V (blx X s H scope (compEnvC scope cl C X.env) fp xe) W → PG (blx X s H scope (compEnvC scope cl C X.env) fp xe) tg (tG g none none t)
  ht : ∀ (s : Shared) (H : Hp) (C : Addr) (cl : List (Str × Addr)) (fp : List Addr) (xe : Value → Shared → Prop) (W : WX), V (blx X s H scope (compEnvC scope cl C X.env) fp xe) W → PTs (blx X s H scope (compEnvC scope cl C X.env) fp xe) ifs (tT g W none none ct)
  he : ∀ (s : Shared) (H : Hp) (C : Addr) (cl : List (Str × Addr)) (fp : List Addr) (xe : Value → Shared → Prop) (W : WX), V (blx X s H scope (compEnvC scope cl C X.env) fp xe) W → PE (blx X s H scope (compEnvC scope cl C X.env) fp xe) elt (tE g W none none el)
/-- nothing comes out of the block -/
def Quiet (_ : Cx) (W : WX) : Prop := W = W0
theorem takes_W0 {X : Cx} : Takes X W0 := fun _ _ ⟨_, _, _, _, _, _, _, _, _, _, _, _, _, _, _, _, w⟩ => w.elim
section
variable {scope : Scope} {own : List (Str × Nat)}
theorem me_lc (hs : X.stack = X.env :: X.outer) (hf : X.env.frame = some X.env.locals) (tk : Takes X Wx) (hc : X.calm = true) (hN : X.N.Nodup) (hi : MI X g Wx xa xn tg iter mi) (B : Blk X g tg elt ifs scope own t ct el Takes) (hfold : ∀ x, foldedSetIterable iter X.env x = pure x) :
    ME X g Wx xa xn (.ListComp elt [⟨tg, iter, ifs, 0⟩] scope pos) (mLc t (own.map (·.2)) mi ct el) := by
  refine ⟨fun pins s σ H Q I ⟨ρ, μ, st, hsr, post⟩ => ?_⟩
  rw [eval_ListComp]
  refine comp_core (XE' := fun xe Xb => Takes Xb fun c d _ H => Wx c d σ H) hc hN I hi B.ok (fun s0 H0 ce fp acc I0 hfp hce hC => blk_takes hs hf rfl tk I0 hfp hce hC _ rfl)
    (fun s H C cl fp xe h => B.hg s H C cl fp xe _ h) (fun s H C cl fp xe h => B.ht s H C cl fp xe _ h) (fun s H C cl fp xe h => B.he s H C cl fp xe _ h) hfold
    (tCmp_of (W' := fun c d H => Wx c d σ H) B.sub hsr (fun _ _ _ _ _ h => h) post) fun D C s' m H' I' q hn f => ⟨m, hn, fun h'' sb => ?_⟩
  obtain ⟨f0, f1, f2, f3, f4, f5⟩ := f
  exact ⟨.ref D, H', I'.turned (t' := s'.toks) (fun b o hb e => (sb.2 b hb).trans e) f0 f1 f3 f4 f5, rfl, q⟩
theorem turnQ_post {E : XK} {μ : List Addr} {H : Hp} {own : List Nat} {ρ : Lc} {d : D} {st : Store} {R : Option V → Hp → Prop} (h : PostR g E μ H (turnQ t own ct el ρ d st) (relO g) R) : PostR g (fun _ _ _ => False) μ H (turnL t own ct el ρ d st) (relO g) R := by
  unfold turnQ at h
  unfold turnL
  cases e : tgt t d (ρ.wipe own) with
  | none => rw [e] at h; exact h
  | some ρ' =>
    rw [e] at h
    dsimp only at h ⊢
    cases e2 : (ct ρ' st).bind fun k st => if k then (el ρ' st).bind fun w st => Res.ok (some w.d) st else Res.ok none st with
    | stuck => rw [e2] at h; exact h
    | exc c fs st' => rw [e2] at h; exact h.elim
    | ok a st' => rw [e2] at h; exact h
theorem me_lcq (hc : X.calm = true) (hN : X.N.Nodup) (hi : MI X g Wx xa xn tg iter mi) (B : Blk X g tg elt ifs scope own t ct el Quiet) (hfold : ∀ x, foldedSetIterable iter X.env x = pure x) :
    ME X g Wx xa xn (.ListComp elt [⟨tg, iter, ifs, 0⟩] scope pos) (mLcq t (own.map (·.2)) mi ct el) := by
  refine ⟨fun pins s σ H Q I ⟨ρ, μ, st, hsr, post⟩ => ?_⟩
  rw [eval_ListComp]
  refine comp_core (XE' := fun xe Xb => True) hc hN I hi B.ok (fun s0 H0 ce fp acc I0 hfp hce hC => trivial)
    (fun s H C cl fp xe h => B.hg s H C cl fp xe _ rfl) (fun s H C cl fp xe h => B.ht s H C cl fp xe _ rfl) (fun s H C cl fp xe h => B.he s H C cl fp xe _ rfl) hfold
    (tCmp_of (W' := fun _ _ _ => False) B.sub hsr (fun _ _ _ _ _ h => turnQ_post h) post) fun D C s' m H' I' q hn f => ⟨m, hn, fun h'' sb => ?_⟩
  obtain ⟨f0, f1, f2, f3, f4, f5⟩ := f
  exact ⟨.ref D, H', I'.turned (t' := s'.toks) (fun b o hb e => (sb.2 b hb).trans e) f0 f1 f3 f4 f5, rfl, q⟩
/-- name = [..] on one line -/
theorem set_comp {i : Nat} {y : Str} {py spos : Pos} {m : Lc → Store → Res W} (hN : X.N.Nodup) (hy : X.N[i]? = some y) (hyl : X.env.scope.names.lookup y = some .local)
    (hsw : swapsWith (.ListComp elt [⟨tg, iter, ifs, 0⟩] scope pos) (some (.Name y py)) spos.line X.env = pure true)
    (core : ∀ (pins : List (Addr × Obj)) (s : Shared) (σ : L2.St) (H : Hp) (Q : VK) (Qf : Value → Shared → Prop), L2.Inv X pins σ H s → tE g Wx xa xn m σ H Q →
      (∀ D C s' mm H', L2.Inv X pins σ H' s' → Q (.ref D) H' → s'.heap.Ns C mm → FpOk X pins H' C → compPost (model X.prog X.w) X.A X.xe (some (assign (.Name y py) X.env)) Qf (.ref D) C (.ok .next) s') →
      wpAny (model X.prog X.w) X.A (comprehension (.ListComp elt [⟨tg, iter, ifs, 0⟩] scope pos) scope X.env (firstIterPos [⟨tg, iter, ifs, 0⟩] pos) (newList []) false (eval iter X.env) (some (assign (.Name y py) X.env))) Qf X.xe s) :
    MS X g Wx xa xn (.Assign [.Name y py] (.ListComp elt [⟨tg, iter, ifs, 0⟩] scope pos) spos) (fun ρ st => stp (m ρ st) ρ fun w st => .nx (ρ.put i w.d) st) := by
  refine ⟨fun pins s σ H D I ⟨ρ, μ, st, hs, post⟩ => ?_⟩
  rw [exec_Assign_Name_used _ _ _ _ hsw]
  refine wpAny_bind (wpAny_standAt (wpAny_bind ?_))
  show wpAny _ X.A (do let _ ← comprehension (.ListComp elt [⟨tg, iter, ifs, 0⟩] scope pos) scope X.env (firstIterPos [⟨tg, iter, ifs, 0⟩] pos) (newList []) false (eval iter X.env) (some (assign (.Name y py) X.env))) _ _ s
  have hv : tE g Wx xa xn m σ H (fun x H1 => D.nx (σ.set i (some x)) H1) := stE hs post fun v H1 w st1 μ1 α1 s1 hr hs1 p1 => p1 _ μ1 H1 .refl (hs1.loc.set i hr.frz.1) hs1.rs
  refine wpAny_bind (thn (core pins s σ H _ (fun _ s' => SP X pins D .next s') I hv fun L C s' mm H' I' q hn f => ?_) fun _ s' hq => wpAny_pure (wpAny_pure hq))
  show wpAny _ _ (assign (.Name y py) X.env (.ref L)) _ _ _
  refine wpAny_assign_Name (store_ok2 (v := V.ref L) I' hN hy (.inl hyl) rfl (fun s2 I2 ⟨a, sb, ha⟩ => ?_) (.inr hyl))
  obtain ⟨f0, f1, f2, f3, f4, f5⟩ := f
  have haC : C ≠ a := by
    rcases ha with z | z
    · rw [z]; exact f1
    · exact fun e => f4 y a z e.symm
  exact ⟨mm, hn.sameBut sb haC, fun h3 sb3 => ⟨_, H', I2.turned (t' := s2.toks) (fun b o hb e => (sb3.2 b hb).trans e) f0 f1 f3 f4 f5, q⟩⟩
theorem ms_lcA {i : Nat} {y : Str} {py spos : Pos} {m : Lc → Store → Res W} (hm : ∀ σ H Q, tE g Wx xa xn m σ H Q → tE g Wx xa xn (mLc t (own.map (·.2)) mi ct el) σ H Q) (hy : X.N[i]? = some y) (hyl : X.env.scope.names.lookup y = some .local) (hsw : swapsWith (.ListComp elt [⟨tg, iter, ifs, 0⟩] scope pos) (some (.Name y py)) spos.line X.env = pure true)
    (hs : X.stack = X.env :: X.outer) (hf : X.env.frame = some X.env.locals) (tk : Takes X Wx) (hc : X.calm = true) (hN : X.N.Nodup) (hi : MI X g Wx xa xn tg iter mi) (B : Blk X g tg elt ifs scope own t ct el Takes) (hfold : ∀ x, foldedSetIterable iter X.env x = pure x) :
    MS X g Wx xa xn (.Assign [.Name y py] (.ListComp elt [⟨tg, iter, ifs, 0⟩] scope pos) spos) (fun ρ st => stp (m ρ st) ρ fun w st => .nx (ρ.put i w.d) st) :=
  set_comp hN hy hyl hsw fun pins s σ H Q Qf I hq hRR => by
    obtain ⟨ρ, μ, st, hsr, post⟩ := hm σ H Q hq
    exact comp_core (XE' := fun xe Xb => Takes Xb fun c d _ H => Wx c d σ H) hc hN I hi B.ok (fun s0 H0 ce fp acc I0 hfp hce hC => blk_takes hs hf rfl tk I0 hfp hce hC _ rfl)
      (fun s H C cl fp xe h => B.hg s H C cl fp xe _ h) (fun s H C cl fp xe h => B.ht s H C cl fp xe _ h) (fun s H C cl fp xe h => B.he s H C cl fp xe _ h) hfold
      (tCmp_of (W' := fun c d H => Wx c d σ H) B.sub hsr (fun _ _ _ _ _ h => h) post) hRR
end
end
end Fw

/-! ## Fx7 -/
set_option Elab.async false
set_option linter.all false
set_option maxRecDepth 100000
set_option maxHeartbeats 4000000
/-! x[::-1]; several names at once; a function that is a value. -/
namespace HT
open PySem PySem.Spec PyProof.Rows
variable {prog : Program} {w : World} {A : Around} {E : Value → Shared → Prop} {s : Shared}
theorem fw_congr {α β : Type} {f g : α → Option β} : ∀ {l : List α}, (∀ a ∈ l, f a = g a) → l.filterMap f = l.filterMap g
  | [], _ => rfl
  | a :: l, h => by rw [List.filterMap_cons, List.filterMap_cons, h a List.mem_cons_self, fw_congr fun b hb => h b (List.mem_cons_of_mem _ hb)]
theorem fw_back {α : Type} (xs : List α) : ((List.range xs.length).filterMap fun (m : Nat) => xs[(((xs.length : Int) - 1) + (m : Int) * (-1)).toNat]?) = xs.reverse := by
  induction xs with
  | nil => rfl
  | cons x xs ih =>
    rw [List.length_cons, List.range_succ, List.filterMap_append, List.reverse_cons, ← ih]
    congr 1
    · apply fw_congr
      intro m hm
      have hm' : m < xs.length := by simpa using hm
      have e1 : ((((xs.length + 1 : Nat) : Int) - 1) + (m : Int) * (-1)).toNat = (((xs.length : Int) - 1) + (m : Int) * (-1)).toNat + 1 := by omega
      rw [e1, List.getElem?_cons_succ]
    · have e2 : ((((xs.length + 1 : Nat) : Int) - 1) + (xs.length : Int) * (-1)).toNat = 0 := by omega
      simp only [List.filterMap_cons, List.filterMap_nil]
      rw [e2]; simp
theorem fw_places (n : Nat) : Builtin.Slice.slicePlaces ((n : Int) - 1) (-1) (-1) = n := by
  unfold Builtin.Slice.slicePlaces
  rw [if_neg (by decide)]
  by_cases h : (n : Int) - 1 > -1
  · rw [if_pos h]
    have : ((n : Int) - 1 - -1 - 1) / (- -1) = n - 1 := by rw [show (- -1 : Int) = 1 from rfl, Int.ediv_one]; omega
    rw [this]; omega
  · rw [if_neg h]; omega
theorem fw_applied {sl : Addr} {vs : Value} {n : Nat} {Q : Int × Int × Nat → Shared → Prop} (hs : s.heap.IsSliceOf sl .none .none vs) (ps : IsPart vs (some (-1)))
    (h : Q ((n : Int) - 1, -1, n) s) : wpAny (model prog w) A (Builtin.Slice.sliceApplied (.ref sl) (pure (n : Int))) Q E s := by
  obtain ⟨os, hos, hcs, hds⟩ := id hs
  unfold Builtin.Slice.sliceApplied Builtin.Slice.sliceFields
  refine wpAny_bind (wpAny_bind (wpAny_field hos hds (x := .none) rfl (wpAny_bind (wpAny_field hos hds (x := .none) rfl (wpAny_bind (wpAny_field hos hds (x := vs) rfl (wpAny_pure ?_)))))))
  refine wpAny_bind (slicePart_ ps ?_)
  show wpAny _ _ (if ((-1 : Int) == 0) = true then _ else _) _ _ s
  rw [if_neg (by decide)]
  refine wpAny_bind (slicePart_none (wpAny_bind (slicePart_none (wpAny_bind (wpAny_pure ?_)))))
  show wpAny _ _ (pure ((n : Int) - 1, (-1 : Int), Builtin.Slice.slicePlaces ((n : Int) - 1) (-1) (-1))) _ _ s
  rw [fw_places]
  exact wpAny_pure h
theorem fw_tuple {t sl : Addr} {items : Array Value} {vs : Value} {Q : Value → Shared → Prop} (ht : IsTup s.heap t items) (hs : s.heap.IsSliceOf sl .none .none vs) (ps : IsPart vs (some (-1)))
    (h : Q (.ref s.heap.objs.size) { s with heap := s.heap.push { cls := .type "tuple", data := .seq items.toList.reverse.toArray } }) (hsz : items.size ≤ sizeLine) : wpAny (model prog w) A (getItem (.ref t) (.ref sl)) Q E s := by
  have htake : sizeOk (.seq items.toList.reverse.toArray) := by
    show items.toList.reverse.toArray.size ≤ sizeLine
    rw [List.size_toArray, List.length_reverse, Array.length_toList]
    exact hsz
  obtain ⟨os, hos, hcs, hds⟩ := id hs
  have hTs : s.TypeIs (.ref sl) "slice" := ⟨os, hos, hcs⟩
  unfold getItem
  try with_reducible refine wpAny_holding ?_
  first | refine wpAny_bind (wpAny_pure ?_) | skip
  refine wpAny_bind (wpAny_sequenceKey ht.typeIs (by decide) ?_)
  refine wpAny_bind (wpAny_callSpecial?_slot (name := Str.ofString "__getitem__") ht.typeIs PyProof.Rows.slot_tuple_getitem
    (wpAny_call_entry PyProof.Rows.slot_tuple_getitem ht.typeIs entry_tuple_getitem ?_ (args_tuple_getitem _ _)))
  show wpAny _ _ (Builtin.Tuple.tupleItemsOf (.ref t) >>= _) _ _ s
  refine wpAny_bind (tupleItemsOf_ ht ?_)
  refine wpAny_bind (wpAny_typeOf hTs ?_)
  rw [if_pos (by decide)]
  refine wpAny_bind (fw_applied (n := items.size) hs ps ?_)
  show wpAny _ _ (if (((items.size : Int) - 1) == 0 && (-1 : Int) == 1 && items.size == items.size) = true then _ else _) _ _ s
  rw [if_neg (by simp)]
  have e : ((List.range items.size).filterMap fun (m : Nat) => items[((items.size : Int) - 1 + (m : Int) * (-1)).toNat]?) = items.toList.reverse := by
    have := fw_back items.toList
    rw [Array.length_toList] at this
    rw [← this]
    exact fw_congr fun a _ => by rw [Array.getElem?_toList]
  rw [e]
  first
    | exact wpAny_bind (m := Builtin.Tuple.tupleExact _) (wpAny_newObj_type (wpAny_pure ⟨_, rfl, wpAny_pure h⟩) htake)
    | exact wpAny_bind (m := Builtin.Tuple.tupleExact _) (wpAny_newObj_type (wpAny_bind (wpAny_pure (wpAny_pure ⟨_, rfl, wpAny_pure h⟩))) htake)
    | exact wpAny_bind (wpAny_bind (m := Builtin.Tuple.tupleExact _) (wpAny_newObj_type (wpAny_pure (wpAny_pure ⟨_, rfl, wpAny_pure h⟩)) htake))
    | exact wpAny_bind (wpAny_bind (m := Builtin.Tuple.tupleExact _) (wpAny_newObj_type (wpAny_pure ⟨_, rfl, wpAny_pure h⟩) htake))
end HT

namespace Fw
open PySem PySem.Spec PyProof.Rows L2
section
variable {X : Cx} {g : G} {Wx : WX} {xa : XA} {xn : XN} {a b e f tg : Expr} {es : List Expr} {pos p p2 pt pt2 : Pos} {ma mb : Lc → Store → Res W} {mp : Lc → Store → Res (Option Int)} {ms : Lc → Store → Res (List D)}
theorem me_rev (hK : g.K = X.K) {st0 : Expr} (ha : ME X g Wx xa xn a ma) (hp : MP X g Wx xa xn (some st0) mp) :
    ME X g Wx xa xn (.Subscript a (.Slice none none (some st0) p2) pos) (fun ρ st => (ma ρ st).bind fun x st => (mp ρ st).bind fun o st => if o = some (-1) then opRev x.d st else .stuck) := by
  refine ⟨fun pins s σ H Q I ⟨ρ, μ, st, hs, post⟩ => ?_⟩
  refine Subscript_ (thn (ha.run pins s σ H _ I (tE_bind hs post (R := fun v H1 => tP g Wx xa xn mp σ H1 fun o H2 => o = some (-1) ∧ ((∃ t xs, v = .ref t ∧ SqT X.K H2 t xs ∧ ∀ p, H2 p = none → Q (.ref p) (upd H2 p (.tup xs.reverse))) ∨
    ∃ t xs, v = .ref t ∧ SqL X.K H2 t xs ∧ ∀ p, H2 p = none → Q (.ref p) (upd H2 p (.lst xs.reverse)))) fun v H1 w st1 μ1 s1 r1 hs1 p1 => ?_)) fun u s1 ⟨v, H1, I1, r1, q1⟩ => ?_)
  · refine tP_bind hs1 p1 fun H2 o st2 μ2 s2 hs2 p2 => ?_
    split at p2
    · rename_i ho
      refine ⟨ho, ?_⟩
      have r2 := r1.step s2
      unfold opRev at p2
      cases hw : w.d with
      | tup ds =>
        rw [hw] at r2 p2
        cases r2 with
        | @tup _ t xs h1 h2 =>
          have h1' := h1.sq
          rw [hK] at h1'
          exact .inl ⟨t, xs, rfl, h1', p2.newT hs2.rs h2.reverse⟩
      | _ =>
        rw [hw] at r2 p2
        dsimp only at p2
        split at p2
        · rename_i ds hq
          obtain ⟨t, xs, h1, h2, h3⟩ := seqL_rel hs2.rs r2 hq
          exact .inr ⟨t, xs, h1, SqL.of h2, p2.newL hs2.rs h3.reverse⟩
        · exact p2.elim
    · exact p2.elim
  · refine wpAny_Slice ?_
    rw [evalPart_none]
    refine wpAny_pure (wpAny_pure ?_)
    refine thn (hp.run pins s1 σ H1 _ I1 q1) fun vs s2 ⟨o, H2, I2, po, ho, q⟩ => ?_
    subst ho
    have I4 : L2.Inv X pins σ H2 { s2 with heap := s2.heap.push { cls := .type "slice", data := .fields #[.none, .none, vs] } } := I2.kept (t' := s2.toks) fun b ob q => Heap.get?_push_of_some _ q
    have hsl : (s2.heap.push { cls := .type "slice", data := .fields #[.none, .none, vs] }).IsSliceOf s2.heap.objs.size .none .none vs := Heap.IsSliceOf.new ..
    have fin : ∃ T id, typeLookup (.type T) "__getitem__" = pure (some (.builtin id)) ∧ Shared.TypeIs { s2 with heap := s2.heap.push { cls := .type "slice", data := .fields #[.none, .none, vs] } } u T ∧
        wpAny (model X.prog X.w) X.A (getItem u (.ref s2.heap.objs.size)) (EP X pins σ Q) X.xe { s2 with heap := s2.heap.push { cls := .type "slice", data := .fields #[.none, .none, vs] } } := by
      rcases q with ⟨t, xs, rfl, hx, q⟩ | ⟨t, xs, rfl, hx, q⟩
      · cases r1
        obtain ⟨its, r, ht, hz⟩ := I4.tuple hx
        have hlen := r.length
        refine ⟨"tuple", _, PyProof.Rows.slot_tuple_getitem.lookup, ht.typeIs, HT.fw_tuple ht hsl po ?_ (by rw [List.size_toArray]; omega)⟩
        rw [List.toList_toArray]
        refine ⟨.ref _, _, I4.laid (t' := s2.toks) (o := .tup xs.reverse) (fun b ob q => Heap.get?_push_of_some _ q) (Nat.le_refl _) ?_, rfl, q _ (I4.hok.fresh (Nat.le_refl _))⟩
        exact ⟨by rw [List.length_reverse]; exact hz, _, Vals.reverse r, IsTup.new _ _⟩
      · cases r1
        obtain ⟨its, r, ht, hz⟩ := I4.list hx
        have hlen := r.length
        refine ⟨"list", _, slot_list_getitem.lookup, ht.isList.typeIs, wpAny_getItem_list_slice ht.isList hsl .none .none po (by decide) ?_ (by rw [List.size_toArray] <;> omega)⟩
        have hpick : slicePick its.toArray none none (some (-1)) = its.reverse.toArray := by
          unfold slicePick
          congr 1
          have hb : sliceBounds none none (some (-1)) its.toArray.size = ((its.length : Int) - 1, -1, -1) := by rw [List.size_toArray]; rfl
          rw [hb]
          dsimp only
          unfold sliceRange
          dsimp only
          rw [if_neg (by decide)]
          have hn : ((if (its.length : Int) - 1 > -1 then ((its.length : Int) - 1 - -1 - -1 - 1) / (- -1) else 0)).toNat = its.length := by
            by_cases h : (its.length : Int) - 1 > -1
            · rw [if_pos h, show (- -1 : Int) = 1 from rfl, Int.ediv_one]; omega
            · rw [if_neg h]; omega
          rw [hn, List.filterMap_map, ← HT.fw_back its]
          refine HT.fw_congr fun m _ => ?_
          show its.toArray[_]? = _
          rw [List.getElem?_toArray]
          congr 2
          clear hn hb
          dsimp only
          omega
        rw [hpick]
        refine ⟨.ref _, _, I4.laid (t' := s2.toks) (o := .lst xs.reverse) (fun b ob q => Heap.get?_push_of_some _ q) (Nat.le_refl _) ?_, rfl, q _ (I4.hok.fresh (Nat.le_refl _))⟩
        exact ⟨by rw [List.length_reverse]; exact hz, _, 0, Vals.reverse r, Heap.get?_push_size _ rfl⟩
    obtain ⟨T, id, hT, ht, hg⟩ := fin
    show wpAny (model X.prog X.w) X.A (subscriptTail a (.Slice none none (some st0) p2) u (.ref s2.heap.objs.size)) (EP X pins σ Q) X.xe _
    exact tail_any (ops := [u, .ref s2.heap.objs.size]) ht hT hg (by with_unfolding_all rfl)

/-- f(..), f any value that is a def -/
theorem me_callv {fns : Nat → List D → Store → Res W} {lv : Nat → Nat} {n : Nat} (F : ∀ i a, g.fn i = some a → lv i < n → FOk X.prog X.w X.K X.mg X.base g n a (fns i)) (hgu : X.A.guards = some []) (hr : Room n X.A) (tk : Takes X Wx) (hf : ME X g Wx xa xn f ma) (ha : MEs X g Wx xa xn (e :: es) ms)
    (he0 : eval (.Call f (e :: es) [] pos) X.env = eval f X.env >>= fun v => callWith pos v [] (backTo pos (starEach (e :: es) X.env)) []) (he : starEach (e :: es) X.env = (false, eval e X.env) :: starEach es X.env) (hpl : (backTo pos (starEach es X.env)).any (·.1) = false) :
    ME X g Wx xa xn (.Call f (e :: es) [] pos) (fun ρ st => (ma ρ st).bind fun x st => match x.d with | .fn i => if lv i < n then (ms ρ st).bind fun ds st => fns i ds st else .stuck | _ => .stuck) := by
  refine ⟨fun pins s σ H Q I ⟨ρ, μ, st, hs, post⟩ => ?_⟩
  rw [he0]
  refine wpAny_bind (thn (hf.run pins s σ H _ I (tE_bind hs post (R := fun v H1 => ∃ i a st1 μ1, v = .ref a ∧ g.fn i = some a ∧ lv i < n ∧ SR g xa xn μ1 H1 ρ σ st1 ∧ PostR g (fun c d H' => Wx c d σ H') μ1 H1 ((ms ρ st1).bind fun ds st => fns i ds st) (relW g) Q)
    fun v H1 w st1 μ1 s1 r1 hs1 p1 => ?_)) fun u s1 ⟨v, H1, I1, r1, i, a, st1, μ1, ev, hfn, hi, hs1, p1⟩ => ?_)
  · cases hw : w.d with
    | fn i =>
      rw [hw] at r1 p1
      dsimp only at p1
      split at p1
      · rename_i hi
        cases r1 with
        | @fn _ a hfn => exact ⟨i, a, st1, μ1, rfl, hfn, hi, hs1, p1⟩
      · exact p1.elim
    | _ => rw [hw] at p1; exact p1.elim
  · subst ev
    obtain rfl : u = Value.ref a := r1
    have FF := F i a hfn hi
    obtain ⟨fd, ps, hb, FG⟩ := FF.ex
    refine PySem.W.callWith_K (h₀ := X.base) I1.ok.mod.kin FF.kp (thn (ha.run pos pins s1 σ H1 _ I1 (tEs_bind hs1 p1 fun vs H2 ds st2 μ2 s2 r2 hs2 p2 => (show (spF g (fns i)) vs H2 Q (fun c d H' => Wx c d σ H') from ⟨ds, μ2, st2, r2, hs2.rs, p2⟩))) ?_) he hpl
    rintro us s2 ⟨vs, H2, I2, r2, q2⟩
    exact ⟨I2.kIn, run_g FG hgu hr hb tk I2 r2 q2⟩

/-! ### several names at once -/
theorem ms_par2 {i j : Nat} {x y : Str} {px py : Pos} {kt k2 : Nat} (hc : X.calm = true) (hN : X.N.Nodup) (hi : X.N[i]? = some x) (hj : X.N[j]? = some y) (hij : i ≠ j) (hx : X.env.scope.names.lookup x = some .local) (hy : X.env.scope.names.lookup y = some .local)
    (ha : MEs X g Wx xa xn [a, b] ms) (hw : swappedStores [.Tuple [.Name x px, .Name y py] kt pt] (.Tuple [a, b] k2 pt2) X.env = pure (some [x, y])) (hs : swapsWithSole [.Tuple [.Name x px, .Name y py] kt pt] (.Tuple [a, b] k2 pt2) pos.line X.env = pure false) :
    MS X g Wx xa xn (.Assign [.Tuple [.Name x px, .Name y py] kt pt] (.Tuple [a, b] k2 pt2) pos) (fun ρ st => stp (ms ρ st) ρ fun ds st => if ds.length = 2 then .nx (ρ.puts [i, j] ds) st else .stuck) :=
  PS.weak (ps_par hc hN hi hj hij hx hy ha hw hs) fun D σ H ⟨ρ, μ, st, hsr, post⟩ => stEs hsr post fun vs H1 ds st1 μ1 s1 rv hs1 p1 => by
    split at p1
    · rename_i hl
      match ds, hl, rv with
      | [d1, d2], _, .cons r1 (.cons r2 .nil) => exact ⟨_, _, rfl, p1 _ μ1 H1 .refl ((hs1.loc.set i r1).set j r2) hs1.rs⟩
    · exact p1.elim
theorem ms_par3 {i j l : Nat} {x y z : Str} {px py pz : Pos} {c : Expr} {kt k2 : Nat} (hc : X.calm = true) (hN : X.N.Nodup) (hi : X.N[i]? = some x) (hj : X.N[j]? = some y) (hl : X.N[l]? = some z) (hij : i ≠ j) (hil : i ≠ l) (hjl : j ≠ l) (hx : X.env.scope.names.lookup x = some .local) (hy : X.env.scope.names.lookup y = some .local)
    (hz : X.env.scope.names.lookup z = some .local) (ha : MEs X g Wx xa xn [a, b, c] ms) (hw : swappedStores [.Tuple [.Name x px, .Name y py, .Name z pz] kt pt] (.Tuple [a, b, c] k2 pt2) X.env = pure (some [x, y, z]))
    (hs : swapsWithSole [.Tuple [.Name x px, .Name y py, .Name z pz] kt pt] (.Tuple [a, b, c] k2 pt2) pos.line X.env = pure false) :
    MS X g Wx xa xn (.Assign [.Tuple [.Name x px, .Name y py, .Name z pz] kt pt] (.Tuple [a, b, c] k2 pt2) pos) (fun ρ st => stp (ms ρ st) ρ fun ds st => if ds.length = 3 then .nx (ρ.puts [i, j, l] ds) st else .stuck) :=
  PS.weak (ps_par3 hc hN hi hj hl hij hil hjl hx hy hz ha hw hs) fun D σ H ⟨ρ, μ, st, hsr, post⟩ => stEs hsr post fun vs H1 ds st1 μ1 s1 rv hs1 p1 => by
    split at p1
    · rename_i hl
      match ds, hl, rv with
      | [d1, d2, d3], _, .cons r1 (.cons r2 (.cons r3 .nil)) => exact ⟨_, _, _, rfl, p1 _ μ1 H1 .refl (((hs1.loc.set i r1).set j r2).set l r3) hs1.rs⟩
    · exact p1.elim
theorem ms_unp {is : List Nat} (he : ME X g Wx xa xn e ma) (hg : PG X tg (tG g none none (.tgT is))) (hs : swapsWithSole [tg] e pos.line X.env = pure false) (hw : swappedStores [tg] e X.env = pure none) (h1 : (assignEach [tg] X.env).map (·.2) = [assign tg X.env]) :
    MS X g Wx xa xn (.Assign [tg] e pos) (fun ρ st => stp (ma ρ st) ρ fun w st => match tgt (.tgT is) w.d ρ with | some ρ => .nx ρ st | none => .stuck) :=
  PS.weak (ps_asg he hg hs hw h1) fun D σ H ⟨ρ, μ, st, hsr, post⟩ => stE hsr post fun v H1 w st1 μ1 α1 s1 hr hs1 p1 => by
    cases ht : tgt (.tgT is) w.d ρ with
    | none => rw [ht] at p1; exact p1.elim
    | some ρ' =>
      rw [ht] at p1
      exact ⟨ρ, μ1, st1, w.d, ρ', .mk0 hs1.loc hs1.rs, hr.frz.1, ht, fun σ' _ _ hl => p1 σ' μ1 H1 .refl hl hs1.rs⟩

/-! ### zip -/
theorem zipD_len : ∀ a b : List D, (zipD a b).length = min a.length b.length
  | [], b => by simp [zipD]
  | a :: as, [] => by simp [zipD]
  | a :: as, b :: bs => by simp [zipD, zipD_len as bs]
theorem zipD_get : ∀ {a b : List D} {i : Nat} {d : D}, (zipD a b)[i]? = some d → ∃ x y, a[i]? = some x ∧ b[i]? = some y ∧ d = .tup [x, y]
  | [], b, i, d, h => by simp [zipD] at h
  | a :: as, [], i, d, h => by simp [zipD] at h
  | a :: as, b :: bs, 0, d, h => by simp [zipD] at h; exact ⟨a, b, rfl, rfl, h.symm⟩
  | a :: as, b :: bs, i + 1, d, h => by
    simp only [zipD, List.getElem?_cons_succ] at h
    obtain ⟨x, y, h1, h2, h3⟩ := zipD_get h
    exact ⟨x, y, by simpa using h1, by simpa using h2, h3⟩
theorem zip_yld {μ' : List Addr} {H' H'' : Hp} {T : Addr} {x y : D} {vx vy : V} (hT : H' T = none) (e : H'' = upd H' T (.tup [vx, vy])) (rx : RV g μ' μ' H' x vx) (ry : RV g μ' μ' H' y vy) :
    Step μ' H' μ' μ' H'' ∧ ∀ st, RS g μ' μ' H' st → RS g μ' μ' H'' st ∧ RV g μ' μ' H'' (.tup [x, y]) (.ref T) := by
  subst e
  have s := Step.fr0 (μ := μ') (o := .tup [vx, vy]) hT
  exact ⟨s, fun st r => ⟨r.new hT, .tup (.inl ⟨.inl upd_same, r.fresh hT⟩) (.cons (rx.step s) (.cons (ry.step s) .nil))⟩⟩
theorem walks_zipT (hK : g.K = X.K) {μ : List Addr} {H : Hp} {a b : Addr} {xs ys : List D} {vs ws : List V} (ha : TupAt g μ H a vs) (hb : TupAt g μ H b ws) (ra : RVs g μ μ H xs vs) (rb : RVs g μ μ H ys ws) : Walks g μ H (RZ.ItzT X.K a b) (zipD xs ys) := fun μ' H' s' => by
  have ta : SqT X.K H' a vs := by have := (ha.step s').sq; rw [hK] at this; exact this
  have tb : SqT X.K H' b ws := by have := (hb.step s').sq; rw [hK] at this; exact this
  have ra' := ra.step s'
  have rb' := rb.step s'
  refine ⟨⟨vs, ws, ta, tb, ?_⟩, fun i d hd => ?_⟩
  · rw [zipD_len, ← ra'.length, ← rb'.length]; omega
  · obtain ⟨x, y, hx, hy, rfl⟩ := zipD_get hd
    obtain ⟨vx, e1, r1⟩ := ra'.get hx
    obtain ⟨vy, e2, r2⟩ := rb'.get hy
    refine ⟨⟨vs, ws, vx, vy, ta, tb, e1, e2⟩, fun v H'' ⟨T, x', y', ev, hT, eH, h1, h2⟩ => ?_⟩
    have q1 := h1 vs ta
    rw [e1] at q1; cases q1
    have q2 := h2 ws tb
    rw [e2] at q2; cases q2
    subst ev
    exact zip_yld hT eH r1 r2
theorem walks_zipL {μ : List Addr} {H : Hp} {K : PySem.W.Frag} {a b : Addr} {xs ys : List D} {vs ws : List V} (ha : LstAt μ H a vs) (hb : LstAt μ H b ws) (ra : RVs g μ μ H xs vs) (rb : RVs g μ μ H ys ws) : Walks g μ H (Itz K a b) (zipD xs ys) := fun μ' H' s' => by
  have ta : SqL K H' a vs := SqL.of (ha.step s').1
  have tb : SqL K H' b ws := SqL.of (hb.step s').1
  have ra' := ra.step s'
  have rb' := rb.step s'
  refine ⟨⟨vs, ws, ta, tb, ?_⟩, fun i d hd => ?_⟩
  · rw [zipD_len, ← ra'.length, ← rb'.length]; omega
  · obtain ⟨x, y, hx, hy, rfl⟩ := zipD_get hd
    obtain ⟨vx, e1, r1⟩ := ra'.get hx
    obtain ⟨vy, e2, r2⟩ := rb'.get hy
    refine ⟨⟨vs, ws, vx, vy, ta, tb, e1, e2⟩, fun v H'' ⟨T, x', y', ev, hT, eH, h1, h2⟩ => ?_⟩
    have q1 := h1 vs ta
    rw [e1] at q1; cases q1
    have q2 := h2 ws tb
    rw [e2] at q2; cases q2
    subst ev
    exact zip_yld hT eH r1 r2
theorem mi_Z (hK : g.K = X.K) {elts : List Expr} {kk : Nat} {tpos : Pos} (hg : Gl X "zip") (hm : X.mg "zip" = none) (ha : ME X g Wx xa xn a ma) (hb : ME X g Wx xa xn b mb) (hs : starEach [a, b] X.env = (false, eval a X.env) :: starEach [b] X.env) (hs2 : starEach [b] X.env = (false, eval b X.env) :: starEach [] X.env)
    (hpl : (backTo pos (starEach [b] X.env)).any (·.1) = false) :
    MI X g Wx xa xn (.Tuple elts kk tpos) (.Call (.Name "zip" p) [a, b] [] pos) (fun ρ st => (ma ρ st).bind fun x st => (mb ρ st).bind fun y st => opZip x.d y.d st) :=
  PI.weak (RZ.pi_zipA hg hm (pa_cons ha (pa_cons hb pa_nil hs2) hs) hs hpl) fun σ H R ⟨ρ, μ, st, hsr, post⟩ => tE_bind hsr post fun v H1 w st1 μ1 s1 r1 hs1 p1 => tE_bind hs1 p1 fun v2 H2 w2 st2 μ2 s2 r2 hs2 p2 => by
    have r1 := r1.step s2
    unfold opZip at p2
    split at p2
    · rename_i xs ys h1 h2
      rw [h1] at r1
      rw [h2] at r2
      cases r1 with
      | @tup _ a' vs q1 q2 =>
        cases r2 with
        | @tup _ b' ws q3 q4 =>
          have t1 := q1.sq
          have t2 := q3.sq
          rw [hK] at t1 t2
          exact ⟨a', b', vs, ws, rfl, .inr ⟨t1, t2, p2 _ μ2 μ2 H2 .refl ⟨rfl, hs2.rs, walks_zipT hK q1 q3 q2 q4⟩⟩⟩
    · rename_i xs ys h1 h2
      rw [h1] at r1
      rw [h2] at r2
      cases r1 with
      | @lst _ a' vs q1 q2 =>
        cases r2 with
        | @lst _ b' ws q3 q4 => exact ⟨a', b', vs, ws, rfl, .inl ⟨SqL.of q1.1, SqL.of q3.1, p2 _ μ2 μ2 H2 .refl ⟨rfl, hs2.rs, walks_zipL q1 q3 q2 q4⟩⟩⟩
    · exact p2.elim
end
end Fw

/-! ## Fx8 -/
set_option Elab.async false
set_option linter.all false
set_option maxRecDepth 100000
set_option maxHeartbeats 4000000
/-! tuple(range(a, b, c)). -/
namespace L2
open PySem PySem.Spec PyProof.Rows
/-- the numbers of a range with steps -/
def rgcV (i c : Int) (n : Nat) : List V := (List.range n).map fun j => V.int (i + (j : Nat) * c)
theorem rgcV_length (i c : Int) (n : Nat) : (rgcV i c n).length = n := by unfold rgcV; rw [List.length_map, List.length_range]
theorem vals_rgc {i c : Int} {n : Nat} {acc : Array Value} (h : ItemsOf (fun j v => ∃ t, v = .int (i + j * c) t) acc n) : Vals (rgcV i c n) acc.toList := by
  have e : acc.toList.length = n := by rw [Array.length_toList]; exact h.1
  unfold rgcV
  rw [← e]
  refine vals_of_get acc.toList _ fun j u hj => ?_
  obtain ⟨t, rfl⟩ := h.2 j u (by rw [← hj, Array.getElem?_toList])
  exact ⟨t, rfl⟩
variable {X : Cx}
def tTupRC (ta : TA) : TE := fun σ H Q => ta σ H fun vs H1 => ∃ (i j c : Int) (n : Nat), vs = [.int i, .int j, .int c] ∧ RgC i j c n ∧ n ≤ 2 ^ 24 ∧ ∀ q, H1 q = none → Q (.ref q) (upd H1 q (.tup (rgcV i c n)))
theorem pe_tupR3 {a b c : Expr} {ta : TA} {p p2 pos pos2 : Pos} (hc : X.calm = true) (hg : Gl X "tuple") (hm : X.mg "tuple" = none) (hg2 : Gl X "range") (hm2 : X.mg "range" = none) (ha : PA X [a, b, c] ta)
    (hs : starEach [a, b, c] X.env = (false, eval a X.env) :: starEach [b, c] X.env := by rfl) (hpl : (backTo pos2 (starEach [b, c] X.env)).any (·.1) = false := by rfl)
    (na : starEach [Expr.Call (.Name "range" p2) [a, b, c] [] pos2] X.env = (false, eval (Expr.Call (.Name "range" p2) [a, b, c] [] pos2) X.env) :: starEach [] X.env := by rfl) :
    PE X (.Call (.Name "tuple" p) [.Call (.Name "range" p2) [a, b, c] [] pos2] [] pos) (tTupRC ta) := by
  refine ⟨fun pins s σ H Q I h => ?_⟩
  have ev : wpAny (model X.prog X.w) X.A (eval (Expr.Call (.Name "range" p2) [a, b, c] [] pos2) X.env) (fun x s' => ∃ r i j k n t u v H', x = .ref r ∧ IsRange s'.heap r i j k t u v ∧ Inv X pins σ H' s' ∧ RgC i j k n ∧ n ≤ 2 ^ 24 ∧ ∀ q, H' q = none → Q (.ref q) (upd H' q (.tup (rgcV i k n)))) X.xe s := by
    refine Call_ (ld_blt I hg2 hm2 boot_range (PyProof.Rows.callWith_type1 (thn (ha.run pos2 pins s σ H _ I h) fun us s1 ⟨vs, H1, I1, r1, q1⟩ => ?_) hs hpl))
    obtain ⟨i, j, k, n, e, c4, hn, q⟩ := q1
    obtain ⟨c0, c1, c2, c3⟩ := id c4
    subst e
    cases r1 with
    | cons r rr =>
      cases rr with
      | cons r' rr =>
        cases rr with
        | cons r'' rr =>
          cases rr
          obtain ⟨t, rfl⟩ := r
          obtain ⟨t', rfl⟩ := r'
          obtain ⟨t'', rfl⟩ := r''
          exact call_range_3 c0 ⟨_, i, j, k, n, _, _, _, H1, rfl, IsRange.new _ _ _ _ _ _ _, I1.kept fun b u e => Heap.get?_push_of_some _ e, c4, hn, q⟩ (.inl (PyProof.noPylong_small c1))
  refine Call_ (ld_blt I hg hm boot_tuple (PyProof.Rows.callWith_type1 (args_cons (thn ev fun x s1 ⟨r, i, j, k, n, t, u, v, H1, ex, hr, I1, c4, hn, q⟩ => args_nil ?_) na) na))
  subst ex
  obtain ⟨c0, c1, c2, c3⟩ := c4
  refine call_tuple_range (n := n) (I1.ok.hd hc) hr c2 c3 hn fun h' tk acc hk hi => ?_
  have I2 : Inv X pins σ H1 { s1 with heap := h', toks := tk } := I1.kept hk
  refine ⟨.ref h'.objs.size, upd H1 h'.objs.size (.tup (rgcV i k n)), I2.laid (t' := tk) (fun c o e => Heap.get?_push_of_some _ e) (Nat.le_refl _) (show ObjOk X.prog X.w _ _ _ (.tup (rgcV i k n)) from ⟨?_, acc.toList, vals_rgc hi, ?_⟩), rfl, q _ (I2.hok.fresh (Nat.le_refl _))⟩
  · rw [rgcV_length, sizeLine_eq]; omega
  · rw [Array.toArray_toList]; exact IsTup.new _ _
end L2
namespace Fw
open PySem L2
variable {X : Cx} {g : G} {Wx : WX} {xa : XA} {xn : XN} {a b c : Expr} {pos pos2 p p2 : Pos} {ma mb mc : Lc → Store → Res W}
theorem rvs_rgc {μ α : List Addr} {H : Hp} (i c : Int) (n : Nat) : RVs g μ α H (rngC i c n) (rgcV i c n) := by
  unfold rgcV
  induction n generalizing i with
  | zero => exact .nil
  | succ n ih =>
    rw [rngC, List.range_succ_eq_map, List.map_cons, List.map_map]
    have e : i + ((0 : Nat) : Int) * c = i := by simp
    rw [e]
    refine .cons (.int i) ?_
    have := ih (i + c)
    have e2 : ((fun j : Nat => V.int (i + (j : Nat) * c)) ∘ Nat.succ) = fun j : Nat => V.int (i + c + (j : Nat) * c) := by
      funext j
      show V.int _ = V.int _
      congr 1
      have : ((Nat.succ j : Nat) : Int) = (j : Int) + 1 := by omega
      rw [this, Int.add_mul]; omega
    rw [e2]
    exact this
theorem bind_assoc {α β γ : Type} (r : Res α) (f : α → Store → Res β) (k : β → Store → Res γ) : (r.bind f).bind k = r.bind fun a st => (f a st).bind k := by cases r <;> rfl
theorem me_tupR3 (hcm : X.calm = true) (hg : Gl X "tuple") (hm : X.mg "tuple" = none) (hg2 : Gl X "range") (hm2 : X.mg "range" = none) (ha : ME X g Wx xa xn a ma) (hb : ME X g Wx xa xn b mb) (hc : ME X g Wx xa xn c mc) (hst : starEach [a, b, c] X.env = (false, eval a X.env) :: starEach [b, c] X.env) (hst2 : starEach [b, c] X.env = (false, eval b X.env) :: starEach [c] X.env) (hst3 : starEach [c] X.env = (false, eval c X.env) :: starEach [] X.env)
    (hpl : (backTo pos2 (starEach [b, c] X.env)).any (·.1) = false) (na : starEach [Expr.Call (.Name "range" p2) [a, b, c] [] pos2] X.env = (false, eval (Expr.Call (.Name "range" p2) [a, b, c] [] pos2) X.env) :: starEach [] X.env) :
    ME X g Wx xa xn (.Call (.Name "tuple" p) [.Call (.Name "range" p2) [a, b, c] [] pos2] [] pos) (fun ρ st => ((ma ρ st).bind fun x st => (mb ρ st).bind fun y st => (mc ρ st).bind fun z st => match x.d, y.d, z.d with
      | .int i, .int j, .int c => if -(2 ^ 40) ≤ i ∧ i < 2 ^ 40 ∧ -(2 ^ 40) ≤ j ∧ j < 2 ^ 40 ∧ c ≠ 0 ∧ -1000000 ≤ c ∧ c ≤ 1000000 then .ok (rngC i c (turns i j c)) st else .stuck | _, _, _ => .stuck).bind fun ds st => if ds.length ≤ big then .ok (.v (.tup ds)) st else .stuck) :=
  PE.weak (pe_tupR3 hcm hg hm hg2 hm2 (pa_cons ha (pa_cons hb (pa_cons hc pa_nil hst3) hst2) hst) hst hpl na) fun σ H R ⟨ρ, μ, st, hs, post⟩ => by
    dsimp only at post
    rw [bind_assoc] at post
    refine tE_bind hs post fun v H1 w st1 μ1 s1 r1 hs1 p1 => ?_
    try dsimp only at p1
    rw [bind_assoc] at p1
    refine tE_bind hs1 p1 fun v2 H2 w2 st2 μ2 s2 r2 hs2 p2 => ?_
    try dsimp only at p2
    rw [bind_assoc] at p2
    refine tE_bind hs2 p2 fun v3 H3 w3 st3 μ3 s3 r3 hs3 p3 => ?_
    try dsimp only at p3
    cases hw : w.d with
    | int i =>
      cases hw2 : w2.d with
      | int j =>
        cases hw3 : w3.d with
        | int k =>
          rw [hw] at r1 p3
          rw [hw2] at r2 p3
          rw [hw3] at r3 p3
          cases r1; cases r2; cases r3
          dsimp only at p3
          split at p3
          · rename_i hc
            rw [bind_ok] at p3
            have hl : (rngC i k (turns i j k)).length = turns i j k := by
              generalize turns i j k = n
              clear p3 post p2 p1 hw hw2 hw3 hc
              induction n generalizing i with
              | zero => rfl
              | succ n ih => rw [rngC, List.length_cons, ih]
            split at p3
            · rename_i hb
              refine ⟨i, j, k, turns i j k, rfl, ⟨hc.2.2.2.2.1, by omega, small_ok hc, by unfold turns; rw [Int.toNat_of_nonneg (size_nn i j k).1]⟩, by rw [hl] at hb; unfold big at hb; omega, ?_⟩
              exact p3.newT hs3.rs (rvs_rgc i k _)
            · exact p3.elim
          · exact p3.elim
        | _ => rw [hw, hw2, hw3] at p3; exact p3.elim
      | _ => rw [hw, hw2] at p3; exact p3.elim
    | _ => rw [hw] at p3; exact p3.elim
end Fw

/-! ## Fx9 -/
set_option Elab.async false
set_option linter.all false
set_option maxRecDepth 100000
set_option maxHeartbeats 4000000
/-! Two fields at once: o.f, p.g = e -/
namespace Fw
open PySem PySem.Spec PyProof.Rows L2
section
variable {X : Cx} {pos : Pos}
def gFld (K : PySem.W.Frag) (ta : TE) (f : Str) : TG := fun v σ H Q => ta σ H fun x H2 => ∃ a C dx fs, x = .ref a ∧ H2 a = some (.ins C dx fs) ∧ Cls K C ∧ NoAttr K C f ∧ fs.length < 1000 ∧ Q σ (upd H2 a (.ins C dx (putF f v fs)))
theorem pg_fld {o : Expr} {f : Str} {ta : TE} (ha : PE X o ta) : PG X (.Attribute o f pos) (gFld X.K ta f) := by
  refine ⟨fun pins s σ H v u Q I r h => ?_⟩
  have e : assign (.Attribute o f pos) X.env u = (do let ov ← holding [u] (eval o X.env); standAt pos.atName; holding [u, ov] (setAttr ov f u); release [u, ov] []) := by rfl
  rw [e]
  refine wpAny_bind (wpAny_holding (thn (ha.run pins s σ H _ I h) fun ov s1 ⟨x, H1, I1, rx, a, C, dx, fs, ex, ea, c, n, l, q⟩ => ?_))
  subst ex
  obtain rfl : ov = Value.ref a := rx
  refine wpAny_bind (wpAny_standAt (wpAny_bind (wpAny_holding (setattr_ok I1 ea c n l r fun s2 I2 => ?_))))
  exact wpAny_release ⟨σ, _, I2, q⟩
end
section
variable {X : Cx} {g : G} {Wx : WX} {xa : XA} {xn : XN} {pos p1 p2 pt : Pos} {e o o2 : Expr} {me mo mu : Lc → Store → Res W} {kt : Nat}
theorem ms_unpF (hK : g.K = X.K) {fl : Nat → List Nat} (T : ClsOk X.K g fl) (hc : X.calm = true) {f k : Nat} {x y : Str} (hx : x = g.nm f) (hy : y = g.nm k) (he : ME X g Wx xa xn e me) (ho : ME X g Wx xa xn o mo) (hu : ME X g Wx xa xn o2 mu)
    (hs : swapsWithSole [.Tuple [.Attribute o x p1, .Attribute o2 y p2] kt pt] e pos.line X.env = pure false) (hw : swappedStores [.Tuple [.Attribute o x p1, .Attribute o2 y p2] kt pt] e X.env = pure none) :
    MS X g Wx xa xn (.Assign [.Tuple [.Attribute o x p1, .Attribute o2 y p2] kt pt] e pos) (fun ρ st => stp ((me ρ st).bind fun w st => pairF w.d fun d d2 => (mo ρ st).bind fun u st => (setF fl u.d f d st).bind fun _ st => (mu ρ st).bind fun u st => setF fl u.d k d2 st) ρ fun _ st => .nx ρ st) :=
  PS.weak (ps_asg he (pg_tup (n := 2) hc (pgs_cons (pg_fld ho) (pgs_cons (pg_fld hu) pgs_nil))) hs hw rfl) fun D σ H ⟨ρ, μ, st, hs, post⟩ => by
    dsimp only at post
    have q : PostR g (fun c d H' => Wx c d σ H') μ H ((me ρ st).bind fun w st => pairF w.d fun d d2 => (mo ρ st).bind fun u st => (setF fl u.d f d st).bind fun _ st => (mu ρ st).bind fun u st => setF fl u.d k d2 st) (relU g) fun _ H' => D.nx σ H' := by
      cases e : (me ρ st).bind fun w st => pairF w.d fun d d2 => (mo ρ st).bind fun u st => (setF fl u.d f d st).bind fun _ st => (mu ρ st).bind fun u st => setF fl u.d k d2 st with
      | stuck => rw [e] at post; exact post
      | exc c fs st1 => rw [e] at post; exact fun C dd μ' H' s hx hr => post σ C dd μ' H' s hx (hs.loc.step s) hr
      | ok w st1 => rw [e] at post; exact fun b μ' α' H' s hr => by obtain ⟨e2, hr⟩ := hr; subst e2; exact post σ _ H' s (hs.loc.step s) hr
    refine tE_bind hs q fun u H1 w st1 μ1 s1 r1 hs1 p1 => ?_
    have noexc : ∀ (d : Fw.D) (i : Nat) (b : Fw.D) (st : Store) c fs st2, setF fl d i b st ≠ .exc c fs st2 := fun d i b st c fs st2 e => by
      unfold setF at e
      split at e <;> (try cases e)
      split at e <;> (try cases e)
      split at e <;> cases e
    generalize hwd : w.d = wd at r1 p1
    unfold pairF at p1
    split at p1
    · rename_i d1 d2
      cases r1 with
      | tup ht hv =>
        rename_i a xs
        cases hv with
        | cons rv1 hv =>
          rename_i v1 vr
          cases hv with
          | cons rv2 hv =>
            rename_i v2 vr2
            cases hv
            refine ⟨a, [v1, v2], rfl, ?_, rfl, v1, [v2], rfl, ?_⟩
            · have := ht.sq
              rw [hK] at this
              exact this
            refine tE_bind hs1 p1 fun v H2 w2 st2 μ2 s2 r2 hs2 p2 => ?_
            cases e : setF fl w2.d f d1 st2 with
            | stuck => rw [e] at p2; exact p2.elim
            | exc c fs st3 => exact (noexc _ _ _ _ _ _ _ e).elim
            | ok _ st3 =>
              rw [e] at p2
              obtain ⟨pp, C, dx, vs, e1, e2, e3, e4, e5, e6, e7, _⟩ := setF_post T hs2.rs r2 (rv1.step s2) e
              refine ⟨pp, C, dx, vs, e1, e2, e3, by rw [hx]; exact e4, e5, v2, [], rfl, ?_⟩
              rw [hx]
              refine tE_bind (hs2.step e6 e7) (PostR.step e6 p2) fun v' H4 w4 st4 μ4 s4 r4 hs4 p4 => ?_
              cases e' : setF fl w4.d k d2 st4 with
              | stuck => rw [e'] at p4; exact p4.elim
              | exc c fs st5 => exact (noexc _ _ _ _ _ _ _ e').elim
              | ok _ st5 =>
                rw [e'] at p4
                obtain ⟨pp', C', dx', vs', e1', e2', e3', e4', e5', e6', e7', _⟩ := setF_post T hs4.rs r4 (((rv2.step s2).step e6).step s4) e'
                exact ⟨pp', C', dx', vs', e1', e2', e3', by rw [hy]; exact e4', e5', rfl, by rw [hy]; exact p4 () μ4 μ4 _ e6' ⟨rfl, e7'⟩⟩
    · exact p1.elim
end
end Fw

/-! ## Fx10 -/
set_option Elab.async false
set_option linter.all false
set_option maxRecDepth 100000
set_option maxHeartbeats 4000000
/-! Dicts of the store, places of lists op= value, walks of lists that the store holds. -/
namespace Fw
open PySem PySem.Spec PyProof.Rows L2
section
variable {X : Cx} {g : G} {Wx : WX} {xa : XA} {xn : XN} {o e f i : Expr} {pos apos p' tpos : Pos} {mo mk mx mb mi : Lc → Store → Res W}
theorem me_dnew : ME X g Wx xa xn (.Dict [] [] pos) (fun _ st => .ok (.v (.ref st.length)) (st ++ [.dic []])) :=
  me_here pe_dnewK fun σ H Q ρ μ st hs post => fun p hp => by
    obtain ⟨r, s⟩ := hs.rs.push hp (o := .dic []) (u := .dK []) (.dic upd_same .nil)
    refine post _ _ _ _ s ⟨rfl, .ref ?_, r⟩
    rw [hs.rs.len, List.getElem?_append_right (Nat.le_refl _)]
    simp
theorem me_dget (hu : X.A.units + 1 < cLine) (ho : ME X g Wx xa xn o mo) (he : ME X g Wx xa xn e mk) (hf : ME X g Wx xa xn f mx) (m : M2 X o "get" apos e f pos) :
    ME X g Wx xa xn (.Call (.Attribute o "get" apos) [e, f] [] pos) (fun ρ st => (mo ρ st).bind fun a st => if (dicD st a.d).isSome then (mk ρ st).bind fun y st => (mx ρ st).bind fun z st => opDget a.d y.d z.d st else .stuck) :=
  me_here (pe_dget2 hu ho he hf m) fun σ H Q ρ μ st hs post => tE_bind hs post fun v H1 w st1 μ1 s1 r1 hs1 p1 => by
    split at p1
    · rename_i hk
      obtain ⟨n, kvs, hd⟩ := dicD_isSome hk
      obtain ⟨p, kvs2, rfl, h1, hp, rk⟩ := dic_rel hs1.rs r1 hd
      refine ⟨p, rfl, .inl ⟨kvs2, .inl hp⟩, tE_bind hs1 p1 fun y H2 w2 st2 μ2 s2 r2 hs2 p2 => tE_bind hs2 p2 fun z H3 w3 st3 μ3 s3 r3 hs3 p3 => ?_⟩
      unfold opDget at p3
      split at p3
      · rename_i n3 kv3 k e3 ek
        obtain ⟨p9, kvs3, hp9, h3, hp3, rk3⟩ := dic_rel hs3.rs ((r1.step s2).step s3) e3
        cases hp9
        refine ⟨valV kvs3 k, ?_, ?_⟩
        · rw [key_rel (r2.step s3) ek]; exact DGet.k hp3
        · rcases rk3.val k with ⟨e1, e2⟩ | ⟨d, v, e1, e2, rv⟩
          · rw [e1] at p3; rw [e2]; exact p3.v hs3.rs r3
          · rw [e1] at p3; rw [e2]; exact p3.v hs3.rs rv
      · exact p3.elim
    · exact p1.elim
theorem me_dset (ho : ME X g Wx xa xn o mo) (he : ME X g Wx xa xn e mk) (hf : ME X g Wx xa xn f mx) (m : M2 X o "setdefault" apos e f pos) :
    ME X g Wx xa xn (.Call (.Attribute o "setdefault" apos) [e, f] [] pos) (fun ρ st => (mo ρ st).bind fun a st => if (dicD st a.d).isSome then (mk ρ st).bind fun y st => (mx ρ st).bind fun z st => opDset a.d y.d z.d st else .stuck) :=
  me_here (pe_dsetd ho he hf m) fun σ H Q ρ μ st hs post => tE_bind hs post fun v H1 w st1 μ1 s1 r1 hs1 p1 => by
    split at p1
    · rename_i hk
      obtain ⟨n, kvs, hd⟩ := dicD_isSome hk
      obtain ⟨p, kvs2, rfl, h1, hp, rk⟩ := dic_rel hs1.rs r1 hd
      refine ⟨p, rfl, .inl ⟨kvs2, .inl hp⟩, tE_bind hs1 p1 fun y H2 w2 st2 μ2 s2 r2 hs2 p2 => tE_bind hs2 p2 fun z H3 w3 st3 μ3 s3 r3 hs3 p3 => ?_⟩
      unfold opDset at p3
      split at p3
      · rename_i n3 kv3 k e3 ek
        obtain ⟨p9, kvs3, hp9, h3, hp3, rk3⟩ := dic_rel hs3.rs ((r1.step s2).step s3) e3
        cases hp9
        split at p3
        · rename_i hl
          refine ⟨kvs3, k, hp3, key_rel (r2.step s3) ek, by rw [← rk3.length, ← big_eq]; exact hl, fun v hv => ?_, fun hn => ?_⟩
          · rcases rk3.val k with ⟨e1, e2⟩ | ⟨d, v', e1, e2, rv⟩
            · rw [e2] at hv; cases hv
            · rw [e2] at hv; cases hv
              rw [e1] at p3; exact p3.v hs3.rs rv
          · rcases rk3.val k with ⟨e1, e2⟩ | ⟨d, v', e1, e2, rv⟩
            · rw [e1] at p3
              have hn : H3 p ≠ none := by rw [hp3]; simp
              have s4 := fun u' => Step.set (u := u') (List.mem_iff_getElem?.mpr ⟨n3, h3⟩) hn
              exact p3 _ μ3 μ3 _ (s4 _) ⟨rfl, r3.step (s4 _), hs3.rs.set h3 hn (.dic upd_same ((rk3.put r3 k).imp (s4 _).imp))⟩
            · rw [e2] at hn; cases hn
        · exact p3.elim
      · exact p3.elim
    · exact p1.elim
theorem ms_flow {D : Ends} {σ : L2.St} {H : Hp} {ρ : Lc} {μ : List Addr} {st : Store} {m : Lc → Store → Res Unit} (hs : SR g xa xn μ H ρ σ st) (post : FlowPost g Wx xa xn D μ H σ (stp (m ρ st) ρ fun _ st => .nx ρ st)) :
    PostR g (fun c d H' => Wx c d σ H') μ H (m ρ st) (relU g) fun _ H' => D.nx σ H' := by
  cases e : m ρ st with
  | stuck => rw [e] at post; exact post
  | exc c fs st1 => rw [e] at post; exact fun C dd μ' H' s hx hr => post σ C dd μ' H' s hx (hs.loc.step s) hr
  | ok w st1 => rw [e] at post; exact fun b μ' α' H' s hr => by obtain ⟨e2, hr⟩ := hr; subst e2; exact post σ _ H' s (hs.loc.step s) hr
theorem ms_dput (hu : X.A.units + 1 < cLine) (ho : ME X g Wx xa xn o mo) (hi : ME X g Wx xa xn i mi) (he : ME X g Wx xa xn e mb) (hsw : swapsWith e (some (.Subscript o i p')) pos.line X.env = pure false) :
    MS X g Wx xa xn (.Assign [.Subscript o i p'] e pos) (fun ρ st => stp ((mb ρ st).bind fun y st => (mo ρ st).bind fun x st => (mi ρ st).bind fun z st => opDput x.d z.d y.d st) ρ fun _ st => .nx ρ st) :=
  PS.weak (ps_dput hu ho hi he hsw) fun D σ H ⟨ρ, μ, st, hs, post⟩ => by
    dsimp only at post
    have q := ms_flow (m := fun ρ st => (mb ρ st).bind fun y st => (mo ρ st).bind fun x st => (mi ρ st).bind fun z st => opDput x.d z.d y.d st) hs post
    refine tE_bind hs q fun u H1 w st1 μ1 s1 r1 hs1 p1 => tE_bind hs1 p1 fun v H2 w2 st2 μ2 s2 r2 hs2 p2 => tE_bind hs2 p2 fun k H3 w3 st3 μ3 s3 r3 hs3 p3 => ?_
    unfold opDput at p3
    split at p3
    · rename_i n3 kv3 kk e3 ek
      obtain ⟨p, kvs3, rfl, h3, hp3, rk3⟩ := dic_rel hs3.rs (r2.step s3) e3
      split at p3
      · rename_i hl
        have hn : H3 p ≠ none := by rw [hp3]; simp
        have s4 := fun u' => Step.set (u := u') (List.mem_iff_getElem?.mpr ⟨n3, h3⟩) hn
        have ru := (r1.step s2).step s3
        refine ⟨p, _, rfl, ?_, p3 () μ3 μ3 _ (s4 _) ⟨rfl, hs3.rs.set h3 hn (.dic upd_same ((rk3.put ru kk).imp (s4 _).imp))⟩⟩
        rw [key_rel r3 ek]
        exact DPut.k hp3 (by rw [← rk3.length, ← big_eq]; exact hl)
      · exact p3.elim
    · exact p3.elim
/-- xs[i] of a list -/
def rGetL : V → V → Hp → VK → Prop := fun o i H Q => ∃ p xs k v, o = .ref p ∧ i = .int k ∧ 0 ≤ k ∧ k < 2 ^ 62 ∧ H p = some (.lst xs) ∧ xs[k.toNat]? = some v ∧ Q v H
theorem get_list : PGet X rGetL := by
  intro pins s σ H o i ov iv Q I ro ri h
  obtain ⟨p, xs, k, v, rfl, rfl, h0, h1, hp, hv, q⟩ := h
  cases ro
  obtain ⟨t, rfl⟩ := ri
  obtain ⟨its, r, pl, hz⟩ := I.list (SqL.of hp)
  obtain ⟨w, ew, rw'⟩ := r.get hv
  exact wpAny_getItem_list pl.isList h0 (by omega) (by simpa using ew) ⟨v, H, I, rw', q⟩
theorem ms_iaug {op : Operator} (ho : ME X g Wx xa xn o mo) (hi : ME X g Wx xa xn i mi) (he : ME X g Wx xa xn e mb)
    (ha : ∀ ov iv new, augStore i ov iv new = (do holding [new, ov, iv] (setItem ov iv new); release [new, ov, iv] []; pure .next)) :
    MS X g Wx xa xn (.AugAssign (.Subscript o i tpos) op e pos) (fun ρ st => stp ((mo ρ st).bind fun x st => (mi ρ st).bind fun z st => (opAt x.d z.d st).bind fun v st => (mb ρ st).bind fun y st => (opAug op v y.d st).bind fun u st => opSet x.d z.d u st) ρ fun _ st => .nx ρ st) :=
  PS.weak (ps_augS ho hi get_list he (opr_aug (g := g) op) set_list ha) fun D σ H ⟨ρ, μ, st, hs, post⟩ => by
    dsimp only at post
    have q := ms_flow (m := fun ρ st => (mo ρ st).bind fun x st => (mi ρ st).bind fun z st => (opAt x.d z.d st).bind fun v st => (mb ρ st).bind fun y st => (opAug op v y.d st).bind fun u st => opSet x.d z.d u st) hs post
    refine tE_bind hs q fun v H1 w st1 μ1 s1 r1 hs1 p1 => tE_bind hs1 p1 fun k H2 w2 st2 μ2 s2 r2 hs2 p2 => ?_
    generalize hx : w.d = x at *
    generalize hz : w2.d = z at *
    have rx := r1.step s2
    unfold opAt at p2
    split at p2
    · rename_i n ii
      split at p2
      · rename_i ds en
        split at p2
        · rename_i hk
          split at p2
          · rename_i d ed
            cases rx with
            | ref h1 =>
              rename_i p
              cases r2
              have ro := hs2.rs.ob _ _ _ en h1
              cases ro with
              | lst hp rl =>
                obtain ⟨u, hu, ru⟩ := rl.get ed
                refine ⟨p, _, ii, u, rfl, rfl, hk.1, hk.2, hp, hu, ?_⟩
                rw [bind_ok] at p2
                refine tE_bind hs2 p2 fun y H3 w3 st3 μ3 s3 r3 hs3 p3 => ?_
                refine ⟨d, w3.d, μ3, st3, _, ru.step s3, r3, hs3.rs, (p3.bind (rel1 := relD g)).mono fun b H4 ⟨u4, st4, μ4, α4, s4, ⟨e4, r4, rs4⟩, p4⟩ => ?_⟩
                subst e4
                have s4 : Step μ3 H3 α4 α4 H4 := s4.frz
                cases e : opSet (.ref n) (.int ii) u4 st4 with
                | stuck => rw [e] at p4; exact p4.elim
                | exc c fs st5 => exact absurd e opSet_noexc
                | ok _ st5 =>
                  rw [e] at p4
                  obtain ⟨pp, xs, zz, j, e1, e2, e3, e5, e6, e7⟩ := opSet_post rs4 (.ref ((Step.at s4) ((Step.at s3) h1))) (.int ii) r4 e
                  exact ⟨pp, xs, zz, j, e1, e2, e3, e5, p4 () _ _ _ e6 ⟨rfl, e7⟩⟩
          · exact p2.elim
        · exact p2.elim
      · exact p2.elim
    · exact p2.elim
end
/-! ### walks of a list that the store holds -/
section
variable {X : Cx} {g : G} {Wx : WX} {xa : XA} {xn : XN} {tg it : Expr} {pos : Pos}
open Classical in
theorem gdL_iff {n : Nat} {ds : List D} {st : Store} : gdL n ds st = true ↔ st[n]? = some (.lst ds) := by unfold gdL; exact decide_eq_true_iff
theorem ms_forL {body : List Stmt} {kb : Lc → Store → Out} {t : T} {i : Nat} (hp : PassesOwn (model X.prog X.w) X.A X.env X.xe) (hc : X.calm = true) (hi : ME X g Wx xa xn it (fun ρ st => match ρ.get i with | some d => .ok (.v d) st | none => .stuck)) (hg : PG X tg (tG g none none t)) (hb : MSs X g Wx none none body kb)
    (hs : ∀ x, foldedSetIterable it X.env x = pure x) :
    MS X g Wx xa xn (.For tg it body [] pos) (fun ρ st => match listAt (ρ.get i) st with | some (n, ds) => forG (gdL n ds) (fun d ρ st => match tgt t d ρ with | none => .stuck | some ρ => kb ρ st) ds ρ st | none => .stuck) :=
  PS.weak (ps_for hp hc (pi_seq hi) hg hb hs) fun D σ H ⟨ρ, μ, st, hsr, post⟩ => by
    dsimp only at post
    cases el : listAt (ρ.get i) st with
    | none => rw [el] at post; exact post.elim
    | some nds =>
      obtain ⟨n, ds⟩ := nds
      rw [el] at post
      unfold listAt at el
      split at el
      · rename_i n' eg
        split at el
        · rename_i ds' en
          cases el
          refine ⟨ρ, μ, st, hsr, ?_⟩
          dsimp only
          rw [eg]
          rintro v μ1 α1 H1 s1 ⟨eα, rv, rs1⟩
          subst eα
          have s1 : Step μ H α1 α1 H1 := s1.frz
          cases rv with
          | ref h1 =>
            rename_i q
            have ro := rs1.ob _ _ _ en h1
            cases ro with
            | lst hq rl0 =>
              refine .inl ⟨q, _, rfl, SqL.of hq, ?_⟩
              have post1 := FlowPost.step (σ1 := σ) post s1
              refine ⟨fun i m σ H => m + i = ds.length ∧ ∃ ρ μ st, SR g none none μ H ρ σ st ∧ Step α1 H1 μ μ H ∧ FlowPost g Wx xa xn D μ H σ (forG (gdL n ds) (fun d ρ st => match tgt t d ρ with | none => .stuck | some ρ => kb ρ st) (ds.drop i) ρ st),
                ⟨ds.length, rfl, ρ, _, st, (hsr.step s1 rs1).drop, .refl, post1⟩, ?_⟩
              rintro i m σ2 H2 ⟨hm, ρ2, μ2, st2, hs2, s2, p2⟩
              have hgd : gdL n ds st2 = true := by
                cases hd : ds.drop i with
                | nil =>
                  rw [hd] at p2
                  unfold forG at p2
                  cases hgd : gdL n ds st2 with
                  | true => rfl
                  | false => rw [hgd] at p2; exact p2.elim
                | cons d r =>
                  rw [hd] at p2
                  unfold forG at p2
                  cases hgd : gdL n ds st2 with
                  | true => rfl
                  | false => rw [hgd] at p2; exact p2.elim
              have h2 : μ2[n]? = some q := s2.at h1
              have ro2 := hs2.rs.ob _ _ _ (gdL_iff.mp hgd) h2
              cases ro2 with
              | lst hq2 rl2 =>
                rename_i xs2
                have t2 : SqL X.K H2 q xs2 := SqL.of hq2
                have hlen := rl2.length
                cases m with
                | zero =>
                  left
                  have : i = ds.length := by omega
                  subst this
                  rw [List.drop_length] at p2
                  unfold forG at p2
                  rw [hgd, if_pos rfl] at p2
                  exact ⟨⟨xs2, t2, Nat.le_of_eq hlen.symm⟩, p2 σ2 μ2 H2 .refl hs2.loc hs2.rs⟩
                | succ m =>
                  right
                  have hlt : i < ds.length := by omega
                  have hget : ds[i]? = some ds[i] := by simp [hlt]
                  obtain ⟨u, hu, ru⟩ := rl2.get hget
                  refine ⟨⟨xs2, u, t2, hu⟩, fun σ' H' => m + (i + 1) = ds.length ∧ ∃ ρ μ st, SR g none none μ H' ρ σ' st ∧ Step α1 H1 μ μ H' ∧ FlowPost g Wx xa xn D μ H' σ' (forG (gdL n ds) (fun d ρ st => match tgt t d ρ with | none => .stuck | some ρ => kb ρ st) (ds.drop (i + 1)) ρ st),
                    fun σ' H' h => ⟨m, by omega, h⟩, fun x H3 hy => ?_⟩
                  obtain ⟨e1, e2⟩ := hy
                  subst e1
                  have e3 := e2 xs2 t2
                  rw [hu] at e3; cases e3
                  have p3 := p2
                  rw [List.drop_eq_getElem_cons hlt] at p3
                  unfold forG at p3
                  rw [hgd, if_pos rfl] at p3
                  cases et : tgt t ds[i] ρ2 with
                  | none => rw [et] at p3; exact p3.elim
                  | some ρ3 =>
                    rw [et] at p3
                    refine ⟨ρ2, μ2, st2, ds[i], ρ3, hs2, ru, et, fun σ3 hlen3 _ hl3 => ⟨ρ3, μ2, st2, SR.mk0 hl3 hs2.rs, ?_⟩⟩
                    dsimp only at p3
                    cases eb : kb ρ3 st2 with
                    | stuck => rw [eb] at p3; exact p3
                    | exc c fs ρ4 st4 => rw [eb] at p3; exact p3
                    | ret w st4 => rw [eb] at p3; exact p3
                    | bk ρ4 st4 => rw [eb] at p3; exact p3
                    | nx ρ4 st4 =>
                      rw [eb] at p3
                      exact fun σ4 μ4 H4 s4 hl4 hr4 => ⟨by omega, ρ4, μ4, st4, SR.mk0 hl4 hr4, s2.trans s4, FlowPost.step (σ1 := σ4) p3 s4⟩
        · cases el
      · cases el
end
section
variable {X : Cx} {g : G} {Wx : WX} {xa : XA} {xn : XN} {tg it elt : Expr} {pos : Pos} {ct : Lc → Store → Res Bool} {el : Lc → Store → Res W} {t : T} {ifs : List Expr} {scope : Scope} {own : List (Str × Nat)}
theorem lcG_gd {gd : Store → Bool} {turn : D → Store → Res (Option D)} {ds : List D} {st : Store} {E : XK} {μ : List Addr} {H : Hp} {β : Type} {rel : Rel W β} {Q : β → Hp → Prop} {da : List D} (h : PostR g E μ H ((lcG gd turn ds st).bind fun rs st => .ok (.fr (da ++ rs)) st) rel Q) : gd st = true := by
  cases hgd : gd st with
  | true => rfl
  | false =>
    cases ds with
    | nil => unfold lcG at h; rw [hgd] at h; exact h.elim
    | cons d r => unfold lcG at h; rw [hgd] at h; exact h.elim
theorem tCmp_ofL {W' : XK} {own : List Nat} {turn : D → Store → Res (Option D)} {i : Nat} (hsub : ∀ j ∈ tgIx t, j ∈ own) {σ : L2.St} {H : Hp} {Q : VK} {ρ : Lc} {μ : List Addr} {st : Store} (hs : SR g xa xn μ H ρ σ st)
    (hq : ∀ μ H d st R, PostR g (fun c d H' => Wx c d σ H') μ H (turn d st) (relO g) R → PostR g W' μ H (turnL t own ct el ρ d st) (relO g) R)
    (post : PostR g (fun c d H' => Wx c d σ H') μ H (match listAt (ρ.get i) st with | some (n, ds) => if ds.length ≤ big then (lcG (gdL n ds) turn ds st).bind fun ds st => .ok (.fr ds) st else .stuck | none => .stuck) (relW g) Q) :
    tCmp (fun σ H R => tE g Wx xa xn (fun ρ st => match ρ.get i with | some d => .ok (.v d) st | none => .stuck) σ H fun x H1 => (∃ q xs, x = .ref q ∧ SqL X.K H1 q xs ∧ R (Itl X.K q) H1) ∨ (∃ q xs, x = .ref q ∧ SqT X.K H1 q xs ∧ R (Itt X.K q) H1)) (tG g none none t) (tT g (fun c d _ H => W' c d H) none none ct) (tE g (fun c d _ H => W' c d H) none none el) own σ H Q := by
  cases eL : listAt (ρ.get i) st with
  | none => rw [eL] at post; exact post.elim
  | some nds =>
    obtain ⟨n, ds⟩ := nds
    rw [eL] at post
    unfold listAt at eL
    split at eL
    · rename_i n' eg
      split at eL
      · rename_i ds' en
        cases eL
        refine ⟨ρ, μ, st, hs, ?_⟩
        dsimp only
        rw [eg]
        rintro v μ9 μ1 H1 s1 ⟨eα, rv, rs1⟩
        subst eα
        have s1 : Step μ H μ1 μ1 H1 := s1.frz
        cases rv with
        | ref h1 =>
          rename_i q
          have ro := rs1.ob _ _ _ en h1
          cases ro with
          | lst hq0 rl0 =>
            refine .inl ⟨q, _, rfl, SqL.of hq0, ?_⟩
            have p1 := PostR.step s1 post
            dsimp only at p1
            split at p1
            · rename_i hbig
              refine ⟨fun i n' acc H => n' + i = ds.length ∧ ∃ μ st da, RL g μ H ρ σ ∧ RS g μ μ H st ∧ Step μ1 H1 μ μ H ∧ RVs g μ μ H da acc ∧ da.length ≤ i ∧ PostR g (fun c d H' => Wx c d σ H') μ H ((lcG (gdL n ds) turn (ds.drop i) st).bind fun rs st => .ok (.fr (da ++ rs)) st) (relW g) Q,
                ⟨ds.length, rfl, μ1, st, [], hs.loc.step s1, rs1, .refl, .nil, Nat.le_refl _, by simpa using p1⟩, ?_⟩
              rintro i m acc H2 ⟨hm, μ2, st2, da, hl2, rs2, s2, ra, hda, p2⟩
              have hgd := lcG_gd p2
              have h2 : μ2[n]? = some q := s2.at h1
              have ro2 := rs2.ob _ _ _ (gdL_iff.mp hgd) h2
              cases ro2 with
              | lst hq2 rl2 =>
                rename_i xs2
                have t2 : SqL X.K H2 q xs2 := SqL.of hq2
                have hlen2 := rl2.length
                cases m with
                | zero =>
                  left
                  have : i = ds.length := by omega
                  subst this
                  rw [List.drop_length] at p2
                  unfold lcG at p2
                  rw [hgd, if_pos rfl] at p2
                  refine ⟨⟨xs2, t2, Nat.le_of_eq hlen2.symm⟩, fun D hD => ?_⟩
                  have p3 : PostR g (fun c d H' => Wx c d σ H') μ2 H2 (.ok (.fr da) st2) (relW g) Q := by simpa using p2
                  exact p3.newL rs2 ra D hD
                | succ m =>
                  right
                  have hlt : i < ds.length := by omega
                  have hget : ds[i]? = some ds[i] := by simp [hlt]
                  obtain ⟨u, hu, ru⟩ := rl2.get hget
                  refine ⟨⟨xs2, u, t2, hu⟩, fun acc' H' => m + (i + 1) = ds.length ∧ ∃ μ st da, RL g μ H' ρ σ ∧ RS g μ μ H' st ∧ Step μ1 H1 μ μ H' ∧ RVs g μ μ H' da acc' ∧ da.length ≤ i + 1 ∧ PostR g (fun c d H' => Wx c d σ H') μ H' ((lcG (gdL n ds) turn (ds.drop (i + 1)) st).bind fun rs st => .ok (.fr (da ++ rs)) st) (relW g) Q,
                    fun acc' H' h => ⟨m, by omega, h⟩, fun x H3 hy => ?_⟩
                  obtain ⟨e1, e2⟩ := hy
                  subst e1
                  have e3 := e2 xs2 t2
                  rw [hu] at e3; cases e3
                  have p3 := p2
                  rw [List.drop_eq_getElem_cons hlt] at p3
                  unfold lcG at p3
                  rw [hgd, if_pos rfl] at p3
                  have p4 : PostR g (fun c d H' => Wx c d σ H') μ2 H3 ((turn ds[i] st2).bind fun r st => ((lcG (gdL n ds) turn (ds.drop (i + 1)) st).bind fun rs st => match r with | some x => .ok (x :: rs) st | none => .ok rs st).bind fun rs st => .ok (.fr (da ++ rs)) st) (relW g) Q := by
                    cases ht : turn ds[i] st2 with
                    | stuck => rw [ht] at p3; exact p3
                    | exc c fs st' => rw [ht] at p3; exact p3
                    | ok a st' => rw [ht] at p3; exact p3
                  have p5 := hq _ _ _ _ _ (p4.bind (rel1 := relO g))
                  have hs3 : SR g none none μ2 H3 ρ σ st2 := .mk0 hl2 rs2
                  have tn := turn_of hsub hs3 ru p5
                  obtain ⟨ρw, μw, stw, dw, ρ', k1, k2, k3, k4⟩ := tn
                  have fin : ∀ (o : Option V) (H4 : Hp), (∃ a st1 μ1' α1, Step μ2 H3 μ1' α1 H4 ∧ relO g a st1 o μ1' α1 H4 ∧ PostR g (fun c d H' => Wx c d σ H') μ1' H4 (((lcG (gdL n ds) turn (ds.drop (i + 1)) st1).bind fun rs st => match a with | some x => .ok (x :: rs) st | none => .ok rs st).bind fun rs st => .ok (.fr (da ++ rs)) st) (relW g) Q) →
                      m + (i + 1) = ds.length ∧ ∃ μ st da', RL g μ H4 ρ σ ∧ RS g μ μ H4 st ∧ Step μ1 H1 μ μ H4 ∧ RVs g μ μ H4 da' (match o with | some y => acc ++ [y] | none => acc) ∧ da'.length ≤ i + 1 ∧ PostR g (fun c d H' => Wx c d σ H') μ H4 ((lcG (gdL n ds) turn (ds.drop (i + 1)) st).bind fun rs st => .ok (.fr (da' ++ rs)) st) (relW g) Q := by
                    rintro o H4 ⟨a, st4, μ9, μ4, s4, ⟨e4, rs4, ro⟩, p6⟩
                    subst e4
                    have s4 : Step μ2 H3 μ4 μ4 H4 := s4.frz
                    refine ⟨by omega, μ4, st4, ?_⟩
                    have ra4 := ra.step s4
                    cases a with
                    | none =>
                      cases o with
                      | some _ => exact ro.elim
                      | none =>
                        refine ⟨da, hl2.step s4, rs4, s2.trans s4, ra4, by omega, ?_⟩
                        cases hl : lcG (gdL n ds) turn (ds.drop (i + 1)) st4 with
                        | stuck => rw [hl] at p6; exact p6
                        | exc c fs st' => rw [hl] at p6; exact p6
                        | ok rs st' => rw [hl] at p6; exact p6
                    | some d =>
                      cases o with
                      | none => exact ro.elim
                      | some y =>
                        refine ⟨da ++ [d], hl2.step s4, rs4, s2.trans s4, ra4.append (.cons ro .nil), by simp; omega, ?_⟩
                        cases hl : lcG (gdL n ds) turn (ds.drop (i + 1)) st4 with
                        | stuck => rw [hl] at p6; exact p6
                        | exc c fs st' => rw [hl] at p6; exact p6
                        | ok rs st' => rw [hl] at p6; simpa using p6
                  refine ⟨ρw, μw, stw, dw, ρ', k1, k2, k3, fun σ' h1 h2 h3 => ?_⟩
                  obtain ⟨q1, q2⟩ := k4 σ' h1 h2 h3
                  refine ⟨q1, ?_⟩
                  obtain ⟨ρt, μt, stt, hst, pt⟩ := q2
                  refine ⟨ρt, μt, stt, hst, pt.mono fun b H4 q => ?_⟩
                  have hlen := ra.length
                  cases b with
                  | false =>
                    rw [if_neg (by simp)] at q ⊢
                    exact fin none H4 q
                  | true =>
                    rw [if_pos rfl] at q ⊢
                    obtain ⟨ρe, μe, ste, hse, pe⟩ := q
                    exact ⟨ρe, μe, ste, hse, pe.mono fun y H5 q5 => ⟨by
                      have : big = sizeLine := by rw [sizeLine_eq]
                      omega, fin (some y) H5 q5⟩⟩
            · exact p1.elim
      · cases eL
    · cases eL
theorem me_lcL {i : Nat} {own2 : List Nat} (hB : own.map (·.2) = own2) (hc : X.calm = true) (hN : X.N.Nodup) (hi : ME X g Wx xa xn it (fun ρ st => match ρ.get i with | some d => .ok (.v d) st | none => .stuck)) (B : Blk X g tg elt ifs scope own t ct el Quiet) (hfold : ∀ x, foldedSetIterable it X.env x = pure x) :
    ME X g Wx xa xn (.ListComp elt [⟨tg, it, ifs, 0⟩] scope pos) (fun ρ st => match listAt (ρ.get i) st with | some (n, ds) => if ds.length ≤ big then (lcG (gdL n ds) (turnQ t own2 ct el ρ) ds st).bind fun ds st => .ok (.fr ds) st else .stuck | none => .stuck) := by
  subst hB
  refine ⟨fun pins s σ H Q I ⟨ρ, μ, st, hsr, post⟩ => ?_⟩
  rw [eval_ListComp]
  refine comp_core (XE' := fun xe Xb => True) hc hN I (pi_seq hi) B.ok (fun s0 H0 ce fp acc I0 hfp hce hC => trivial)
    (fun s H C cl fp xe h => B.hg s H C cl fp xe _ rfl) (fun s H C cl fp xe h => B.ht s H C cl fp xe _ rfl) (fun s H C cl fp xe h => B.he s H C cl fp xe _ rfl) hfold
    (tCmp_ofL (W' := fun _ _ _ => False) B.sub hsr (fun _ _ _ _ _ h => turnQ_post h) post) fun D C s' m H' I' q hn f => ⟨m, hn, fun h'' sb => ?_⟩
  obtain ⟨f0, f1, f2, f3, f4, f5⟩ := f
  exact ⟨.ref D, H', I'.turned (t' := s'.toks) (fun b o hb e => (sb.2 b hb).trans e) f0 f1 f3 f4 f5, rfl, q⟩
end
end Fw

/-! ## En1 -/
set_option Elab.async false
set_option linter.all false
set_option maxRecDepth 100000
set_option maxHeartbeats 4000000
/-! enumerate over a tuple. -/
namespace Fw
open PySem PySem.Spec PyProof.Rows L2
theorem meets_enumerate_newT (l : Addr) (items : Array Value) :
    Meets (Builtin.«enumerate.__new__» ⟨[.type "enumerate", .ref l], []⟩) (fun _ R s => s.heap.IsTuple l items ∧
      R (.ok (.ret (.ref (s.heap.push { cls := .type "tuple_iterator", data := .fields #[.ref l, .int 0 0] }).objs.size)))
        { s with heap := (s.heap.push { cls := .type "tuple_iterator", data := .fields #[.ref l, .int 0 0] }).push { cls := .type "enumerate", data := .fields #[.none, .bool false, .ref s.heap.objs.size, rawInt 0, .none, .none] } }) :=
  .of_wp fun prog w A R s h => by
    obtain ⟨hp, g, d, tk, os⟩ := s; obtain ⟨hL, h⟩ := h
    have hsub := sub_enumerate
    replace hL : Heap.IsTuple (Shared.heap ⟨hp, g, d, tk, os⟩) l items := hL
    wp_walk using wpAny_pyIter_tuple hL
    refine wpAny_stack_any fun st => wpAny_pure ?_
    split
    · rename_i c _ _ _ _ _
      cases (c == Value.type "enumerate")
      · wp_walk using wpAny_pyIter_tuple hL
        exact ⟨_, rfl, h⟩
      · wp_walk using wpAny_pyIter_tuple hL
        exact ⟨_, rfl, h⟩
    · wp_walk using wpAny_pyIter_tuple hL
      exact ⟨_, rfl, h⟩
section
variable {prog : Program} {w : World} {A : Around} {E : Value → Shared → Prop} {s : Shared}
theorem call_enumerate_tuple {l : Addr} {items : Array Value} {Q : Value → Shared → Prop} (hL : s.heap.IsTuple l items)
    (h : ∀ h', IsEnum h' (s.heap.objs.size + 1) s.heap.objs.size 0 .none → h'.IsTupleIter s.heap.objs.size l 0 → h'.objs.size = s.heap.objs.size + 2 →
      (∀ b o, s.heap.get? b = some o → h'.get? b = some o) → Q (.ref (s.heap.objs.size + 1)) { s with heap := h' }) :
    wpAny (model prog w) A (call (.type "enumerate") [.ref l]) Q E s := by
  refine callType_new F.called_enumerate (by decide) (F.typeCall_enumerate_1 _) (F.newCall_enumerate_1 _) (fun obj => F.args_object_init_2 obj _) F.entry_enumerate_new
    (meets_enumerate_newT l items) ⟨hL, ?_⟩
  have hz : (s.heap.push { cls := .type "tuple_iterator", data := .fields #[.ref l, .int 0 0] }).objs.size = s.heap.objs.size + 1 := Heap.size_push ..
  show _ ∧ _
  rw [hz]
  have he : IsEnum ((s.heap.push { cls := .type "tuple_iterator", data := .fields #[.ref l, .int 0 0] }).push
      { cls := .type "enumerate", data := .fields #[.none, .bool false, .ref s.heap.objs.size, rawInt 0, .none, .none] }) (s.heap.objs.size + 1) s.heap.objs.size 0 .none := by
    have := Heap.get?_push_size (s.heap.push { cls := .type "tuple_iterator", data := .fields #[.ref l, .int 0 0] })
      (o := { cls := .type "enumerate", data := .fields #[.none, .bool false, .ref s.heap.objs.size, rawInt 0, .none, .none] }) rfl
    rw [hz] at this; exact this
  refine ⟨⟨_, he, rfl⟩, h _ he ⟨_, Heap.get?_push_of_some _ (Heap.get?_push_size _ rfl), rfl, rfl⟩ (by rw [Heap.size_push, hz]) fun b o x => Heap.get?_push_of_some _ (Heap.get?_push_of_some _ x)⟩
end
/-- the tuple at a, each item in a new pair -/
def IteT (K : PySem.W.Frag) (a : Addr) : It :=
  ⟨fun i H => ∃ (xs : List V) (x : V), SqT K H a xs ∧ xs[i]? = some x, fun i H v H' => ∃ T x, v = .ref T ∧ H T = none ∧ H' = upd H T (.tup [.int (i : Nat), x]) ∧ ∀ xs, SqT K H a xs → xs[i]? = some x, fun i H => ∃ xs : List V, SqT K H a xs ∧ xs.length ≤ i⟩
theorem turn_enumT {P : Program} {w : World} {K : PySem.W.Frag} {elts : List Expr} {kk : Nat} {tpos : Pos} (a e it : Addr) (hae : a ≠ e) (hai : a ≠ it) :
    Turn P w K (.Tuple elts kk tpos) (IteT K a) [e, it] e (fun i h => (∃ old, IsEnum h e it ((i : Nat) : Int) old) ∧ h.IsTupleIter it a i ∧ e ≠ it) where
  mem := by simp
  obj := fun i h st b hb => by
    obtain ⟨⟨old, he⟩, ⟨o, ho, hc, hd⟩, _⟩ := st
    have e' : b = e ∨ b = it := by simpa using hb
    rcases e' with z | z
    · rw [z]; exact ⟨_, he, fun v q => nomatch q⟩
    · rw [z]; exact ⟨o, ho, fun v q => by rw [hd] at q; cases q⟩
  keep := fun i h h' st k => let ⟨⟨old, he⟩, hi, hne⟩ := st; ⟨⟨old, k e (by simp) _ he⟩, hi.at fun o q => k it (by simp) o q, hne⟩
  item := by
    intro X hP hw hK hc i pins s σ H E I hf st hg
    subst hP hw hK
    obtain ⟨⟨old, he⟩, hit, hne⟩ := st
    obtain ⟨xs, x, hq, hx⟩ := hg
    obtain ⟨its, rv, p, hz⟩ := I.tuple hq
    obtain ⟨u, hu, ru⟩ := rv.get hx
    have hel : e < s.heap.objs.size := Heap.lt_size he
    have hil : it < s.heap.objs.size := by obtain ⟨_, q, _⟩ := hit; exact Heap.lt_size q
    have hlt : i < its.toArray.size := by simp; exact (List.getElem?_eq_some_iff.mp hu).1
    refine wpAny_pyNext_enum_itemD (Draws.tuple (A := X.A.in1) (prog := X.prog) (w := X.w) (I.ok.hd hc) it a hai its.toArray) he ⟨hit, p⟩ hlt hne (by simp; exact ⟨hne, Ne.symm hae⟩) fun y h' tk hy ho hit' hT hsz hk => ?_
    have hyu : y = u := by
      have : its.toArray[i]? = some u := by simpa using hu
      rw [this] at hy; exact (Option.some.inj hy).symm
    subst hyu
    refine ⟨_, rfl, wpAny_letOwnedTupleGo_enum (s := { s with heap := h', toks := tk + 1 }) ho fun h'' he' sb => ?_⟩
    have hT2 : h''.get? s.heap.objs.size = some { cls := .type "tuple", data := .seq #[.int i tk, y] } := (sb.2 _ (Nat.ne_of_gt hel)).trans hT
    have new : ObjOk X.prog X.w (upd H s.heap.objs.size (.tup [.int (i : Nat), x])) h'' s.heap.objs.size (.tup [.int (i : Nat), x]) :=
      ⟨by show 2 ≤ sizeLine; decide, [.int i tk, y], .cons ⟨_, rfl⟩ (.cons ru .nil), ⟨_, hT2, rfl, _, rfl⟩⟩
    have I1 : Inv X pins σ (upd H s.heap.objs.size (.tup [.int (i : Nat), x])) { s with heap := h'', toks := tk + 1 } :=
      I.turnedNew (ch := [e, it]) (fun b ob hb q => (sb.2 b (fun z => hb (by simp [z]))).trans (hk b ob (fun z => hb (by simp [z])) (fun z => hb (by simp [z])) q)) hf (Nat.le_refl _) new
    refine ⟨.ref s.heap.objs.size, _, I1, rfl, ⟨_, x, rfl, I.hok.fresh (Nat.le_refl _), rfl, fun ys hy => by rw [I.tuple_inj hy hq]; exact hx⟩, ⟨⟨y, ?_⟩, hit'.1.at fun o q => (sb.2 it (Ne.symm hne)).trans q, hne⟩, fun b hb => ?_⟩
    · have e1 : ((i + 1 : Nat) : Int) = (i : Int) + 1 := by omega
      rw [e1]; exact he'
    · have hb' : b < s.heap.objs.size := by
        have e' : b = e ∨ b = it := by simpa using hb
        rcases e' with z | z
        · rw [z]; exact hel
        · rw [z]; exact hil
      rw [upd_ne (Nat.ne_of_lt hb')]
      exact (hf b hb).1
  done := by
    intro X hP hw hK hc i pins s σ H E I hf st hg
    subst hP hw hK
    obtain ⟨⟨old, he⟩, hit, hne⟩ := st
    obtain ⟨xs, hq, hx⟩ := hg
    obtain ⟨its, rv, p, hz⟩ := I.tuple hq
    obtain ⟨f0, f1, f2, f3, f4, f5⟩ := hf it (by simp)
    have hl := rv.length
    have hT : s.TypeIs (.ref e) "enumerate" := ⟨_, he, rfl⟩
    unfold pyNext
    refine wpAny_bind (wpAny_attempt (wpAny_callSpecial?_slot (name := Str.ofString "__next__") hT F.slot_enumerate_next
      (wpAny_call_entry F.slot_enumerate_next hT F.entry_enumerate_next ?_ (F.args_enumerate_next_1 _))))
    show wpAny _ _ (field (.ref e) 2 >>= _) _ _ _
    refine wpAny_bind (wpAny_field he rfl (x := .ref it) rfl ?_)
    refine wpAny_bind (PySem.wpAny_nextOf_tuple_end (show X.A.in1.handled = none from I.ok.hd hc) hit p (by simp; omega) fun h' y he' hx' => ?_)
    obtain ⟨o, ho, hcl⟩ := hx'
    refine wpAny_bind (wpAny_isInstance (T := "StopIteration") (b := true) ⟨o, ho, hcl⟩ isSubtype_stop ?_)
    exact wpAny_pure ⟨rfl, I.turned (t' := s.toks) (fun b o hb q => he' b o hb q) f0 f1 f3 f4 f5⟩
  self := fun A i s Q E st h => let ⟨⟨_, he⟩, _⟩ := st; wpAny_pyIter_enum he h
def iEnumA (K : PySem.W.Frag) (ta : TA) : TI := fun σ H R => ta σ H fun vs H1 => ∃ a xs, vs = [.ref a] ∧ ((SqL K H1 a xs ∧ R (Ite K a) H1) ∨ (SqT K H1 a xs ∧ R (IteT K a) H1))
theorem pi_enumA {X : Cx} {e : Expr} {ta : TA} {p pos tpos : Pos} {elts : List Expr} {kk : Nat} (hg : Gl X "enumerate") (hm : X.mg "enumerate" = none) (ha : PA X [e] ta) (hs : starEach [e] X.env = [(false, eval e X.env)] := by rfl) :
    PI X (.Tuple elts kk tpos) (.Call (.Name "enumerate" p) [e] [] pos) (iEnumA X.K ta) := by
  refine ⟨fun pins s σ H R I h => ?_⟩
  refine Call_ (ld_blt I hg hm boot_enumerate (PyProof.Rows.callWith_type1 (thn (ha.run pos pins s σ H _ I h) fun us s1 ⟨vs, H1, I1, r1, q1⟩ => ?_) hs rfl))
  obtain ⟨a, xs, ex, q1⟩ := q1
  subst ex
  cases r1 with
  | cons r rr =>
    cases rr
    cases r
    have fr : ∀ b, b ∈ [s1.heap.objs.size + 1, s1.heap.objs.size] → FpOk X pins H1 b := fun b hb => by
      have e' : b = s1.heap.objs.size + 1 ∨ b = s1.heap.objs.size := by simpa using hb
      have hle : s1.heap.objs.size ≤ b := by
        rcases e' with z | z
        · rw [z]; exact Nat.le_add_right _ _
        · rw [z]; exact Nat.le_refl _
      exact I1.fpOk hle (I1.hok.fresh hle)
    rcases q1 with ⟨hq, q⟩ | ⟨hq, q⟩
    · obtain ⟨its, rv, p', hz⟩ := I1.list hq
      refine call_enumerate_list p'.isList fun h' he hit hsz hk => wpAny_pyIter_enum he ?_
      have I2 : Inv X pins σ H1 { s1 with heap := h' } := I1.kept (t' := s1.toks) hk
      exact ⟨s1.heap.objs.size + 1, [s1.heap.objs.size + 1, s1.heap.objs.size], _, _, H1, rfl, I2, turn_enum a (s1.heap.objs.size + 1) s1.heap.objs.size, ⟨⟨.none, he⟩, hit, Nat.succ_ne_self _⟩, fr, q⟩
    · obtain ⟨its, rv, p', hz⟩ := I1.tuple hq
      have hal : a < s1.heap.objs.size := by obtain ⟨_, q, _⟩ := id p'; exact Heap.lt_size q
      refine call_enumerate_tuple (show s1.heap.IsTuple a its.toArray from p') fun h' he hit hsz hk => wpAny_pyIter_enum he ?_
      have I2 : Inv X pins σ H1 { s1 with heap := h' } := I1.kept (t' := s1.toks) hk
      exact ⟨s1.heap.objs.size + 1, [s1.heap.objs.size + 1, s1.heap.objs.size], _, _, H1, rfl, I2, turn_enumT a (s1.heap.objs.size + 1) s1.heap.objs.size (Nat.ne_of_lt (Nat.lt_succ_of_lt hal)) (Nat.ne_of_lt hal), ⟨⟨.none, he⟩, hit, Nat.succ_ne_self _⟩, fr, q⟩
end Fw

/-! ## Fx11 -/
set_option Elab.async false
set_option linter.all false
set_option maxRecDepth 100000
set_option maxHeartbeats 4000000
/-! sorted(d.items()), enumerate(xs): in the small language. -/
namespace Fw
open PySem PySem.Spec PyProof.Rows L2
section
variable {X : Cx} {g : G} {Wx : WX} {xa : XA} {xn : XN} {o e : Expr} {pos apos pos2 p tpos : Pos} {mo ma : Lc → Store → Res W} {elts : List Expr} {kk : Nat}
theorem me_sit (hK : g.K = X.K) (hc : X.calm = true) (hu : X.A.units + 128 < cLine) (hg : Gl X "sorted") (hm : X.mg "sorted" = none) (hb : attributeBase o "items" X.env (eval o X.env) = eval o X.env) (ho : ME X g Wx xa xn o mo) (hline : (apos.endLine == pos2.line) = true) :
    ME X g Wx xa xn (.Call (.Name "sorted" p) [.Call (.Attribute o "items" apos) [] [] pos2] [] pos) (fun ρ st => (mo ρ st).bind fun x st => opSit x.d st) :=
  me_here (pe_callB (cr_sitems hK hc hu) hg hm (by decide +kernel) (pa_cons (pe_bm0 PySem.F.plainAttrs_dict PySem.F.slot_dict_items PySem.F.type_dict_items mt_itemsK ho hb hline) pa_nil rfl) (by decide +kernel) (by decide +kernel) rfl rfl) fun σ H Q ρ μ st hs post =>
    tE_bind hs post fun v H1 w st1 μ1 s1 r1 hs1 p1 => by
      unfold opSit at p1
      split at p1
      · rename_i n kvs e1
        split at p1
        · rename_i hk
          obtain ⟨d, kvs2, rfl, hd, hp, rk⟩ := dic_rel hs1.rs r1 e1
          refine ⟨.inr (.inr (.inl ⟨rfl, .inl ⟨_, hp⟩⟩)), d, kvs2, rfl, rfl, hp, fun q hq => ?_⟩
          have ndq : d ≠ q := fun z => by rw [z, hq] at hp; cases hp
          refine ⟨q, d, kvs2, kvs, μ1, rfl, upd_same, (upd_ne ndq).trans hp, rk.imp (Step.fr0 hq).imp, fun z hz => ?_, hk, fun H' l ys hkeep hl hl' rv => ?_⟩
          · obtain ⟨u, eu⟩ := hs1.rs.mem hz
            rw [upd_ne (fun h => hs1.rs.fresh hq (by rw [← h]; exact hz)), eu]
            simp
          · have nlq : l ≠ q := fun z => by rw [z, upd_same] at hl; cases hl
            have hl0 : H1 l = none := by rw [upd_ne nlq] at hl; exact hl
            have keep : ∀ b u, H1 b = some u → H' b = some u := fun b u e => hkeep b u ((upd_ne (fun z => by rw [z, hq] at e; cases e)).trans e)
            have st2 : Step μ1 H1 μ1 (l :: μ1) H' := ⟨⟨[], by simp⟩, fun b hb => List.mem_cons_of_mem _ hb, fun b hb => by
              rcases List.mem_cons.mp hb with rfl | hb
              · exact .inr hl0
              · exact .inl hb, fun b u e _ => keep b u e, fun b u e => by rw [keep b u e]; simp⟩
            refine p1 _ μ1 (l :: μ1) H' st2 ⟨l, ys, rfl, rfl, hs1.rs.fresh hl0, hl', rv, hs1.rs.imp st2.imp fun b hb => ?_⟩
            obtain ⟨u, eu⟩ := hs1.rs.mem hb
            rw [keep b u eu, eu]
        · exact p1.elim
      · exact p1.elim
theorem enumD_len : ∀ (ds : List D) (k : Int), (enumD k ds).length = ds.length
  | [], _ => rfl
  | d :: ds, k => by simp [enumD, enumD_len ds]
theorem enumD_get : ∀ (ds : List D) (k : Int) (i : Nat) (d : D), (enumD k ds)[i]? = some d → ∃ x, ds[i]? = some x ∧ d = .tup [.int (k + (i : Nat)), x]
  | [], _, i, d, h => by simp [enumD] at h
  | x :: ds, k, 0, d, h => by simp [enumD] at h; exact ⟨x, rfl, by rw [← h]; simp⟩
  | x :: ds, k, i + 1, d, h => by
    simp only [enumD, List.getElem?_cons_succ] at h
    obtain ⟨y, h1, h2⟩ := enumD_get ds (k + 1) i d h
    refine ⟨y, by simpa using h1, ?_⟩
    rw [h2]
    congr 2
    have : k + 1 + (i : Int) = k + ((i + 1 : Nat) : Int) := by omega
    rw [this]
theorem enum_yld {μ' : List Addr} {H' H'' : Hp} {T : Addr} {i : Int} {y : D} {vy : V} (hT : H' T = none) (e : H'' = upd H' T (.tup [.int i, vy])) (ry : RV g μ' μ' H' y vy) :
    Step μ' H' μ' μ' H'' ∧ ∀ st, RS g μ' μ' H' st → RS g μ' μ' H'' st ∧ RV g μ' μ' H'' (.tup [.int i, y]) (.ref T) := zip_yld hT e (.int i) ry
theorem mi_En (hK : g.K = X.K) (hg : Gl X "enumerate") (hm : X.mg "enumerate" = none) (ha : ME X g Wx xa xn e ma) (hs : starEach [e] X.env = [(false, eval e X.env)]) :
    MI X g Wx xa xn (.Tuple elts kk tpos) (.Call (.Name "enumerate" p) [e] [] pos) (fun ρ st => (ma ρ st).bind fun w st => match w.d with | .tup ds => .ok (enumD 0 ds) st | .lst ds => .ok (enumD 0 ds) st | _ => .stuck) :=
  PI.weak (pi_enumA hg hm (pa_cons ha pa_nil hs) hs) fun σ H R ⟨ρ, μ, st, hsr, post⟩ => tE_bind hsr post fun v H1 w st1 μ1 s1 r1 hs1 p1 => by
    cases hw : w.d with
    | tup ds =>
      rw [hw] at r1 p1
      cases r1 with
      | tup t1 rr =>
        rename_i q xs
        have sq := t1.sq
        rw [hK] at sq
        refine ⟨q, xs, rfl, .inr ⟨sq, p1 _ μ1 μ1 H1 .refl ⟨rfl, hs1.rs, fun μ' H' s' => ?_⟩⟩⟩
        have t2 := (t1.step s').sq
        rw [hK] at t2
        have r2 := rr.step s'
        refine ⟨⟨xs, t2, by rw [enumD_len]; exact Nat.le_of_eq r2.length.symm⟩, fun i d hd => ?_⟩
        obtain ⟨x, hx, rfl⟩ := enumD_get _ _ _ _ hd
        obtain ⟨u, hu, ru⟩ := r2.get hx
        refine ⟨⟨xs, u, t2, hu⟩, fun v H'' ⟨T, x', ev, hT, eH, h1⟩ => ?_⟩
        have q1 := h1 xs t2
        rw [hu] at q1; cases q1
        subst ev
        have e0 : (0 : Int) + ((i : Nat) : Int) = (i : Nat) := by omega
        rw [e0]
        exact enum_yld hT eH ru
    | lst ds =>
      rw [hw] at r1 p1
      cases r1 with
      | lst t1 rr =>
        rename_i q xs
        refine ⟨q, xs, rfl, .inl ⟨SqL.of t1.1, p1 _ μ1 μ1 H1 .refl ⟨rfl, hs1.rs, fun μ' H' s' => ?_⟩⟩⟩
        have t2 : SqL X.K H' q xs := SqL.of (t1.step s').1
        have r2 := rr.step s'
        refine ⟨⟨xs, t2, by rw [enumD_len]; exact Nat.le_of_eq r2.length.symm⟩, fun i d hd => ?_⟩
        obtain ⟨x, hx, rfl⟩ := enumD_get _ _ _ _ hd
        obtain ⟨u, hu, ru⟩ := r2.get hx
        refine ⟨⟨xs, u, t2, hu⟩, fun v H'' ⟨T, x', ev, hT, eH, h1⟩ => ?_⟩
        have q1 := h1 xs t2
        rw [hu] at q1; cases q1
        subst ev
        have e0 : (0 : Int) + ((i : Nat) : Int) = (i : Nat) := by omega
        rw [e0]
        exact enum_yld hT eH ru
    | _ => rw [hw] at p1; exact p1.elim
end
end Fw

/-! ## Fy1 -/
set_option Elab.async false
set_option linter.all false
set_option maxRecDepth 100000
set_option maxHeartbeats 4000000
/-! What an expression's form alone says. -/
namespace Fw
open PySem PySem.Spec PyProof.Rows L2

def notStar : Expr → Bool
  | .Starred .. => false
  | _ => true
theorem star_ok {e : Expr} {es : List Expr} {env : Env} (h : notStar e = true) : starEach (e :: es) env = (false, eval e env) :: starEach es env := by
  cases e <;> first | rfl | (simp [notStar] at h)
theorem star_any {pos : Pos} {env : Env} : ∀ {es : List Expr}, es.all notStar = true → (backTo pos (starEach es env)).any (·.1) = false
  | [], _ => rfl
  | e :: es, h => by
    simp only [List.all_cons, Bool.and_eq_true] at h
    rw [star_ok h.1]
    show (false || (backTo pos (starEach es env)).any (·.1)) = false
    rw [star_any h.2]; rfl
theorem star_form {pos : Pos} {env : Env} {es : List Expr} (h : es.all notStar = true) (hn : es.length < 30) : methodCallForm (es.length + 0) (backTo pos (starEach es env)) (backToKw pos (keywordEach [] env)) = true := by
  have a : (backTo pos (starEach es env)).all (!·.1) = true := by
    have := star_any (pos := pos) (env := env) h
    rw [List.all_eq_not_any_not]
    simpa using this
  unfold methodCallForm
  rw [a]
  show (true && true && decide (es.length + 0 + 0 < 30)) = true
  simp [hn]
/-- not super() -/
def notSuper : Expr → Bool
  | .Call (.Name _ _) [] [] _ => false
  | _ => true
theorem base_ok {o : Expr} {n : Str} {env : Env} {whole : Sem Value} (h : notSuper o = true) : attributeBase o n env whole = whole := by
  unfold attributeBase
  split
  · simp [notSuper] at h
  · rfl
def plainTest : Expr → Bool
  | .UnaryOp .Not _ _ => false
  | .BoolOp .. => false
  | .IfExp .. => false
  | .Compare .. => false
  | _ => true
theorem test_ok {e : Expr} {env : Env} (h : plainTest e = true) (whole : Sem Value) : isTrue e env whole = (do let v ← whole; standAt e.pos; holding [v] (truthy v)) := by
  cases e <;> first | rfl | (simp [plainTest] at h; done) | skip
  rename_i op _ _
  cases op <;> first | rfl | (simp [plainTest] at h; done)
def notSlice : Expr → Bool
  | .Slice .. => false
  | _ => true
theorem plainIx_ok {b : Expr} (h : notSlice b = true) : PlainIx b := fun o i => by
  cases b <;> first | rfl | (simp [notSlice] at h)
def notSet : Expr → Bool
  | .Set .. => false
  | _ => true
theorem fold_ok {e : Expr} {env : Env} (h : notSet e = true) (x : Value) : foldedSetIterable e env x = pure x := by
  cases e <;> first | rfl | (simp [notSet] at h)
/-- not a comprehension -/
def notComp : Expr → Bool
  | .ListComp .. => false
  | .SetComp .. => false
  | .DictComp .. => false
  | _ => true
theorem swap_ok {e : Expr} {t : Option Expr} {l : Nat} {env : Env} (h : notComp e = true) : swapsWith e t l env = pure false := by
  cases e <;> first | rfl | (simp [notComp] at h)
def notName : Expr → Bool
  | .Name .. => false
  | _ => true
theorem swap_other {e t : Expr} {l : Nat} {env : Env} (h : notName t = true) : swapsWith e (some t) l env = pure false := by
  unfold swapsWith
  cases e <;> first | rfl | (cases t <;> first | rfl | (simp [notName] at h))
/-- name = [..] on other lines, or the name is no plain local -/
def swapName (e : Expr) (y : Str) (py : Pos) (sc : Scope) : Bool := match e with
  | .ListComp _ _ s pos => sc.kind == .function && sc.names.lookup y == some .local && py.line == pos.line && !(s.names.any fun (n, k) => n == y && (k == .local || k == .cell))
  | _ => false
theorem tuple_ne {e : Expr} {es : List Expr} {k : Nat} {p : Pos} {env : Env} (h : (match e with | .Tuple .. => false | _ => true) = true) : swappedStores [.Tuple es k p] e env = pure none := by
  unfold swappedStores
  cases e <;> first | rfl | (simp at h)
theorem sub_stores {o i e : Expr} {p : Pos} {env : Env} : swappedStores [.Subscript o i p] e env = pure none := by
  unfold swappedStores
  cases e <;> rfl
theorem sub_assign {o i : Expr} {p : Pos} {env : Env} (h : notSlice i = true) (v : Value) : assign (.Subscript o i p) env v = (do
      let ov ← holding [v] (eval o env)
      let iv ← holding [v, ov] (eval i env)
      standAt p
      holding [v, ov, iv] (setItem ov iv v)
      release [v, ov, iv] []) := by
  cases i <;> first | rfl | (simp [notSlice] at h)
theorem asg_tup {es : List Expr} {k : Nat} {p : Pos} {env : Env} : (assignEach [.Tuple es k p] env).map (·.2) = [assign (.Tuple es k p) env] := rfl
theorem asg_len {env : Env} : ∀ {es : List Expr}, es.all notStar = true → (assignEach es env).length = es.length ∧ (assignEach es env).findIdx? (·.1) = none
  | [], _ => ⟨rfl, rfl⟩
  | e :: es, h => by
    simp only [List.all_cons, Bool.and_eq_true] at h
    have : assignEach (e :: es) env = (false, assign e env) :: assignEach es env := by
      have h1 := h.1
      cases e <;> first | rfl | (simp [notStar] at h1)
    rw [this]
    obtain ⟨a, b⟩ := asg_len (env := env) h.2
    refine ⟨by simp [a], ?_⟩
    rw [List.findIdx?_cons]
    simp [b]
theorem aug_store {i : Expr} (h : notSlice i = true) (ov iv new : Value) : augStore i ov iv new = (do holding [new, ov, iv] (setItem ov iv new); release [new, ov, iv] []; pure .next) := by
  cases i <;> first | rfl | (simp [notSlice] at h)
/-- a call of what is neither a name nor an attribute -/
def subsc : Expr → Bool
  | .Subscript .. => true
  | _ => false
theorem call_sub {f : Expr} {es : List Expr} {pos : Pos} {env : Env} (h : subsc f = true) : eval (.Call f es [] pos) env = eval f env >>= fun v => callWith pos v [] (backTo pos (starEach es env)) [] := by
  cases f <;> first | rfl | (simp [subsc] at h)
end Fw

/-! ## Fy2 -/
set_option Elab.async false
set_option linter.all false
set_option maxRecDepth 100000
set_option maxHeartbeats 4000000
/-! The checker: an expression says what a term computes. -/
namespace Fw
open PySem PySem.Spec PyProof.Rows L2

/-- how a, b = x, y stores -/
def storesOf (ts vs : List Expr) (sc : Scope) : Option (Option (List Str)) :=
  let line := (ts.head?.map (·.pos.line)).getD 0
  let names := ts.filterMap fun
    | .Name id pos => if sc.names.lookup id == some .local && pos.line == line then some id else none
    | _ => none
  if (!(ts.length == 2 || ts.length == 3) || vs.length != ts.length) = true then some none else
  if (vs.any fun | .Starred .. => true | _ => false) = true then some none else
  if (names.length != ts.length || names.eraseDups.length != names.length) = true then some none else
  if vs.all (foldedForSure 8) = true then some none else
  if vs.all (constantsAlone 8) = true then none else some (some names)
theorem stores_ok {ts vs : List Expr} {sc : Scope} {env : Env} {kt k2 : Nat} {pt pt2 : Pos} {r : Option (List Str)} (hsc : env.scope = sc) (hk : sc.kind = .function) (h : storesOf ts vs sc = some r) :
    swappedStores [.Tuple ts kt pt] (.Tuple vs k2 pt2) env = pure r := by
  subst hsc
  have hb : (env.blockKind != .function) = false := by
    have : env.blockKind = .function := by unfold Env.blockKind; rw [hk]; rfl
    rw [this]; rfl
  unfold storesOf at h
  unfold swappedStores
  dsimp only at h ⊢
  rw [hb, Bool.or_false]
  split at h
  · rename_i c
    cases h
    rw [if_pos c]
  · rename_i c
    rw [if_neg c]
    split at h
    · rename_i c
      cases h
      exact if_pos c
    · rename_i c
      refine (if_neg c).trans ?_
      split at h
      · rename_i c
        cases h
        exact if_pos c
      · rename_i c
        refine (if_neg c).trans ?_
        split at h
        · rename_i c
          cases h
          exact if_pos c
        · rename_i c
          refine (if_neg c).trans ?_
          split at h
          · cases h
          · rename_i c
            cases h
            exact if_neg c

/-- what stands at a whole text: the names of defs, constants, classes -/
structure Ev where
  fnm : List (Str × Nat)
  csm : List (Str × Nat)
  clm : List (Str × Nat × Nat)
  mtm : List ((Nat × Nat) × Nat)
  exm : List (Str × Nat)
  nm : Nat → Str
  okF : Nat → Bool
  lv : Nat → Nat
  exf : Nat → List Nat
  okx : Nat → Bool
/-- where an expression stands -/
structure Ck where
  N : List Str
  sc : Scope
  n : Nat
  calm : Bool := true
  dl : Bool := true
  es : Option (Nat × Str) := none

def glB (sc : Scope) (x : Str) : Bool := sc.names.lookup x == some .globalImplicit && !(x == ("__debug__" : Str))
def visB (sc : Scope) (x : Str) : Bool := (sc.names.lookup x == some .local || sc.names.lookup x == some .cell || sc.names.lookup x == some .free) && !(x == ("__debug__" : Str)) && !(x == ("__classdict__" : Str))
def locB (sc : Scope) (x : Str) : Bool := sc.names.lookup x == some .local || sc.names.lookup x == some .cell
def plB (sc : Scope) (x : Str) : Bool := sc.names.lookup x == some .local
/-- the values of a name's slots -/
def slotB (c : Ck) (i : Nat) (x : Str) : Bool := c.N[i]? == some x
def ownOf (N : List Str) (own : List Nat) : List (Str × Nat) := own.filterMap fun i => (N[i]?).map fun x => (x, i)
def Ck.blk (c : Ck) (s : Scope) : Ck := { c with sc := relS s c.sc, dl := false, es := none }
def one : Expr → Expr
  | .BoolOp _ [x] _ => x
  | e => e
def argsB (es : List Expr) : Bool := es.all notStar && decide (es.length < 30)

def okGs (c : Ck) : List Nat → List Expr → Bool
  | [], [] => true
  | i :: is, .Name x _ :: xs => slotB c i x && locB c.sc x && (c.dl || plB c.sc x) && okGs c is xs
  | _, _ => false
/-- a target -/
def okG (c : Ck) (t : T) (e : Expr) : Bool := match t, e with
  | .tgN i, .Name x _ => slotB c i x && locB c.sc x && (c.dl || plB c.sc x)
  | .tgT is, .Tuple xs _ _ => c.calm && xs.all notStar && okGs c is xs
  | _, _ => false

mutual
def okE (ev : Ev) : Nat → Ck → T → Expr → Bool
  | 0, _, _, _ => false
  | f + 1, c, t, e0 => match t, one e0 with
    | .var i, .Name x _ => slotB c i x && visB c.sc x
    | .int i, .Constant (.int j) _ _ => i == j
    | .bl i, .Constant (.bool j) _ _ => i == j
    | .str i, .Constant (.str j) _ _ => i == j
    | .non, .Constant .none _ _ => true
    | .cst k, .Name x _ => glB c.sc x && ev.csm.lookup x == some k
    | .fnv k, .Name x _ => glB c.sc x && ev.fnm.lookup x == some k
    | .efld k, .Attribute (.Name en _) n _ => (match c.es with
      | some (i, en') => en == en' && slotB c i en && visB c.sc en && n == ev.nm k && ev.okF k
      | none => false)
    | .eisi k, .Call (.Name y _) [.Name en _, .Name x _] [] _ => (match c.es with
      | some (i, en') => y == ("isinstance" : Str) && en == en' && slotB c i en && visB c.sc en && glB c.sc "isinstance" && glB c.sc x && ev.exm.lookup x == some k
      | none => false)
    | .bin o a b, .BinOp x o' y _ => o == o' && okE ev f c a x && okE ev f c b y
    | .neg a, .UnaryOp .USub x _ => okE ev f c a x
    | .not a, .UnaryOp .Not x _ => okE ev f c a x
    | .and a b, .BoolOp .And (x :: y :: rest) p => okE ev f c a x && okE ev f c b (.BoolOp .And (y :: rest) p)
    | .or a b, .BoolOp .Or (x :: y :: rest) p => okE ev f c a x && okE ev f c b (.BoolOp .Or (y :: rest) p)
    | .cmp o a b, .Compare x [o'] [y] _ => o == o' && okE ev f c a x && okE ev f c b y && !behindInMarks o y
    | .chain o1 o2 a b d, .Compare x [o1', o2'] [y, z] _ => o1 == o1' && o2 == o2' && okE ev f c a x && okE ev f c b y && okE ev f c d z && !lastMarks [o1, o2] [y, z]
    | .ite d a b, .IfExp x y z _ => okT ev f c d x && okE ev f c a y && okE ev f c b z
    | .tup es, .Tuple xs _ _ => okEs ev f c es xs
    | .lst es, .List xs _ => okEs ev f c es xs
    | .call k es, .Call (.Name x _) xs [] _ => c.calm && glB c.sc x && ev.fnm.lookup x == some k && decide (ev.lv k < c.n) && argsB xs && okEs ev f c es xs
    | .callv n g es, .Call h xs [] _ => c.calm && subsc h && decide (n ≤ c.n) && argsB xs && !xs.isEmpty && okE ev f c g h && okEs ev f c es xs
    | .new k g es, .Call (.Name x _) xs [] _ => c.calm && glB c.sc x && ev.clm.lookup x == some (k, g) && decide (ev.lv g + 1 < c.n) && argsB xs && okEs ev f c es xs
    | .meth k m g o es, .Call (.Attribute h n ap) xs [] p => c.calm && n == ev.nm m && ev.okF m && ev.mtm.lookup (k, m) == some g && decide (ev.lv g < c.n) && notSuper h && argsB xs && (ap.endLine == p.line) && okE ev f c o h && okEs ev f c es xs
    | .isi k a, .Call (.Name y _) [x, .Name z _] [] _ => y == ("isinstance" : Str) && glB c.sc "isinstance" && z == Str.ofString (tyName k) && glB c.sc z && notStar x && okE ev f c a x
    | .blt b es, .Call (.Name y _) xs [] _ => c.calm && y == Str.ofString (bName b) && glB c.sc y && argsB xs && !xs.isEmpty && okEs ev f c es xs
    | .bm .append o es, .Call (.Attribute h n ap) [x] [] p => n == ("append" : Str) && notSuper h && (ap.endLine == p.line) && notStar x && okE ev f c o h && okEs ev f c es [x]
    | .bm .bitlen o .nil, .Call (.Attribute h n ap) [] [] p => n == ("bit_length" : Str) && notSuper h && (ap.endLine == p.line) && okE ev f c o h
    | .idx a i, .Subscript x y _ => notSlice y && okE ev f c a x && okE ev f c i y
    | .sl a lo hi, .Subscript x (.Slice l h none _) _ => okE ev f c a x && okP ev f c lo l && okP ev f c hi h
    | .rev a, .Subscript x (.Slice none none (some s) _) _ => okE ev f c a x && okE ev f c (.neg (.int 1)) s
    | .fld k o, .Attribute x n _ => n == ev.nm k && notSuper x && okE ev f c o x
    | .alloc a, e => okE ev f c a e
    | .lc own tg it cd el, .ListComp x [⟨y, z, ifs, 0⟩] s _ => c.calm && c.dl && notSet z && okI ev f c it y z && okB ev f c own tg cd el x y ifs s
    | .lcq own tg it cd el, .ListComp x [⟨y, z, ifs, 0⟩] s _ => c.calm && notSet z && okI ev f c it y z && okB ev f c own tg cd el x y ifs s
    | .dnew, .Dict [] [] _ => true
    | .dget a k d, .Call (.Attribute h n ap) [x, y] [] p => n == ("get" : Str) && notSuper h && (ap.endLine == p.line) && notStar x && notStar y && okE ev f c a h && okE ev f c k x && okE ev f c d y
    | .dset a k d, .Call (.Attribute h n ap) [x, y] [] p => n == ("setdefault" : Str) && notSuper h && (ap.endLine == p.line) && notStar x && notStar y && okE ev f c a h && okE ev f c k x && okE ev f c d y
    | .lcL own tg i cd el, .ListComp x [⟨y, z, ifs, 0⟩] s _ => c.calm && notSet z && (match z with | .Name zx _ => slotB c i zx && visB c.sc zx | _ => false) && okB ev f c own tg cd el x y ifs s
    | .sit a, .Call (.Name y _) [.Call (.Attribute h n ap) [] [] p2] [] _ => c.calm && y == ("sorted" : Str) && glB c.sc y && n == ("items" : Str) && notSuper h && (ap.endLine == p2.line) && okE ev f c a h
    | .itN (.itR3 a b d), .Call (.Name y _) [.Call (.Name z _) [x1, x2, x3] [] _] [] _ => c.calm && y == ("tuple" : Str) && glB c.sc y && z == ("range" : Str) && glB c.sc z && notStar x1 && notStar x2 && notStar x3 && okE ev f c a x1 && okE ev f c b x2 && okE ev f c d x3
    | _, _ => false
/-- a block -/
def okB (ev : Ev) : Nat → Ck → List Nat → T → T → T → Expr → Expr → List Expr → Scope → Bool
  | 0, _, _, _, _, _, _, _, _, _ => false
  | f + 1, c, own, tg, cd, el, x, y, ifs, s => blkC c.N c.sc s (ownOf c.N own) && ((ownOf c.N own).map (·.2) == own) && (tgIx tg).all (own.contains ·) && okG (c.blk s) tg y && okE ev f (c.blk s) el x &&
    (match ifs with
      | [] => cd == .bl true
      | [i] => okT ev f (c.blk s) cd i
      | _ => false)
def okEs (ev : Ev) : Nat → Ck → T → List Expr → Bool
  | 0, _, _, _ => false
  | f + 1, c, t, es => match t, es with
    | .nil, [] => true
    | .cons h t, x :: xs => notStar x && okE ev f c h x && okEs ev f c t xs
    | _, _ => false
def okT (ev : Ev) : Nat → Ck → T → Expr → Bool
  | 0, _, _, _ => false
  | f + 1, c, t, e => match t, e with
    | .not a, .UnaryOp .Not x _ => okT ev f c a x
    | .and a b, .BoolOp .And (x :: y :: rest) p => okT ev f c a x && okW ev f c true b (y :: rest)
    | .or a b, .BoolOp .Or (x :: y :: rest) p => okT ev f c a x && okW ev f c false b (y :: rest)
    | .cmp o a b, .Compare x [o'] [y] _ => o == o' && okE ev f c a x && okE ev f c b y && !behindInMarks o y
    | .chain o1 o2 a b d, .Compare x [o1', o2'] [y, z] _ => o1 == o1' && o2 == o2' && okE ev f c a x && okE ev f c b y && okE ev f c d z && !lastMarks [o1, o2] [y, z]
    | .not _, _ => false
    | .and _ _, _ => false
    | .or _ _, _ => false
    | .cmp _ _ _, _ => false
    | .chain _ _ _ _ _, _ => false
    | t, e => plainTest e && okE ev f c t e
/-- what stands behind the first and (or) of a row -/
def okW (ev : Ev) : Nat → Ck → Bool → T → List Expr → Bool
  | 0, _, _, _, _ => false
  | f + 1, c, isAnd, t, es => match es with
    | [y] => okT ev f c t y
    | y :: z :: rest => (match isAnd, t with
      | true, .and a b => okT ev f c a y && okW ev f c true b (z :: rest)
      | false, .or a b => okT ev f c a y && okW ev f c false b (z :: rest)
      | _, _ => false)
    | [] => false
def okP (ev : Ev) : Nat → Ck → T → Option Expr → Bool
  | 0, _, _, _ => false
  | f + 1, c, t, e => match t, e with
    | .no, none => true
    | .no, _ => false
    | t, some x => okE ev f c t x
    | _, none => false
def okI (ev : Ev) : Nat → Ck → T → Expr → Expr → Bool
  | 0, _, _, _, _ => false
  | f + 1, c, t, tg, e => match t, e with
    | .itE t, x => okE ev f c t x
    | .itR1 a, .Call (.Name y _) [x] [] _ => y == ("range" : Str) && glB c.sc y && notStar x && okE ev f c a x
    | .itR2 a b, .Call (.Name y _) [x1, x2] [] _ => y == ("range" : Str) && glB c.sc y && notStar x1 && notStar x2 && okE ev f c a x1 && okE ev f c b x2
    | .itR3 a b d, .Call (.Name y _) [x1, x2, x3] [] _ => y == ("range" : Str) && glB c.sc y && notStar x1 && notStar x2 && notStar x3 && okE ev f c a x1 && okE ev f c b x2 && okE ev f c d x3
    | .itEn a, .Call (.Name y _) [x] [] _ => y == ("enumerate" : Str) && glB c.sc y && notStar x && okE ev f c a x && (match tg with | .Tuple .. => true | _ => false)
    | .itZ a b, .Call (.Name y _) [x1, x2] [] _ => y == ("zip" : Str) && glB c.sc y && notStar x1 && notStar x2 && okE ev f c a x1 && okE ev f c b x2 && (match tg with | .Tuple .. => true | _ => false)
    | _, _ => false
end
/-- a comprehension that a name takes on one line -/
def setB (c : Ck) (x : Str) (px : Pos) (v : Expr) : Bool := notComp v || (match v with | .ListComp .. => true | _ => false)
def isLc : T → Bool
  | .lc .. => true
  | .alloc (.lc ..) => true
  | _ => false
def Ck.suite (c : Ck) (es : Option (Nat × Str)) : Ck := { c with calm := false, dl := false, es := es }
def Ck.rest (c : Ck) : Ck := { c with es := none }
mutual
def okS (ev : Ev) : Nat → Ck → T → Stmt → Bool
  | 0, _, _, _ => false
  | f + 1, c, t, s => match t, s with
    | .set i e, .Assign [.Name x px] v _ => slotB c i x && locB c.sc x && (c.dl || plB c.sc x) && okE ev f c e v && (notComp v || (c.calm && c.dl && swapName v x px c.sc && isLc e) || ((match v with | .ListComp .. => true | _ => false) && !swapName v x px c.sc))
    | .unp is e, .Assign [.Tuple xs _ _] v _ => c.calm && xs.all notStar && okGs c is xs && okE ev f c e v && (match v with | .Tuple vs _ _ => storesOf xs vs c.sc == some none | _ => true)
    | .par [i, j] es, .Assign [.Tuple [.Name x px, .Name y py] _ _] (.Tuple [a, b] _ _) _ => c.calm && slotB c i x && slotB c j y && i != j && plB c.sc x && plB c.sc y && okEs ev f c es [a, b] && storesOf [.Name x px, .Name y py] [a, b] c.sc == some (some [x, y])
    | .par [i, j, l] es, .Assign [.Tuple [.Name x px, .Name y py, .Name z pz] _ _] (.Tuple [a, b, d] _ _) _ => c.calm && slotB c i x && slotB c j y && slotB c l z && i != j && i != l && j != l && plB c.sc x && plB c.sc y && plB c.sc z && okEs ev f c es [a, b, d] &&
        storesOf [.Name x px, .Name y py, .Name z pz] [a, b, d] c.sc == some (some [x, y, z])
    | .unpF k l o x e, .Assign [.Tuple [.Attribute h n pn, .Attribute h2 n2 pn2] _ _] v _ => c.calm && n == ev.nm k && n2 == ev.nm l && okE ev f c o h && okE ev f c x h2 && okE ev f c e v && (match v with | .Tuple vs _ _ => storesOf [.Attribute h n pn, .Attribute h2 n2 pn2] vs c.sc == some none | _ => true)
    | .fset k o e, .Assign [.Attribute h n _] v _ => n == ev.nm k && okE ev f c o h && okE ev f c e v
    | .iset o i e, .Assign [.Subscript h x _] v _ => notSlice x && okE ev f c o h && okE ev f c i x && okE ev f c e v
    | .dput o i e, .Assign [.Subscript h x _] v _ => okE ev f c o h && okE ev f c i x && okE ev f c e v
    | .iaug o a i e, .AugAssign (.Subscript h x _) o' v _ => o == o' && notSlice x && okE ev f c a h && okE ev f c i x && okE ev f c e v
    | .forL tg i b, .For y z body [] _ => c.calm && c.dl && notSet z && (match z with | .Name zx _ => slotB c i zx && visB c.sc zx | _ => false) && okG c.rest tg y && okSs ev f c.rest b body
    | .aug o i e, .AugAssign (.Name x _) o' v _ => o == o' && slotB c i x && locB c.sc x && (c.dl || plB c.sc x) && okE ev f c e v
    | .faug o k x e, .AugAssign (.Attribute h n _) o' v _ => o == o' && n == ev.nm k && okE ev f c x h && okE ev f c e v
    | .ex e, .Expr v _ => notComp v && okE ev f c e v
    | .ret e, .Return (some v) _ => okE ev f c e v
    | .retN, .Return none _ => true
    | .if_ d a b, .If x ya yb _ => okT ev f c d x && okSs ev f c a ya && okSs ev f c b yb
    | .for_ tg it b, .For y z body [] _ => c.calm && c.dl && notSet z && okI ev f c it y z && okG c.rest tg y && okSs ev f c.rest b body
    | .wh d b, .While x body [] _ => c.dl && okT ev f c.rest d x && okSs ev f c.rest b body
    | .pass, .Pass _ => true
    | .brk, .Break _ => true
    | .rais k es, .Raise (some (.Call (.Name x _) xs [] _)) none _ => c.calm && glB c.sc x && ev.exm.lookup x == some k && !(ev.exf k).isEmpty && argsB xs && !xs.isEmpty && okEs ev f c es xs
    | .try_ b hs, .Try body (h0 :: hds) [] [] _ => c.calm && c.dl && okSs ev f c.rest b body && okH ev f c hs (h0 :: hds)
    | _, _ => false
def okSs (ev : Ev) : Nat → Ck → T → List Stmt → Bool
  | 0, _, _, _ => false
  | f + 1, c, t, ss => match t, ss with
    | .nil, [] => true
    | .cons (.forget _) t, ss => okSs ev f c t ss
    | .cons h t, s :: ss => okS ev f c h s && okSs ev f c.rest t ss
    | _, _ => false
def okH (ev : Ev) : Nat → Ck → T → List ExceptHandler → Bool
  | 0, _, _, _ => false
  | f + 1, c, t, hs => match t, hs with
    | .nil, [] => true
    | .cons (.hd k none b) t, .ExceptHandler (some (.Name x _)) none (s0 :: ss) _ :: r => glB c.sc x && ev.exm.lookup x == some k && okSs ev f (c.suite none) b (s0 :: ss) && okH ev f c t r
    | .cons (.hd k (some i) b) t, .ExceptHandler (some (.Name x _)) (some n) (s0 :: ss) _ :: r => glB c.sc x && ev.exm.lookup x == some k && slotB c i n && plB c.sc n && okSs ev f (c.suite (some (i, n))) b (s0 :: ss) && okH ev f c t r
    | _, _ => false
end
end Fw

/-! ## Fy3 -/
set_option Elab.async false
set_option linter.all false
set_option maxRecDepth 100000
set_option maxHeartbeats 4000000
/-! The evaluator, equation by equation (printed by gen_eq.py). -/
namespace Fw
open PySem L2
theorem evE_var (Δ : Dl) (i : Nat) (ρ : Lc) (st : Store) : evE Δ (.var i) ρ st = (match ρ.get i with
    | some d => .ok (.v d) st
    | none => .stuck) := by rw [evE] <;> rfl
theorem evE_int (Δ : Dl) (i : Int) (ρ : Lc) (st : Store) : evE Δ (.int i) ρ st = (.ok (.v (.int i)) st
) := by rw [evE] <;> rfl
theorem evE_str (Δ : Dl) (x : Str) (ρ : Lc) (st : Store) : evE Δ (.str x) ρ st = (.ok (.v (.str x)) st
) := by rw [evE] <;> rfl
theorem evE_bl (Δ : Dl) (b : Bool) (ρ : Lc) (st : Store) : evE Δ (.bl b) ρ st = (.ok (.v (.bl b)) st
) := by rw [evE] <;> rfl
theorem evE_non (Δ : Dl)  (ρ : Lc) (st : Store) : evE Δ (.non) ρ st = (.ok (.v .non) st
) := by rw [evE] <;> rfl
theorem evE_cst (Δ : Dl) (k : Nat) (ρ : Lc) (st : Store) : evE Δ (.cst k) ρ st = (.ok (.v (Δ.cst k)) st
) := by rw [evE] <;> rfl
theorem evE_fnv (Δ : Dl) (f : Nat) (ρ : Lc) (st : Store) : evE Δ (.fnv f) ρ st = (.ok (.v (.fn f)) st
) := by rw [evE] <;> rfl
theorem evE_efld (Δ : Dl) (f : Nat) (ρ : Lc) (st : Store) : evE Δ (.efld f) ρ st = (match Δ.xn with
    | some (c, fs) => if (Δ.exf c).contains f then match fs.lookup f with
      | some d => .ok (.v d) st
      | none => .stuck
      else .stuck
    | none => .stuck) := by rw [evE] <;> rfl
theorem evE_eisi (Δ : Dl) (c : Nat) (ρ : Lc) (st : Store) : evE Δ (.eisi c) ρ st = (match Δ.xn with
    | some (c', _) => if (Δ.exf c').isEmpty then .stuck else .ok (.v (.bl (Δ.sub c' c))) st
    | none => .stuck) := by rw [evE] <;> rfl
theorem evE_bin (Δ : Dl) (o : Operator) (a : T) (b : T) (ρ : Lc) (st : Store) : evE Δ (.bin o a b) ρ st = ((evE Δ a ρ st).bind fun x st => (evE Δ b ρ st).bind fun y st => opBin o x.d y.d st
) := by rw [evE] <;> rfl
theorem evE_neg (Δ : Dl) (a : T) (ρ : Lc) (st : Store) : evE Δ (.neg a) ρ st = ((evE Δ a ρ st).bind fun x st => match x.d with
    | .int i => .ok (.v (.int (-i))) st
    | _ => .stuck) := by rw [evE] <;> rfl
theorem evE_not (Δ : Dl) (a : T) (ρ : Lc) (st : Store) : evE Δ (.not a) ρ st = ((evE Δ a ρ st).bind fun w st => match truth st w.d with
    | some k => .ok (.v (.bl (!k))) st
    | none => .stuck) := by rw [evE] <;> rfl
theorem evE_and (Δ : Dl) (a : T) (b : T) (ρ : Lc) (st : Store) : evE Δ (.and a b) ρ st = ((evE Δ a ρ st).bind fun w st => match truth st w.d with
    | some k => if k then evE Δ b ρ st else .ok (.v w.d) st
    | none => .stuck) := by rw [evE] <;> rfl
theorem evE_or (Δ : Dl) (a : T) (b : T) (ρ : Lc) (st : Store) : evE Δ (.or a b) ρ st = ((evE Δ a ρ st).bind fun w st => match truth st w.d with
    | some k => if k then .ok (.v w.d) st else evE Δ b ρ st
    | none => .stuck) := by rw [evE] <;> rfl
theorem evE_cmp (Δ : Dl) (o : CmpOp) (a : T) (b : T) (ρ : Lc) (st : Store) : evE Δ (.cmp o a b) ρ st = ((evE Δ a ρ st).bind fun x st => (evE Δ b ρ st).bind fun y st => (opCmp o x.d y.d st).bind fun d st => .ok (.v d) st
) := by rw [evE] <;> rfl
theorem evE_chain (Δ : Dl) (o : CmpOp) (o' : CmpOp) (a : T) (b : T) (c : T) (ρ : Lc) (st : Store) : evE Δ (.chain o o' a b c) ρ st = ((evE Δ a ρ st).bind fun x st => (evE Δ b ρ st).bind fun y st => (cmpB o x.d y.d st).bind fun k st =>
      if k then (evE Δ c ρ st).bind fun z st => (cmpB o' y.d z.d st).bind fun k st => .ok (.v (.bl k)) st else .ok (.v (.bl false)) st) := by rw [evE] <;> rfl
theorem evE_ite (Δ : Dl) (c : T) (a : T) (b : T) (ρ : Lc) (st : Store) : evE Δ (.ite c a b) ρ st = ((evT Δ c ρ st).bind fun k st => if k then evE Δ a ρ st else evE Δ b ρ st
) := by rw [evE] <;> rfl
theorem evE_tup (Δ : Dl) (es : T) (ρ : Lc) (st : Store) : evE Δ (.tup es) ρ st = ((evEs Δ es ρ st).bind fun ds st => if ds.length ≤ big then .ok (.v (.tup ds)) st else .stuck
) := by rw [evE] <;> rfl
theorem evE_lst (Δ : Dl) (es : T) (ρ : Lc) (st : Store) : evE Δ (.lst es) ρ st = ((evEs Δ es ρ st).bind fun ds st => if ds.length ≤ big then .ok (.fr ds) st else .stuck
) := by rw [evE] <;> rfl
theorem evE_call (Δ : Dl) (f : Nat) (es : T) (ρ : Lc) (st : Store) : evE Δ (.call f es) ρ st = ((evEs Δ es ρ st).bind fun ds st => Δ.fns f ds st
) := by rw [evE] <;> rfl
theorem evE_callv (Δ : Dl) (n : Nat) (f : T) (es : T) (ρ : Lc) (st : Store) : evE Δ (.callv n f es) ρ st = ((evE Δ f ρ st).bind fun x st => match x.d with
    | .fn f => if Δ.lv f < n then (evEs Δ es ρ st).bind fun ds st => Δ.fns f ds st else .stuck
    | _ => .stuck) := by rw [evE] <;> rfl
theorem evE_rev (Δ : Dl) (a : T) (ρ : Lc) (st : Store) : evE Δ (.rev a) ρ st = ((evE Δ a ρ st).bind fun x st => opRev x.d st
) := by rw [evE] <;> rfl
theorem evE_new (Δ : Dl) (c : Nat) (f : Nat) (es : T) (ρ : Lc) (st : Store) : evE Δ (.new c f es) ρ st = ((evEs Δ es ρ st).bind fun ds st => (Δ.fns f (.ref st.length :: ds) (st ++ [.ins c []])).bind fun w st' => match w with
    | .v .non => .ok (.v (.ref st.length)) st'
    | _ => .stuck) := by rw [evE] <;> rfl
theorem evE_meth (Δ : Dl) (c : Nat) (m : Nat) (f : Nat) (o : T) (es : T) (ρ : Lc) (st : Store) : evE Δ (.meth c m f o es) ρ st = ((evE Δ o ρ st).bind fun x st => match x.d with
    | .ref n => match st[n]? with
      | some (.ins c' fs) => if c' = c ∧ fs.lookup m = none then (evEs Δ es ρ st).bind fun ds st => Δ.fns f (.ref n :: ds) st else .stuck
      | _ => .stuck
    | _ => .stuck) := by rw [evE] <;> rfl
theorem evE_blt (Δ : Dl) (b : B) (es : T) (ρ : Lc) (st : Store) : evE Δ (.blt b es) ρ st = ((evEs Δ es ρ st).bind fun ds st => opB b ds st
) := by rw [evE] <;> rfl
theorem evE_isi (Δ : Dl) (k : Ty) (e : T) (ρ : Lc) (st : Store) : evE Δ (.isi k e) ρ st = ((evE Δ e ρ st).bind fun x st => match isTy k x.d with
    | some b => .ok (.v (.bl b)) st
    | none => .stuck) := by rw [evE] <;> rfl
theorem evE_bm (Δ : Dl) (m : BM) (o : T) (es : T) (ρ : Lc) (st : Store) : evE Δ (.bm m o es) ρ st = ((evE Δ o ρ st).bind fun x st => if bmOk m x.d st then (evEs Δ es ρ st).bind fun ds st => opBM m x.d ds st else .stuck
) := by rw [evE] <;> rfl
theorem evE_idx (Δ : Dl) (a : T) (i : T) (ρ : Lc) (st : Store) : evE Δ (.idx a i) ρ st = ((evE Δ a ρ st).bind fun x st => (evE Δ i ρ st).bind fun y st => opIx x.d y.d st
) := by rw [evE] <;> rfl
theorem evE_sl (Δ : Dl) (a : T) (lo : T) (hi : T) (ρ : Lc) (st : Store) : evE Δ (.sl a lo hi) ρ st = ((evE Δ a ρ st).bind fun x st => (evP Δ lo ρ st).bind fun l st => (evP Δ hi ρ st).bind fun h st => opSl x.d l h st
) := by rw [evE] <;> rfl
theorem evE_fld (Δ : Dl) (f : Nat) (o : T) (ρ : Lc) (st : Store) : evE Δ (.fld f o) ρ st = ((evE Δ o ρ st).bind fun x st => match getF Δ.flds st x.d f with
    | some d => .ok (.v d) st
    | none => .stuck) := by rw [evE] <;> rfl
theorem evE_lc (Δ : Dl) (own : List Nat) (tg : T) (it : T) (cd : T) (el : T) (ρ : Lc) (st : Store) : evE Δ (.lc own tg it cd el) ρ st = ((evI Δ it ρ st).bind fun ds st => if ds.length ≤ big then (lcM (fun d st => match tgt tg d (ρ.wipe own) with
      | none => .stuck
      | some ρ' => (evT Δ cd ρ' st).bind fun k st => if k then (evE Δ el ρ' st).bind fun w st => .ok (some w.d) st else .ok none st) ds st).bind fun ds st => .ok (.fr ds) st else .stuck) := by rw [evE] <;> rfl
theorem evE_lcq (Δ : Dl) (own : List Nat) (tg : T) (it : T) (cd : T) (el : T) (ρ : Lc) (st : Store) : evE Δ (.lcq own tg it cd el) ρ st = ((evI Δ it ρ st).bind fun ds st => if ds.length ≤ big then (lcM (fun d st => match tgt tg d (ρ.wipe own) with
      | none => .stuck
      | some ρ' => noX ((evT Δ cd ρ' st).bind fun k st => if k then (evE Δ el ρ' st).bind fun w st => .ok (some w.d) st else .ok none st)) ds st).bind fun ds st => .ok (.fr ds) st else .stuck) := by rw [evE] <;> rfl
theorem evE_alloc (Δ : Dl) (e : T) (ρ : Lc) (st : Store) : evE Δ (.alloc e) ρ st = ((evE Δ e ρ st).bind fun w st => match w with
    | .fr ds => .ok (.v (.ref st.length)) (st ++ [.lst ds])
    | _ => .stuck) := by rw [evE] <;> rfl
theorem evE_dnew (Δ : Dl)  (ρ : Lc) (st : Store) : evE Δ (.dnew) ρ st = (.ok (.v (.ref st.length)) (st ++ [.dic []])
) := by rw [evE] <;> rfl
theorem evE_dget (Δ : Dl) (o : T) (k : T) (x : T) (ρ : Lc) (st : Store) : evE Δ (.dget o k x) ρ st = ((evE Δ o ρ st).bind fun a st => if (dicD st a.d).isSome then (evE Δ k ρ st).bind fun y st => (evE Δ x ρ st).bind fun z st => opDget a.d y.d z.d st else .stuck
) := by rw [evE] <;> rfl
theorem evE_dset (Δ : Dl) (o : T) (k : T) (x : T) (ρ : Lc) (st : Store) : evE Δ (.dset o k x) ρ st = ((evE Δ o ρ st).bind fun a st => if (dicD st a.d).isSome then (evE Δ k ρ st).bind fun y st => (evE Δ x ρ st).bind fun z st => opDset a.d y.d z.d st else .stuck
) := by rw [evE] <;> rfl
theorem evE_lcL (Δ : Dl) (own : List Nat) (tg : T) (i : Nat) (cd : T) (el : T) (ρ : Lc) (st : Store) : evE Δ (.lcL own tg i cd el) ρ st = (match listAt (ρ.get i) st with
    | some (n, ds) => if ds.length ≤ big then (lcG (gdL n ds) (fun d st => match tgt tg d (ρ.wipe own) with
      | none => .stuck
      | some ρ' => noX ((evT Δ cd ρ' st).bind fun k st => if k then (evE Δ el ρ' st).bind fun w st => .ok (some w.d) st else .ok none st)) ds st).bind fun ds st => .ok (.fr ds) st else .stuck
    | none => .stuck) := by rw [evE] <;> rfl
theorem evE_sit (Δ : Dl) (a : T) (ρ : Lc) (st : Store) : evE Δ (.sit a) ρ st = ((evE Δ a ρ st).bind fun x st => opSit x.d st
) := by rw [evE] <;> rfl
theorem evE_itN (Δ : Dl) (a : T) (ρ : Lc) (st : Store) : evE Δ (.itN a) ρ st = ((evI Δ a ρ st).bind fun ds st => if ds.length ≤ big then .ok (.v (.tup ds)) st else .stuck
) := by rw [evE] <;> rfl
theorem evEs_nil (Δ : Dl)  (ρ : Lc) (st : Store) : evEs Δ (.nil) ρ st = (.ok [] st
) := by rw [evEs] <;> rfl
theorem evEs_cons (Δ : Dl) (h : T) (t : T) (ρ : Lc) (st : Store) : evEs Δ (.cons h t) ρ st = ((evE Δ h ρ st).bind fun w st => (evEs Δ t ρ st).bind fun ds st => .ok (w.d :: ds) st
) := by rw [evEs] <;> rfl
theorem evT_bl (Δ : Dl) (b : Bool) (ρ : Lc) (st : Store) : evT Δ (.bl b) ρ st = (.ok b st
) := by rw [evT] <;> rfl
theorem evT_not (Δ : Dl) (a : T) (ρ : Lc) (st : Store) : evT Δ (.not a) ρ st = ((evT Δ a ρ st).bind fun b st => .ok (!b) st
) := by rw [evT] <;> rfl
theorem evT_and (Δ : Dl) (a : T) (b : T) (ρ : Lc) (st : Store) : evT Δ (.and a b) ρ st = ((evT Δ a ρ st).bind fun k st => if k then evT Δ b ρ st else .ok false st
) := by rw [evT] <;> rfl
theorem evT_or (Δ : Dl) (a : T) (b : T) (ρ : Lc) (st : Store) : evT Δ (.or a b) ρ st = ((evT Δ a ρ st).bind fun k st => if k then .ok true st else evT Δ b ρ st
) := by rw [evT] <;> rfl
theorem evT_cmp (Δ : Dl) (o : CmpOp) (a : T) (b : T) (ρ : Lc) (st : Store) : evT Δ (.cmp o a b) ρ st = ((evE Δ a ρ st).bind fun x st => (evE Δ b ρ st).bind fun y st => cmpB o x.d y.d st
) := by rw [evT] <;> rfl
theorem evT_chain (Δ : Dl) (o : CmpOp) (o' : CmpOp) (a : T) (b : T) (c : T) (ρ : Lc) (st : Store) : evT Δ (.chain o o' a b c) ρ st = ((evE Δ a ρ st).bind fun x st => (evE Δ b ρ st).bind fun y st => (cmpB o x.d y.d st).bind fun k st =>
      if k then (evE Δ c ρ st).bind fun z st => cmpB o' y.d z.d st else .ok false st) := by rw [evT] <;> rfl
theorem evP_no (Δ : Dl)  (ρ : Lc) (st : Store) : evP Δ (.no) ρ st = (.ok none st
) := by rw [evP] <;> rfl
theorem evI_itE (Δ : Dl) (e : T) (ρ : Lc) (st : Store) : evI Δ (.itE e) ρ st = ((evE Δ e ρ st).bind fun w st => match w.d with
    | .tup ds => .ok ds st
    | .lst ds => .ok ds st
    | _ => .stuck) := by rw [evI] <;> rfl
theorem evI_itZ (Δ : Dl) (a : T) (b : T) (ρ : Lc) (st : Store) : evI Δ (.itZ a b) ρ st = ((evE Δ a ρ st).bind fun x st => (evE Δ b ρ st).bind fun y st => opZip x.d y.d st
) := by rw [evI] <;> rfl
theorem evI_itEn (Δ : Dl) (e : T) (ρ : Lc) (st : Store) : evI Δ (.itEn e) ρ st = ((evE Δ e ρ st).bind fun w st => match w.d with
    | .tup ds => .ok (enumD 0 ds) st
    | .lst ds => .ok (enumD 0 ds) st
    | _ => .stuck) := by rw [evI] <;> rfl
theorem evI_itR1 (Δ : Dl) (a : T) (ρ : Lc) (st : Store) : evI Δ (.itR1 a) ρ st = ((evE Δ a ρ st).bind fun w st => match w.d with
    | .int n => if -(2 ^ 62) ≤ n ∧ n < 2 ^ 62 then .ok (rng 0 n.toNat) st else .stuck
    | _ => .stuck) := by rw [evI] <;> rfl
theorem evI_itR2 (Δ : Dl) (a : T) (b : T) (ρ : Lc) (st : Store) : evI Δ (.itR2 a b) ρ st = ((evE Δ a ρ st).bind fun x st => (evE Δ b ρ st).bind fun y st => match x.d, y.d with
    | .int i, .int j => if -(2 ^ 62) ≤ i ∧ i < 2 ^ 62 ∧ -(2 ^ 62) ≤ j ∧ j < 2 ^ 62 then .ok (rng i (j - i).toNat) st else .stuck
    | _, _ => .stuck) := by rw [evI] <;> rfl
theorem evI_itR3 (Δ : Dl) (a : T) (b : T) (c : T) (ρ : Lc) (st : Store) : evI Δ (.itR3 a b c) ρ st = ((evE Δ a ρ st).bind fun x st => (evE Δ b ρ st).bind fun y st => (evE Δ c ρ st).bind fun z st => match x.d, y.d, z.d with
    | .int i, .int j, .int c => if -(2 ^ 40) ≤ i ∧ i < 2 ^ 40 ∧ -(2 ^ 40) ≤ j ∧ j < 2 ^ 40 ∧ c ≠ 0 ∧ -1000000 ≤ c ∧ c ≤ 1000000 then .ok (rngC i c (turns i j c)) st else .stuck
    | _, _, _ => .stuck) := by rw [evI] <;> rfl
theorem exS_set (Δ : Dl) (i : Nat) (e : T) (ρ : Lc) (st : Store) : exS Δ (.set i e) ρ st = (match evE Δ e ρ st with
    | .ok w st => .nx (ρ.put i w.d) st
    | .exc c fs st => .exc c fs ρ st
    | .stuck => .stuck) := by rw [exS] <;> rfl
theorem exS_unp (Δ : Dl) (is : List Nat) (e : T) (ρ : Lc) (st : Store) : exS Δ (.unp is e) ρ st = (match evE Δ e ρ st with
    | .ok w st => match tgt (.tgT is) w.d ρ with
      | some ρ => .nx ρ st
      | none => .stuck
    | .exc c fs st => .exc c fs ρ st
    | .stuck => .stuck) := by rw [exS] <;> rfl
theorem exS_par (Δ : Dl) (is : List Nat) (es : T) (ρ : Lc) (st : Store) : exS Δ (.par is es) ρ st = (match evEs Δ es ρ st with
    | .ok ds st => if ds.length = is.length then .nx (ρ.puts is ds) st else .stuck
    | .exc c fs st => .exc c fs ρ st
    | .stuck => .stuck) := by rw [exS] <;> rfl
theorem exS_unpF (Δ : Dl) (f : Nat) (k : Nat) (o : T) (x : T) (e : T) (ρ : Lc) (st : Store) : exS Δ (.unpF f k o x e) ρ st = (match (evE Δ e ρ st).bind fun w st => pairF w.d fun d d2 => (evE Δ o ρ st).bind fun u st => (setF Δ.flds u.d f d st).bind fun _ st => (evE Δ x ρ st).bind fun u st => setF Δ.flds u.d k d2 st with
    | .ok _ st => .nx ρ st
    | .exc c fs st => .exc c fs ρ st
    | .stuck => .stuck) := by rw [exS] <;> rfl
theorem exS_fset (Δ : Dl) (f : Nat) (o : T) (e : T) (ρ : Lc) (st : Store) : exS Δ (.fset f o e) ρ st = (match (evE Δ e ρ st).bind fun y st => (evE Δ o ρ st).bind fun x st => setF Δ.flds x.d f y.d st with
    | .ok _ st => .nx ρ st
    | .exc c fs st => .exc c fs ρ st
    | .stuck => .stuck) := by rw [exS] <;> rfl
theorem exS_iset (Δ : Dl) (o : T) (i : T) (e : T) (ρ : Lc) (st : Store) : exS Δ (.iset o i e) ρ st = (match (evE Δ e ρ st).bind fun y st => (evE Δ o ρ st).bind fun x st => (evE Δ i ρ st).bind fun z st => opSet x.d z.d y.d st with
    | .ok _ st => .nx ρ st
    | .exc c fs st => .exc c fs ρ st
    | .stuck => .stuck) := by rw [exS] <;> rfl
theorem exS_dput (Δ : Dl) (o : T) (k : T) (e : T) (ρ : Lc) (st : Store) : exS Δ (.dput o k e) ρ st = (match (evE Δ e ρ st).bind fun y st => (evE Δ o ρ st).bind fun x st => (evE Δ k ρ st).bind fun z st => opDput x.d z.d y.d st with
    | .ok _ st => .nx ρ st
    | .exc c fs st => .exc c fs ρ st
    | .stuck => .stuck) := by rw [exS] <;> rfl
theorem exS_iaug (Δ : Dl) (o : Operator) (a : T) (i : T) (e : T) (ρ : Lc) (st : Store) : exS Δ (.iaug o a i e) ρ st = (match (evE Δ a ρ st).bind fun x st => (evE Δ i ρ st).bind fun z st => (opAt x.d z.d st).bind fun v st => (evE Δ e ρ st).bind fun y st => (opAug o v y.d st).bind fun u st => opSet x.d z.d u st with
    | .ok _ st => .nx ρ st
    | .exc c fs st => .exc c fs ρ st
    | .stuck => .stuck) := by rw [exS] <;> rfl
theorem exS_forL (Δ : Dl) (tg : T) (i : Nat) (body : T) (ρ : Lc) (st : Store) : exS Δ (.forL tg i body) ρ st = (match listAt (ρ.get i) st with
    | some (n, ds) => forG (gdL n ds) (fun d ρ st => match tgt tg d ρ with
      | none => .stuck
      | some ρ => exSs Δ body ρ st) ds ρ st
    | none => .stuck) := by rw [exS] <;> rfl
theorem exS_aug (Δ : Dl) (o : Operator) (i : Nat) (e : T) (ρ : Lc) (st : Store) : exS Δ (.aug o i e) ρ st = (match ρ.get i with
    | some x => match (evE Δ e ρ st).bind fun y st => opAug o x y.d st with
      | .ok z st => .nx (ρ.put i z) st
      | .exc c fs st => .exc c fs ρ st
      | .stuck => .stuck
    | none => .stuck) := by rw [exS] <;> rfl
theorem exS_faug (Δ : Dl) (o : Operator) (f : Nat) (x : T) (e : T) (ρ : Lc) (st : Store) : exS Δ (.faug o f x e) ρ st = (match (evE Δ x ρ st).bind fun x st => match getF Δ.flds st x.d f with
      | some v => (evE Δ e ρ st).bind fun y st' => (opAug o v y.d st').bind fun z st'' => if clsId st x.d = clsId st'' x.d then setF Δ.flds x.d f z st'' else .stuck
      | none => .stuck with
    | .ok _ st => .nx ρ st
    | .exc c fs st => .exc c fs ρ st
    | .stuck => .stuck) := by rw [exS] <;> rfl
theorem exS_ex (Δ : Dl) (e : T) (ρ : Lc) (st : Store) : exS Δ (.ex e) ρ st = (match evE Δ e ρ st with
    | .ok _ st => .nx ρ st
    | .exc c fs st => .exc c fs ρ st
    | .stuck => .stuck) := by rw [exS] <;> rfl
theorem exS_ret (Δ : Dl) (e : T) (ρ : Lc) (st : Store) : exS Δ (.ret e) ρ st = (match evE Δ e ρ st with
    | .ok w st => .ret w st
    | .exc c fs st => .exc c fs ρ st
    | .stuck => .stuck) := by rw [exS] <;> rfl
theorem exS_retN (Δ : Dl)  (ρ : Lc) (st : Store) : exS Δ (.retN) ρ st = (.ret (.v .non) st
) := by rw [exS] <;> rfl
theorem exS_if_ (Δ : Dl) (c : T) (a : T) (b : T) (ρ : Lc) (st : Store) : exS Δ (.if_ c a b) ρ st = (match evT Δ c ρ st with
    | .ok k st => if k then exSs Δ a ρ st else exSs Δ b ρ st
    | .exc c fs st => .exc c fs ρ st
    | .stuck => .stuck) := by rw [exS] <;> rfl
theorem exS_for_ (Δ : Dl) (tg : T) (it : T) (body : T) (ρ : Lc) (st : Store) : exS Δ (.for_ tg it body) ρ st = (match evI Δ it ρ st with
    | .ok ds st => forM (fun d ρ st => match tgt tg d ρ with
      | none => .stuck
      | some ρ => exSs Δ body ρ st) ds ρ st
    | .exc c fs st => .exc c fs ρ st
    | .stuck => .stuck) := by rw [exS] <;> rfl
theorem exS_wh (Δ : Dl) (c : T) (body : T) (ρ : Lc) (st : Store) : exS Δ (.wh c body) ρ st = (whl (fun ρ st => evT Δ c ρ st) (fun ρ st => exSs Δ body ρ st) ρ st
) := by rw [exS] <;> rfl
theorem exS_pass (Δ : Dl)  (ρ : Lc) (st : Store) : exS Δ (.pass) ρ st = (.nx ρ st
) := by rw [exS] <;> rfl
theorem exS_brk (Δ : Dl)  (ρ : Lc) (st : Store) : exS Δ (.brk) ρ st = (.bk ρ st
) := by rw [exS] <;> rfl
theorem exS_rais (Δ : Dl) (c : Nat) (es : T) (ρ : Lc) (st : Store) : exS Δ (.rais c es) ρ st = (match evEs Δ es ρ st with
    | .ok ds st => if ds.length = (Δ.exf c).length then .exc c ((Δ.exf c).zip ds) ρ st else .stuck
    | .exc c fs st => .exc c fs ρ st
    | .stuck => .stuck) := by rw [exS] <;> rfl
theorem exS_try_ (Δ : Dl) (body : T) (hs : T) (ρ : Lc) (st : Store) : exS Δ (.try_ body hs) ρ st = (match exSs Δ body ρ st with
    | .exc c fs ρ st => exH Δ hs c fs ρ st
    | o => o) := by rw [exS] <;> rfl
theorem exSs_nil (Δ : Dl)  (ρ : Lc) (st : Store) : exSs Δ (.nil) ρ st = (.nx ρ st
) := by rw [exSs] <;> rfl
theorem exSs_forget (Δ : Dl) (is : List Nat) (t : T) (ρ : Lc) (st : Store) : exSs Δ (.cons (.forget is) t) ρ st = exSs Δ t (ρ.wipe is) st := by rw [exSs]
def plainT : T → Bool
  | .bl _ | .not _ | .and _ _ | .or _ _ | .cmp _ _ _ | .chain _ _ _ _ _ => false
  | _ => true
theorem evT_truth (Δ : Dl) (t : T) (h : plainT t = true) (ρ : Lc) (st : Store) : evT Δ t ρ st = (evE Δ t ρ st).bind fun w st => match truth st w.d with
    | some b => .ok b st
    | none => .stuck := by
  cases t <;> first | (simp [plainT] at h; done) | (rw [evT] <;> first | rfl | simp)
theorem evP_some (Δ : Dl) (t : T) (h : t ≠ .no) (ρ : Lc) (st : Store) : evP Δ t ρ st = (evE Δ t ρ st).bind fun w st => match w.d with
    | .int i => .ok (some i) st
    | _ => .stuck := by
  cases t <;> first | exact absurd rfl h | (rw [evP] <;> first | rfl | simp)
def notForget : T → Bool
  | .forget _ => false
  | _ => true
theorem exSs_cons (Δ : Dl) (h t : T) (hf : notForget h = true) (ρ : Lc) (st : Store) : exSs Δ (.cons h t) ρ st = match exS Δ h ρ st with
    | .nx ρ st => exSs Δ t ρ st
    | o => o := by
  cases h <;> first | (simp [notForget] at hf; done) | (rw [exSs] <;> first | rfl | simp)
theorem exH_nil (Δ : Dl) (c : Nat) (fs : List (Nat × D)) (ρ : Lc) (st : Store) : exH Δ .nil c fs ρ st = .exc c fs ρ st := by rw [exH] <;> rfl
theorem exH_cons (Δ : Dl) (k : Nat) (i : Option Nat) (b t : T) (c : Nat) (fs : List (Nat × D)) (ρ : Lc) (st : Store) : exH Δ (.cons (.hd k i b) t) c fs ρ st =
    if (Δ.exf c).isEmpty then .stuck else if Δ.sub c k then outN i (exSs { Δ with xn := some (c, fs) } b (ρ.wipe i.toList) st) else exH Δ t c fs ρ st := by rw [exH] <;> rfl
end Fw

/-! ## Fy4 -/
set_option Elab.async false
set_option linter.all false
set_option maxRecDepth 100000
set_option maxHeartbeats 8000000
/-! The checker is right: expressions. -/
namespace Fw
open PySem PySem.Spec PyProof.Rows L2

/-- what the whole text's tables stand for -/
structure Fa (P : Program) (w : World) (K : PySem.W.Frag) (mg : Str → Option Value) (base : Heap) (g : G) (ev : Ev) (Δ : Dl) (n : Nat) : Prop where
  hK : g.K = K
  nm : ∀ i, g.nm i = ev.nm i
  okF : ∀ i, g.okF i = ev.okF i
  lv : ∀ i, Δ.lv i = ev.lv i
  exf : ∀ i, Δ.exf i = ev.exf i
  fn : ∀ x f, ev.fnm.lookup x = some f → ∃ a, g.fn f = some a ∧ mg x = some (.ref a)
  fo : ∀ m f a, m ≤ n → g.fn f = some a → ev.lv f < m → FOk P w K mg base g m a (Δ.fns f)
  cs : ∀ x k, ev.csm.lookup x = some k → ∃ u v, mg x = some u ∧ RelV v u ∧ ∀ μ H, RV g μ μ H (Δ.cst k) v
  bl : ∀ b : B, mg (Str.ofString (bName b)) = none
  ty : ∀ k : Ty, mg (Str.ofString (tyName k)) = none
  isi : mg "isinstance" = none
  rg : mg "range" = none
  zp : mg "zip" = none
  en : mg "enumerate" = none
  cl : ClsOk K g Δ.flds
  nw : ∀ x c f, ev.clm.lookup x = some (c, f) → ∃ C a, g.cls c = some C ∧ mg x = some (.ref C) ∧ g.fn f = some a ∧ Mk K C a
  mt : ∀ c m f, ev.mtm.lookup (c, m) = some f → ∃ C a, g.cls c = some C ∧ g.fn f = some a ∧ Cls K C ∧ Meth K C (g.nm m) a
  ex : ExF K g Δ.exf Δ.sub ev.okx
  xm : ∀ x k, ev.exm.lookup x = some k → ev.okx k = true ∧ ∃ C, g.cls k = some C ∧ mg x = some (.ref C) ∧ (ev.exf k ≠ [] → XMk P w K mg C ((ev.exf k).map g.nm)) ∧ ∀ f ∈ ev.exf k, g.okF f = true
/-- what holds where an expression stands -/
structure Lx (X : Cx) (g : G) (ev : Ev) (Δ : Dl) (Wx : WX) (xa : XA) (xn : XN) (c : Ck) : Prop where
  fa : Fa X.prog X.w X.K X.mg X.base g ev Δ c.n
  N : X.N = c.N
  nd : c.N.Nodup
  sc : X.env.scope = c.sc
  kd : c.sc.kind = .function
  gu : X.A.guards = some []
  un : X.A.units + 128 < cLine
  cm : c.calm = true → X.calm = true ∧ Room c.n X.A
  tk : Takes X Wx
  fn : c.dl = true → ∀ x, X.fn x = true
  dlf : c.dl = true → X.stack = X.env :: X.outer ∧ X.env.frame = some X.env.locals ∧ PassesOwn (model X.prog X.w) X.A X.env X.xe
  es : ∀ i en, c.es = some (i, en) → ∃ (X' : Cx) (a : Addr) (oe : Obj) (pn : List (Addr × Obj)) (C dd : Addr) (k : Nat) (fs : List (Nat × D)), X = X'.suite a ((a, oe) :: pn) ∧ xa = some ((C, dd), a, i) ∧ xn = some (k, fs) ∧ Δ.xn = some (k, fs) ∧ Zc (.ref C) (some dd) oe ∧ ∃ vs, oe.data = .fields vs

theorem pe_eq {X : Cx} {g : G} {Wx : WX} {xa : XA} {xn : XN} {e : Expr} {m m' : Lc → Store → Res W} (h : ME X g Wx xa xn e m) (q : ∀ ρ st, m' ρ st = m ρ st) : ME X g Wx xa xn e m' := by
  have : m' = m := funext fun ρ => funext fun st => q ρ st
  rw [this]; exact h
theorem pt_eq {X : Cx} {g : G} {Wx : WX} {xa : XA} {xn : XN} {e : Expr} {m m' : Lc → Store → Res Bool} (h : MT X g Wx xa xn e m) (q : ∀ ρ st, m' ρ st = m ρ st) : MT X g Wx xa xn e m' := by
  have : m' = m := funext fun ρ => funext fun st => q ρ st
  rw [this]; exact h
theorem pw_eq {X : Cx} {g : G} {Wx : WX} {xa : XA} {xn : XN} {e : Expr} {m m' : Lc → Store → Res Bool} (h : MW X g Wx xa xn e m) (q : ∀ ρ st, m' ρ st = m ρ st) : MW X g Wx xa xn e m' := by
  have : m' = m := funext fun ρ => funext fun st => q ρ st
  rw [this]; exact h
theorem pa_eq {X : Cx} {g : G} {Wx : WX} {xa : XA} {xn : XN} {e : List Expr} {m m' : Lc → Store → Res (List D)} (h : MEs X g Wx xa xn e m) (q : ∀ ρ st, m' ρ st = m ρ st) : MEs X g Wx xa xn e m' := by
  have : m' = m := funext fun ρ => funext fun st => q ρ st
  rw [this]; exact h
theorem pp_eq {X : Cx} {g : G} {Wx : WX} {xa : XA} {xn : XN} {e : Option Expr} {m m' : Lc → Store → Res (Option Int)} (h : MP X g Wx xa xn e m) (q : ∀ ρ st, m' ρ st = m ρ st) : MP X g Wx xa xn e m' := by
  have : m' = m := funext fun ρ => funext fun st => q ρ st
  rw [this]; exact h
theorem pi_eq {X : Cx} {g : G} {Wx : WX} {xa : XA} {xn : XN} {tg e : Expr} {m m' : Lc → Store → Res (List D)} (h : MI X g Wx xa xn tg e m) (q : ∀ ρ st, m' ρ st = m ρ st) : MI X g Wx xa xn tg e m' := by
  have : m' = m := funext fun ρ => funext fun st => q ρ st
  rw [this]; exact h
theorem me_of_one {X : Cx} {g : G} {Wx : WX} {xa : XA} {xn : XN} {e : Expr} {m : Lc → Store → Res W} (h : ME X g Wx xa xn (one e) m) : ME X g Wx xa xn e m := by
  unfold one at h
  split at h
  · exact me_one h
  · exact h

section
variable {X : Cx} {g : G} {ev : Ev} {Δ : Dl} {Wx : WX} {xa : XA} {xn : XN} {c : Ck}
theorem Lx.gl (L : Lx X g ev Δ Wx xa xn c) {x : Str} (h : glB c.sc x = true) : Gl X x ∧ (x == ("__debug__" : Str)) = false := by
  simp only [glB, Bool.and_eq_true, beq_iff_eq, Bool.not_eq_true'] at h
  refine ⟨?_, h.2⟩
  show X.env.scope.names.lookup x = _
  rw [L.sc]; exact h.1
theorem Lx.vis (L : Lx X g ev Δ Wx xa xn c) {x : Str} (h : visB c.sc x = true) : Vis X.env.scope x ∧ (x == ("__debug__" : Str)) = false ∧ (x == ("__classdict__" : Str)) = false := by
  simp only [visB, Bool.and_eq_true, Bool.or_eq_true, beq_iff_eq, Bool.not_eq_true'] at h
  refine ⟨?_, h.1.2, h.2⟩
  unfold Vis
  rw [L.sc]
  rcases h.1.1 with (h | h) | h
  · exact .inl h
  · exact .inr (.inl h)
  · exact .inr (.inr h)
theorem Lx.slot (L : Lx X g ev Δ Wx xa xn c) {i : Nat} {x : Str} (h : slotB c i x = true) : X.N[i]? = some x := by
  rw [L.N]; simpa [slotB] using h
theorem Lx.ND (L : Lx X g ev Δ Wx xa xn c) : X.N.Nodup := by rw [L.N]; exact L.nd
theorem Lx.loc (L : Lx X g ev Δ Wx xa xn c) {x : Str} (h : locB c.sc x = true) : L2.Loc X.env.scope x := by
  simp only [locB, Bool.or_eq_true, beq_iff_eq] at h
  unfold L2.Loc
  rw [L.sc]; exact h
theorem Lx.pl (L : Lx X g ev Δ Wx xa xn c) {x : Str} (h : plB c.sc x = true) : X.env.scope.names.lookup x = some .local := by
  rw [L.sc]; simpa [plB] using h
theorem Lx.fnl (L : Lx X g ev Δ Wx xa xn c) {x : Str} (h : (c.dl || plB c.sc x) = true) : X.fn x = true ∨ X.env.scope.names.lookup x = some .local := by
  rcases Bool.or_eq_true_iff.mp h with h | h
  · exact .inl (L.fn h x)
  · exact .inr (L.pl h)
theorem args_ok {es : List Expr} (h : argsB es = true) : es.all notStar = true ∧ es.length < 30 := by
  simpa [argsB] using h
theorem Lx.un64 (L : Lx X g ev Δ Wx xa xn c) : X.A.units + 64 < cLine := by have := L.un; omega

/-! ### the targets -/
theorem pg_nm (L : Lx X g ev Δ Wx xa xn c) {i : Nat} {x : Str} {p : Pos} (h : (slotB c i x && locB c.sc x && (c.dl || plB c.sc x)) = true) : PG X (.Name x p) (gName i) := by
  simp only [Bool.and_eq_true] at h
  exact pg_name L.ND (L.slot h.1.1) (L.loc h.1.2) (L.fnl h.2)
theorem pgs_nm (L : Lx X g ev Δ Wx xa xn c) : ∀ {is : List Nat} {xs : List Expr}, okGs c is xs = true → PGs X xs (gNames is) ∧ xs.length = is.length
  | [], [], _ => ⟨pgs_nil, rfl⟩
  | i :: is, .Name x p :: xs, h => by
    simp only [okGs, Bool.and_eq_true] at h
    obtain ⟨a, b⟩ := pgs_nm L h.2
    exact ⟨pgs_cons (pg_name L.ND (L.slot h.1.1.1) (L.loc h.1.1.2) (L.fnl h.1.2)) a, by simp [b]⟩
  | [], _ :: _, h => by simp [okGs] at h
theorem okG_ok (L : Lx X g ev Δ Wx xa xn c) {t : T} {e : Expr} (h : okG c t e = true) : PG X e (tG g none none t) := by
  unfold okG at h
  split at h
  · simp only [Bool.and_eq_true] at h
    exact mg_N L.ND (L.slot h.1.1) (L.loc h.1.2) (L.fnl h.2)
  · simp only [Bool.and_eq_true] at h
    obtain ⟨a, b⟩ := pgs_nm L h.2
    have z := asg_len (env := X.env) h.1.2
    exact mg_T L.fa.hK (L.cm h.1.1).1 a (by rw [z.1, b]) z.2
  · cases h
end
end Fw

/-! ## Fy5 -/
set_option Elab.async false
set_option linter.all false
set_option maxRecDepth 100000
set_option maxHeartbeats 16000000
/-! The checker is right: expressions, one after another. -/
namespace Fw
open PySem PySem.Spec PyProof.Rows L2

structure SndE (ev : Ev) (f : Nat) : Prop where
  E : ∀ {X : Cx} {g : G} {Δ : Dl} {Wx : WX} {xa : XA} {xn : XN} {c : Ck} {t : T} {e : Expr}, okE ev f c t e = true → Lx X g ev Δ Wx xa xn c → ME X g Wx xa xn e (evE Δ t)
  B : ∀ {X : Cx} {g : G} {Δ : Dl} {Wx : WX} {xa : XA} {xn : XN} {c : Ck} {own : List Nat} {tg cd el : T} {x y : Expr} {ifs : List Expr} {s : Scope}, okB ev f c own tg cd el x y ifs s = true → Lx X g ev Δ Wx xa xn c →
    ∀ V : Cx → WX → Prop, (∀ Y W, V Y W → Takes Y W) → Blk X g y x ifs s (ownOf c.N own) tg (evT Δ cd) (evE Δ el) V ∧ (ownOf c.N own).map (·.2) = own
  Es : ∀ {X : Cx} {g : G} {Δ : Dl} {Wx : WX} {xa : XA} {xn : XN} {c : Ck} {t : T} {e : List Expr}, okEs ev f c t e = true → Lx X g ev Δ Wx xa xn c → MEs X g Wx xa xn e (evEs Δ t)
  Tt : ∀ {X : Cx} {g : G} {Δ : Dl} {Wx : WX} {xa : XA} {xn : XN} {c : Ck} {t : T} {e : Expr}, okT ev f c t e = true → Lx X g ev Δ Wx xa xn c → MT X g Wx xa xn e (evT Δ t)
  Ww : ∀ {X : Cx} {g : G} {Δ : Dl} {Wx : WX} {xa : XA} {xn : XN} {c : Ck} {t : T} {a : Bool} {e : List Expr} {p : Pos}, okW ev f c a t e = true → Lx X g ev Δ Wx xa xn c → MW X g Wx xa xn (.BoolOp (if a then .And else .Or) e p) (evT Δ t)
  P : ∀ {X : Cx} {g : G} {Δ : Dl} {Wx : WX} {xa : XA} {xn : XN} {c : Ck} {t : T} {e : Option Expr}, okP ev f c t e = true → Lx X g ev Δ Wx xa xn c → MP X g Wx xa xn e (evP Δ t)
  I : ∀ {X : Cx} {g : G} {Δ : Dl} {Wx : WX} {xa : XA} {xn : XN} {c : Ck} {t : T} {tg e : Expr}, okI ev f c t tg e = true → Lx X g ev Δ Wx xa xn c → MI X g Wx xa xn tg e (evI Δ t)

theorem snd0 (ev : Ev) : SndE ev 0 where
  E := fun h _ => Bool.noConfusion (show false = true from h)
  B := fun h _ => Bool.noConfusion (show false = true from h)
  Es := fun h _ => Bool.noConfusion (show false = true from h)
  Tt := fun h _ => Bool.noConfusion (show false = true from h)
  Ww := fun h _ => Bool.noConfusion (show false = true from h)
  P := fun h _ => Bool.noConfusion (show false = true from h)
  I := fun h _ => Bool.noConfusion (show false = true from h)

section
variable {ev : Ev} {f : Nat} {X : Cx} {g : G} {Δ : Dl} {Wx : WX} {xa : XA} {xn : XN} {c : Ck} {t : T} {e : Expr}
theorem snd_T (S : SndE ev f) (h : okT ev (f + 1) c t e = true) (L : Lx X g ev Δ Wx xa xn c) : MT X g Wx xa xn e (evT Δ t) := by
  unfold okT at h
  split at h
  · exact pt_eq (mt_not (S.Tt h L)) fun ρ st => evT_not ..
  · simp only [Bool.and_eq_true] at h
    exact pt_eq (mw_and (S.Tt h.1 L) (S.Ww (a := true) h.2 L)).pt fun ρ st => evT_and ..
  · simp only [Bool.and_eq_true] at h
    exact pt_eq (mw_or (S.Tt h.1 L) (S.Ww (a := false) h.2 L)).pt fun ρ st => evT_or ..
  · simp only [Bool.and_eq_true, beq_iff_eq, Bool.not_eq_true'] at h
    obtain ⟨⟨⟨rfl, h2⟩, h3⟩, h4⟩ := h
    exact pt_eq (mt_cmp L.fa.hK L.un64 (S.E h2 L) (S.E h3 L) h4) fun ρ st => evT_cmp ..
  · simp only [Bool.and_eq_true, beq_iff_eq, Bool.not_eq_true'] at h
    obtain ⟨⟨⟨⟨⟨rfl, rfl⟩, h2⟩, h3⟩, h4⟩, h5⟩ := h
    exact pt_eq (mt_chain L.fa.hK L.un64 (S.E h2 L) (S.E h3 L) (S.E h4 L) h5) fun ρ st => evT_chain ..
  · cases h
  · cases h
  · cases h
  · cases h
  · cases h
  · rename_i h1 h2 h3 h4 h5 _ _ _ _ _
    simp only [Bool.and_eq_true] at h
    have me := S.E h.2 L
    have mt := mt_truth L.fa.hK me fun w => test_ok h.1 w
    by_cases hb : plainT t = true
    · exact pt_eq mt fun ρ st => evT_truth Δ t hb ρ st
    · cases t <;> first | exact absurd rfl hb | (exfalso; first | exact h1 _ rfl | exact h2 _ _ rfl | exact h3 _ _ rfl | exact h4 _ _ _ rfl | exact h5 _ _ _ _ _ rfl) | skip
      refine pt_eq mt fun ρ st => ?_
      rw [evT_bl, evE_bl]
      rfl
theorem snd_W (S : SndE ev f) {a : Bool} {es : List Expr} {p : Pos} (h : okW ev (f + 1) c a t es = true) (L : Lx X g ev Δ Wx xa xn c) : MW X g Wx xa xn (.BoolOp (if a then .And else .Or) es p) (evT Δ t) := by
  unfold okW at h
  split at h
  · cases a with
    | true => exact mw_and1 (S.Tt h L)
    | false => exact mw_or1 (S.Tt h L)
  · split at h
    · simp only [Bool.and_eq_true] at h
      exact pw_eq (mw_and (S.Tt h.1 L) (S.Ww (a := true) h.2 L)) fun ρ st => evT_and ..
    · simp only [Bool.and_eq_true] at h
      exact pw_eq (mw_or (S.Tt h.1 L) (S.Ww (a := false) h.2 L)) fun ρ st => evT_or ..
    · cases h
  · cases h
theorem snd_Es (S : SndE ev f) {es : List Expr} (h : okEs ev (f + 1) c t es = true) (L : Lx X g ev Δ Wx xa xn c) : MEs X g Wx xa xn es (evEs Δ t) := by
  unfold okEs at h
  split at h
  · exact pa_eq mes_nil fun ρ st => evEs_nil ..
  · simp only [Bool.and_eq_true] at h
    exact pa_eq (mes_cons (S.E h.1.2 L) (S.Es h.2 L) (star_ok h.1.1)) fun ρ st => evEs_cons ..
  · cases h
theorem snd_P (S : SndE ev f) {o : Option Expr} (h : okP ev (f + 1) c t o = true) (L : Lx X g ev Δ Wx xa xn c) : MP X g Wx xa xn o (evP Δ t) := by
  unfold okP at h
  split at h
  · exact pp_eq mp_none fun ρ st => evP_no ..
  · cases h
  · rename_i hn
    exact pp_eq (mp_some (S.E h L)) fun ρ st => evP_some Δ t (fun z => hn z) ρ st
  · cases h
theorem snd_I (S : SndE ev f) {tg : Expr} (h : okI ev (f + 1) c t tg e = true) (L : Lx X g ev Δ Wx xa xn c) : MI X g Wx xa xn tg e (evI Δ t) := by
  unfold okI at h
  split at h
  · exact pi_eq (mi_E L.fa.hK (S.E h L)) fun ρ st => evI_itE ..
  · simp only [Bool.and_eq_true, beq_iff_eq] at h
    obtain ⟨⟨⟨rfl, h2⟩, h3⟩, h4⟩ := h
    exact pi_eq (mi_R1 (L.gl h2).1 L.fa.rg (S.E h4 L) (star_ok h3)) fun ρ st => evI_itR1 ..
  · simp only [Bool.and_eq_true, beq_iff_eq] at h
    obtain ⟨⟨⟨⟨⟨rfl, h2⟩, h3⟩, h4⟩, h5⟩, h6⟩ := h
    exact pi_eq (mi_R2 (L.gl h2).1 L.fa.rg (S.E h5 L) (S.E h6 L) (by rw [star_ok h3, star_ok h4]; rfl) (by rw [star_ok h4]; rfl)) fun ρ st => evI_itR2 ..
  · simp only [Bool.and_eq_true, beq_iff_eq] at h
    obtain ⟨⟨⟨⟨⟨⟨⟨rfl, h2⟩, h3⟩, h4⟩, h5⟩, h6⟩, h7⟩, h8⟩ := h
    exact pi_eq (mi_R3 (L.gl h2).1 L.fa.rg (S.E h6 L) (S.E h7 L) (S.E h8 L) (star_ok h3) (star_ok h4) (star_ok h5) (star_any (by simp [h4, h5]))) fun ρ st => evI_itR3 ..
  · simp only [Bool.and_eq_true, beq_iff_eq] at h
    obtain ⟨⟨⟨⟨rfl, h2⟩, h3⟩, h5⟩, h7⟩ := h
    split at h7
    · exact pi_eq (mi_En L.fa.hK (L.gl h2).1 L.fa.en (S.E h5 L) (star_ok h3)) fun ρ st => evI_itEn ..
    · cases h7
  · simp only [Bool.and_eq_true, beq_iff_eq] at h
    obtain ⟨⟨⟨⟨⟨⟨rfl, h2⟩, h3⟩, h4⟩, h5⟩, h6⟩, h7⟩ := h
    split at h7
    · exact pi_eq (mi_Z L.fa.hK (L.gl h2).1 L.fa.zp (S.E h5 L) (S.E h6 L) (star_ok h3) (star_ok h4) (star_any (by simp [h4]))) fun ρ st => evI_itZ ..
    · cases h7
  · cases h
end
end Fw

/-! ## Fy6 -/
set_option Elab.async false
set_option linter.all false
set_option maxRecDepth 100000
set_option maxHeartbeats 16000000
/-! The checker is right: expressions. -/
namespace Fw
open PySem PySem.Spec PyProof.Rows L2
section
variable {ev : Ev} {f : Nat} {X : Cx} {g : G} {Δ : Dl} {Wx : WX} {xa : XA} {xn : XN} {c : Ck} {t : T} {e : Expr}
theorem ownOf_map {N : List Str} {own : List Nat} (h : (ownOf N own).map (·.2) = own) : (ownOf N own).map (·.2) = own := h
/-- a block's own context -/
theorem Lx.blk (L : Lx X g ev Δ Wx xa xn c) {s : Shared} {H : Hp} {C : Addr} {cl : List (Str × Addr)} {fp : List Addr} {xe : Value → Shared → Prop} {sc : Scope} {W : WX} (hk : sc.kind = .function) (tk : Takes (blx X s H sc (compEnvC sc cl C X.env) fp xe) W) :
    Lx (blx X s H sc (compEnvC sc cl C X.env) fp xe) g ev Δ W none none (c.blk sc) where
  fa := L.fa
  N := L.N
  nd := L.nd
  sc := by
    show relabel sc X.env = relS sc c.sc
    rw [← L.sc]; rfl
  kd := hk
  gu := L.gu
  un := L.un
  cm := L.cm
  tk := tk
  fn := fun h => by cases h
  dlf := fun h => by cases h
  es := fun _ _ h => by cases h
theorem snd_B (S : SndE ev f) {own : List Nat} {tg cd el : T} {x y : Expr} {ifs : List Expr} {s : Scope} (h : okB ev (f + 1) c own tg cd el x y ifs s = true) (L : Lx X g ev Δ Wx xa xn c)
    (V : Cx → WX → Prop) (hV : ∀ Y W, V Y W → Takes Y W) : Blk X g y x ifs s (ownOf c.N own) tg (evT Δ cd) (evE Δ el) V ∧ (ownOf c.N own).map (·.2) = own := by
  unfold okB at h
  simp only [Bool.and_eq_true, beq_iff_eq] at h
  obtain ⟨⟨⟨⟨⟨h1, h2⟩, h3⟩, h4⟩, h5⟩, h6⟩ := h
  have hb : BlkOk X.N X.env.scope s (ownOf c.N own) := by
    rw [L.N, L.sc]
    exact blkOk_by h1
  refine ⟨⟨hb, fun j hj => ?_, fun s0 H C cl fp xe W hv => okG_ok (L.blk hb.kind (hV _ _ hv)) h4, fun s0 H C cl fp xe W hv => ?_, fun s0 H C cl fp xe W hv => S.E h5 (L.blk hb.kind (hV _ _ hv))⟩, h2⟩
  · rw [h2]
    have := List.all_eq_true.mp h3 j hj
    simpa using this
  · have L' := L.blk (s := s0) (H := H) (C := C) (cl := cl) (fp := fp) (xe := xe) hb.kind (hV _ _ hv)
    split at h6
    · have : cd = .bl true := by simpa using h6
      subst this
      refine ⟨fun pins s1 σ H1 Q I hw => pts_nil.run pins s1 σ H1 Q I ?_⟩
      obtain ⟨ρ, μ, st, hs, post⟩ := hw
      rw [evT_bl] at post
      exact post true μ μ H1 .refl ⟨rfl, rfl, hs.rs⟩
    · exact pts_one (S.Tt h6 L')
    · cases h6
theorem snd_E1 (S : SndE ev f) (h : okE ev (f + 1) c t e = true) (L : Lx X g ev Δ Wx xa xn c) : ME X g Wx xa xn e (evE Δ t) := by
  refine me_of_one ?_
  unfold okE at h
  generalize one e = e at h ⊢
  have hK := L.fa.hK
  split at h
  · -- var
    simp only [Bool.and_eq_true] at h
    have v := L.vis h.2
    exact pe_eq (me_var (L.slot h.1) v.1 v.2.1 v.2.2) fun ρ st => evE_var ..
  · have := eq_of_beq h
    subst this
    exact pe_eq me_int fun ρ st => evE_int ..
  · have := eq_of_beq h
    subst this
    exact pe_eq me_bl fun ρ st => evE_bl ..
  · have := eq_of_beq h
    subst this
    exact pe_eq me_str fun ρ st => evE_str ..
  · exact pe_eq me_non fun ρ st => evE_non ..
  · -- cst
    simp only [Bool.and_eq_true, beq_iff_eq] at h
    obtain ⟨u, v, h1, h2, h3⟩ := L.fa.cs _ _ h.2
    have gl := L.gl h.1
    exact pe_eq (me_glob gl.1 h1 h2 h3 gl.2) fun ρ st => evE_cst ..
  · -- fnv
    simp only [Bool.and_eq_true, beq_iff_eq] at h
    obtain ⟨a, h1, h2⟩ := L.fa.fn _ _ h.2
    have gl := L.gl h.1
    exact pe_eq (me_glob (v := .ref a) gl.1 h2 rfl (fun μ H => .fn h1) gl.2) fun ρ st => evE_fnv ..
  · -- efld
    split at h
    · rename_i i en' hes
      simp only [Bool.and_eq_true, beq_iff_eq] at h
      obtain ⟨⟨⟨⟨rfl, h2⟩, h3⟩, h4⟩, h5⟩ := h
      obtain ⟨X', a, oe, pn, C, dd, kk, fs, rfl, rfl, rfl, hx, hz, hf⟩ := L.es _ _ hes
      have v := L.vis h3
      refine pe_eq (me_efld (X := X') (exf := Δ.exf) L.fa.ex (by rw [h4, L.fa.nm]) (by rw [L.fa.okF]; exact h5) hz hf (L.slot h2) v.1 v.2.1 v.2.2 (base_ok rfl)) fun ρ st => ?_
      rw [evE_efld, hx] <;> rfl
    · cases h
  · -- eisi
    split at h
    · rename_i i en' hes
      simp only [Bool.and_eq_true, beq_iff_eq] at h
      obtain ⟨⟨⟨⟨⟨⟨rfl, rfl⟩, h2⟩, h3⟩, h4⟩, h5⟩, h6⟩ := h
      obtain ⟨X', a, oe, pn, C, dd, kk, fs, rfl, rfl, rfl, hx, hz, hf⟩ := L.es _ _ hes
      have v := L.vis h3
      obtain ⟨o1, Ck, o2, o3, o4, o5⟩ := L.fa.xm _ _ h6
      refine pe_eq (me_eisi (X := X') (exf := Δ.exf) (sub := Δ.sub) L.fa.ex o1 o2 hz hf (L.slot h2) v.1 v.2.1 v.2.2 (L.gl h4).1 L.fa.isi (L.gl h5).1 o3 (L.gl h5).2) fun ρ st => ?_
      rw [evE_eisi, hx]
    · cases h
  · simp only [Bool.and_eq_true, beq_iff_eq] at h
    obtain ⟨⟨rfl, h2⟩, h3⟩ := h
    exact pe_eq (me_bin hK (S.E h2 L) (S.E h3 L)) fun ρ st => evE_bin ..
  · exact pe_eq (me_neg (S.E h L)) fun ρ st => evE_neg ..
  · exact pe_eq (me_not hK (S.E h L)) fun ρ st => evE_not ..
  · simp only [Bool.and_eq_true] at h
    exact pe_eq (me_and hK (S.E h.1 L) (S.E h.2 L)) fun ρ st => evE_and ..
  · simp only [Bool.and_eq_true] at h
    exact pe_eq (me_or hK (S.E h.1 L) (S.E h.2 L)) fun ρ st => evE_or ..
  · simp only [Bool.and_eq_true, beq_iff_eq, Bool.not_eq_true'] at h
    obtain ⟨⟨⟨rfl, h2⟩, h3⟩, h4⟩ := h
    exact pe_eq (me_cmp hK L.un64 (S.E h2 L) (S.E h3 L) h4) fun ρ st => evE_cmp ..
  · simp only [Bool.and_eq_true, beq_iff_eq, Bool.not_eq_true'] at h
    obtain ⟨⟨⟨⟨⟨rfl, rfl⟩, h2⟩, h3⟩, h4⟩, h5⟩ := h
    exact pe_eq (me_chain hK L.un64 (S.E h2 L) (S.E h3 L) (S.E h4 L) h5) fun ρ st => evE_chain ..
  · simp only [Bool.and_eq_true] at h
    exact pe_eq (me_ite (S.Tt h.1.1 L) (S.E h.1.2 L) (S.E h.2 L)) fun ρ st => evE_ite ..
  · exact pe_eq (me_tup (S.Es h L)) fun ρ st => evE_tup ..
  · exact pe_eq (me_lst (S.Es h L)) fun ρ st => evE_lst ..
  · -- call
    simp only [Bool.and_eq_true, beq_iff_eq, decide_eq_true_eq] at h
    obtain ⟨⟨⟨⟨⟨h1, h2⟩, h3⟩, h4⟩, h5⟩, h6⟩ := h
    obtain ⟨a, q1, q2⟩ := L.fa.fn _ _ h3
    have F := L.fa.fo c.n _ a (Nat.le_refl _) q1 h4
    have gl := L.gl h2
    have ar := args_ok h5
    have ms := S.Es h6 L
    rename_i k es x xp xs pos
    cases xs with
    | nil =>
      refine pe_eq (me_call0 F L.gu (L.cm h1).2 L.tk gl.1 q2 gl.2) fun ρ st => ?_
      have hes : es = .nil := by
        cases f with
        | zero => cases h6
        | succ f =>
          unfold okEs at h6
          split at h6
          · rfl
          · rename_i hh; cases hh
          · cases h6
      rw [evE_call, hes, evEs_nil]
    | cons y ys =>
      have nn := ar.1
      simp only [List.all_cons, Bool.and_eq_true] at nn
      exact pe_eq (me_call F L.gu (L.cm h1).2 L.tk gl.1 q2 ms gl.2 (star_ok nn.1) (star_any nn.2)) fun ρ st => evE_call ..
  · -- callv
    simp only [Bool.and_eq_true, decide_eq_true_eq, Bool.not_eq_true'] at h
    obtain ⟨⟨⟨⟨⟨⟨h1, h2⟩, h3⟩, h4⟩, h5⟩, h6⟩, h7⟩ := h
    have ar := args_ok h4
    have ms := S.Es h7 L
    rename_i n gg es hh xs pos
    cases xs with
    | nil => cases h5
    | cons y ys =>
      have nn := ar.1
      simp only [List.all_cons, Bool.and_eq_true] at nn
      refine pe_eq (me_callv (fns := Δ.fns) (lv := Δ.lv) (n := n) (fun i a q1 q2 => L.fa.fo n i a h3 q1 (by rw [← L.fa.lv]; exact q2)) L.gu ((L.cm h1).2.mono h3) L.tk (S.E h6 L) ms (call_sub h2) (star_ok nn.1) (star_any nn.2)) fun ρ st => ?_
      rw [evE_callv] <;> rfl
  · -- new
    simp only [Bool.and_eq_true, beq_iff_eq, decide_eq_true_eq] at h
    obtain ⟨⟨⟨⟨⟨h1, h2⟩, h3⟩, h4⟩, h5⟩, h6⟩ := h
    obtain ⟨C, a, q1, q2, q3, q4⟩ := L.fa.nw _ _ _ h3
    have F := L.fa.fo (c.n - 1) _ a (by omega) q3 (by omega)
    have hr : Room (c.n - 1 + 1) X.A := (L.cm h1).2.mono (by omega)
    have gl := L.gl h2
    have ar := args_ok h5
    have ms := S.Es h6 L
    rename_i k gg es x xp xs pos
    cases xs with
    | nil =>
      refine pe_eq (me_new0 q1 q4 F L.gu hr L.tk gl.1 q2 gl.2) fun ρ st => ?_
      have hes : es = .nil := by
        cases f with
        | zero => cases h6
        | succ f =>
          unfold okEs at h6
          split at h6
          · rfl
          · rename_i hh; cases hh
          · cases h6
      rw [evE_new, hes, evEs_nil]
      rfl
    | cons y ys =>
      have nn := ar.1
      simp only [List.all_cons, Bool.and_eq_true] at nn
      exact pe_eq (me_new q1 q4 F L.gu hr L.tk gl.1 q2 ms gl.2 (star_ok nn.1) (star_any nn.2)) fun ρ st => evE_new ..
  · -- meth
    simp only [Bool.and_eq_true, beq_iff_eq, decide_eq_true_eq] at h
    obtain ⟨⟨⟨⟨⟨⟨⟨⟨⟨h1, h2⟩, h3⟩, h4⟩, h5⟩, h6⟩, h7⟩, h8⟩, h9⟩, h10⟩ := h
    obtain ⟨C, a, q1, q2, q3, q4⟩ := L.fa.mt _ _ _ h4
    have F := L.fa.fo c.n _ a (Nat.le_refl _) q2 h5
    have ar := args_ok h7
    have ms := S.Es h10 L
    rename_i k m gg o es hh n ap xs p
    have hn : n = g.nm m := by rw [h2, L.fa.nm]
    have hx := mcall_eq (o := hh) (name := n) (apos := ap) (pos := p) (args := xs) (env := X.env) (star_form ar.1 ar.2) (by simpa using h8)
    rw [base_ok h6] at hx
    cases xs with
    | nil =>
      refine pe_eq (me_meth0 q1 hn (by rw [L.fa.okF]; exact h3) q3 (by rw [hn]; exact q4) F L.gu (L.cm h1).2 L.tk (S.E h9 L) hx) fun ρ st => ?_
      have hes : es = .nil := by
        cases f with
        | zero => cases h10
        | succ f =>
          unfold okEs at h10
          split at h10
          · rfl
          · rename_i hh; cases hh
          · cases h10
      rw [evE_meth, hes]
      simp only [evEs_nil]
      rfl
    | cons y ys =>
      have nn := ar.1
      simp only [List.all_cons, Bool.and_eq_true] at nn
      refine pe_eq (me_meth q1 hn (by rw [L.fa.okF]; exact h3) q3 (by rw [hn]; exact q4) F L.gu (L.cm h1).2 L.tk (S.E h9 L) ms (star_ok nn.1) (star_any nn.2) hx) fun ρ st => evE_meth ..
  · -- isi
    simp only [Bool.and_eq_true, beq_iff_eq] at h
    obtain ⟨⟨⟨⟨⟨rfl, h2⟩, rfl⟩, h4⟩, h5⟩, h6⟩ := h
    exact pe_eq (me_isi hK _ (L.gl h2).1 L.fa.isi (L.gl h4).1 (L.fa.ty _) (S.E h6 L) (star_ok h5)) fun ρ st => evE_isi ..
  · -- blt
    simp only [Bool.and_eq_true, beq_iff_eq, Bool.not_eq_true'] at h
    obtain ⟨⟨⟨⟨⟨h1, rfl⟩, h3⟩, h4⟩, h5⟩, h6⟩ := h
    have ar := args_ok h4
    have ms := S.Es h6 L
    rename_i b es xp xs pos
    cases xs with
    | nil => cases h5
    | cons y ys =>
      have nn := ar.1
      simp only [List.all_cons, Bool.and_eq_true] at nn
      exact pe_eq (me_blt hK (L.cm h1).1 L.gu L.un b (L.gl h3).1 (L.fa.bl b) ms (star_ok nn.1) (star_any nn.2)) fun ρ st => evE_blt ..
  · -- append
    simp only [Bool.and_eq_true, beq_iff_eq] at h
    obtain ⟨⟨⟨⟨⟨rfl, h2⟩, h3⟩, h4⟩, h5⟩, h6⟩ := h
    exact pe_eq (me_append (base_ok h2) (S.E h5 L) (S.Es h6 L) (by simpa using h3) (star_ok h4)) fun ρ st => evE_bm ..
  · -- bit_length
    simp only [Bool.and_eq_true, beq_iff_eq] at h
    obtain ⟨⟨⟨rfl, h2⟩, h3⟩, h4⟩ := h
    refine pe_eq (me_bitlen (base_ok h2) (S.E h4 L) (by simpa using h3)) fun ρ st => ?_
    rw [evE_bm]
    simp only [evEs_nil]
  · simp only [Bool.and_eq_true] at h
    exact pe_eq (me_idx hK L.un64 (S.E h.1.2 L) (S.E h.2 L) (plainIx_ok h.1.1)) fun ρ st => evE_idx ..
  · simp only [Bool.and_eq_true] at h
    exact pe_eq (me_sl hK (S.E h.1.1 L) (S.P h.1.2 L) (S.P h.2 L)) fun ρ st => evE_sl ..
  · -- rev
    simp only [Bool.and_eq_true] at h
    refine pe_eq (me_rev hK (S.E h.1 L) (mp_some (S.E h.2 L))) fun ρ st => ?_
    rw [evE_rev]
    congr 1
    funext x st1
    rw [evE_neg, evE_int]
    rfl
  · -- fld
    simp only [Bool.and_eq_true, beq_iff_eq] at h
    exact pe_eq (me_fld L.fa.cl (by rw [h.1.1, L.fa.nm]) (S.E h.2 L) (base_ok h.1.2)) fun ρ st => evE_fld ..
  · exact pe_eq (me_alloc (S.E h L)) fun ρ st => evE_alloc ..
  · -- lc
    simp only [Bool.and_eq_true] at h
    obtain ⟨⟨⟨⟨h1, h2⟩, h3⟩, h4⟩, h5⟩ := h
    obtain ⟨B, hB⟩ := S.B h5 L Takes (fun _ _ z => z)
    have d := L.dlf h2
    have := me_lc (pos := ‹Pos›) d.1 d.2.1 L.tk (L.cm h1).1 L.ND (S.I h4 L) B (fold_ok h3)
    rw [hB] at this
    exact pe_eq this fun ρ st => evE_lc ..
  · -- lcq
    simp only [Bool.and_eq_true] at h
    obtain ⟨⟨⟨h1, h3⟩, h4⟩, h5⟩ := h
    obtain ⟨B, hB⟩ := S.B h5 L Quiet (fun _ _ z => by rw [z]; exact takes_W0)
    have := me_lcq (pos := ‹Pos›) (L.cm h1).1 L.ND (S.I h4 L) B (fold_ok h3)
    rw [hB] at this
    exact pe_eq this fun ρ st => evE_lcq ..
  · exact pe_eq me_dnew fun ρ st => evE_dnew ..
  · -- get
    simp only [Bool.and_eq_true, beq_iff_eq] at h
    obtain ⟨⟨⟨⟨⟨⟨⟨rfl, h2⟩, h3⟩, h4⟩, h5⟩, h6⟩, h7⟩, h8⟩ := h
    exact pe_eq (me_dget (by have := L.un; omega) (S.E h6 L) (S.E h7 L) (S.E h8 L) ⟨base_ok h2, by rw [star_ok h4, star_ok h5]; rfl, by simpa using h3, by rw [star_ok h4, star_ok h5]; rfl⟩) fun ρ st => evE_dget ..
  · -- setdefault
    simp only [Bool.and_eq_true, beq_iff_eq] at h
    obtain ⟨⟨⟨⟨⟨⟨⟨rfl, h2⟩, h3⟩, h4⟩, h5⟩, h6⟩, h7⟩, h8⟩ := h
    exact pe_eq (me_dset (S.E h6 L) (S.E h7 L) (S.E h8 L) ⟨base_ok h2, by rw [star_ok h4, star_ok h5]; rfl, by simpa using h3, by rw [star_ok h4, star_ok h5]; rfl⟩) fun ρ st => evE_dset ..
  · -- lcL
    simp only [Bool.and_eq_true] at h
    obtain ⟨⟨⟨h1, h3⟩, h4⟩, h5⟩ := h
    obtain ⟨B, hB⟩ := S.B h5 L Quiet (fun _ _ z => by rw [z]; exact takes_W0)
    split at h4
    · simp only [Bool.and_eq_true] at h4
      have v := L.vis h4.2
      exact pe_eq (me_lcL hB (L.cm h1).1 L.ND (me_var (L.slot h4.1) v.1 v.2.1 v.2.2) B (fold_ok h3)) fun ρ st => evE_lcL ..
    · cases h4
  · -- sorted(d.items())
    simp only [Bool.and_eq_true, beq_iff_eq] at h
    obtain ⟨⟨⟨⟨⟨⟨h1, rfl⟩, h2⟩, rfl⟩, h3⟩, h4⟩, h5⟩ := h
    exact pe_eq (me_sit hK (L.cm h1).1 L.un (L.gl h2).1 (L.fa.bl .sorted_) (base_ok h3) (S.E h5 L) (by simpa using h4)) fun ρ st => evE_sit ..
  · -- tuple(range(..))
    simp only [Bool.and_eq_true, beq_iff_eq] at h
    obtain ⟨⟨⟨⟨⟨⟨⟨⟨⟨⟨h1, rfl⟩, h2⟩, rfl⟩, h3⟩, h4⟩, h5⟩, h6⟩, h7⟩, h8⟩, h9⟩ := h
    exact pe_eq (me_tupR3 (L.cm h1).1 (L.gl h2).1 (L.fa.bl .tuple_) (L.gl h3).1 L.fa.rg (S.E h7 L) (S.E h8 L) (S.E h9 L) (star_ok h4) (star_ok h5) (star_ok h6) (star_any (by simp [h5, h6])) (star_ok rfl)) fun ρ st => by rw [evE_itN, evI_itR3] <;> rfl
  · cases h
theorem sndE (ev : Ev) : ∀ f, SndE ev f
  | 0 => snd0 ev
  | f + 1 => ⟨snd_E1 (sndE ev f), snd_B (sndE ev f), snd_Es (sndE ev f), snd_T (sndE ev f), snd_W (sndE ev f), snd_P (sndE ev f), snd_I (sndE ev f)⟩
end
end Fw

/-! ## Fy7 -/
set_option Elab.async false
set_option linter.all false
set_option maxRecDepth 100000
set_option maxHeartbeats 16000000
/-! The checker is right: statements. -/
namespace Fw
open PySem PySem.Spec PyProof.Rows L2

theorem ps_eq {X : Cx} {g : G} {Wx : WX} {xa : XA} {xn : XN} {s : Stmt} {m m' : Lc → Store → Out} (h : MS X g Wx xa xn s m) (q : ∀ ρ st, m' ρ st = m ρ st) : MS X g Wx xa xn s m' := by
  have : m' = m := funext fun ρ => funext fun st => q ρ st
  rw [this]; exact h
theorem pss_eq {X : Cx} {g : G} {Wx : WX} {xa : XA} {xn : XN} {s : List Stmt} {m m' : Lc → Store → Out} (h : MSs X g Wx xa xn s m) (q : ∀ ρ st, m' ρ st = m ρ st) : MSs X g Wx xa xn s m' := by
  have : m' = m := funext fun ρ => funext fun st => q ρ st
  rw [this]; exact h
section
variable (Δ : Dl) (ρ : Lc) (st : Store)
theorem xS_set (i : Nat) (e : T) : exS Δ (.set i e) ρ st = stp (evE Δ e ρ st) ρ fun w st => .nx (ρ.put i w.d) st := by rw [exS_set]; cases evE Δ e ρ st <;> rfl
theorem xS_unp (is : List Nat) (e : T) : exS Δ (.unp is e) ρ st = stp (evE Δ e ρ st) ρ fun w st => match tgt (.tgT is) w.d ρ with | some ρ => .nx ρ st | none => .stuck := by rw [exS_unp]; cases evE Δ e ρ st <;> rfl
theorem xS_par (is : List Nat) (es : T) : exS Δ (.par is es) ρ st = stp (evEs Δ es ρ st) ρ fun ds st => if ds.length = is.length then .nx (ρ.puts is ds) st else .stuck := by rw [exS_par]; cases evEs Δ es ρ st <;> rfl
theorem xS_unpF (f k : Nat) (o x e : T) : exS Δ (.unpF f k o x e) ρ st = stp ((evE Δ e ρ st).bind fun w st => pairF w.d fun d d2 => (evE Δ o ρ st).bind fun u st => (setF Δ.flds u.d f d st).bind fun _ st => (evE Δ x ρ st).bind fun u st => setF Δ.flds u.d k d2 st) ρ fun _ st => .nx ρ st := by
  rw [exS_unpF]; cases (evE Δ e ρ st).bind fun w st => pairF w.d fun d d2 => (evE Δ o ρ st).bind fun u st => (setF Δ.flds u.d f d st).bind fun _ st => (evE Δ x ρ st).bind fun u st => setF Δ.flds u.d k d2 st <;> rfl
theorem xS_fset (f : Nat) (o e : T) : exS Δ (.fset f o e) ρ st = stp ((evE Δ e ρ st).bind fun y st => (evE Δ o ρ st).bind fun x st => setF Δ.flds x.d f y.d st) ρ fun _ st => .nx ρ st := by
  rw [exS_fset]; cases (evE Δ e ρ st).bind fun y st => (evE Δ o ρ st).bind fun x st => setF Δ.flds x.d f y.d st <;> rfl
theorem xS_iset (o i e : T) : exS Δ (.iset o i e) ρ st = stp ((evE Δ e ρ st).bind fun y st => (evE Δ o ρ st).bind fun x st => (evE Δ i ρ st).bind fun z st => opSet x.d z.d y.d st) ρ fun _ st => .nx ρ st := by
  rw [exS_iset]; cases (evE Δ e ρ st).bind fun y st => (evE Δ o ρ st).bind fun x st => (evE Δ i ρ st).bind fun z st => opSet x.d z.d y.d st <;> rfl
theorem xS_dput (o i e : T) : exS Δ (.dput o i e) ρ st = stp ((evE Δ e ρ st).bind fun y st => (evE Δ o ρ st).bind fun x st => (evE Δ i ρ st).bind fun z st => opDput x.d z.d y.d st) ρ fun _ st => .nx ρ st := by
  rw [exS_dput]; cases (evE Δ e ρ st).bind fun y st => (evE Δ o ρ st).bind fun x st => (evE Δ i ρ st).bind fun z st => opDput x.d z.d y.d st <;> rfl
theorem xS_iaug (o : Operator) (a i e : T) : exS Δ (.iaug o a i e) ρ st = stp ((evE Δ a ρ st).bind fun x st => (evE Δ i ρ st).bind fun z st => (opAt x.d z.d st).bind fun v st => (evE Δ e ρ st).bind fun y st => (opAug o v y.d st).bind fun u st => opSet x.d z.d u st) ρ fun _ st => .nx ρ st := by
  rw [exS_iaug]; cases (evE Δ a ρ st).bind fun x st => (evE Δ i ρ st).bind fun z st => (opAt x.d z.d st).bind fun v st => (evE Δ e ρ st).bind fun y st => (opAug o v y.d st).bind fun u st => opSet x.d z.d u st <;> rfl
theorem xS_aug (o : Operator) (i : Nat) (e : T) : exS Δ (.aug o i e) ρ st = match ρ.get i with | some x => stp ((evE Δ e ρ st).bind fun y st => opAug o x y.d st) ρ fun z st => .nx (ρ.put i z) st | none => .stuck := by
  rw [exS_aug]
  cases ρ.get i with
  | none => rfl
  | some x => dsimp only; cases (evE Δ e ρ st).bind fun y st => opAug o x y.d st <;> rfl
theorem xS_faug (o : Operator) (f : Nat) (x e : T) : exS Δ (.faug o f x e) ρ st = stp ((evE Δ x ρ st).bind fun x st => match getF Δ.flds st x.d f with
      | some v => (evE Δ e ρ st).bind fun y st' => (opAug o v y.d st').bind fun z st'' => if clsId st x.d = clsId st'' x.d then setF Δ.flds x.d f z st'' else .stuck
      | none => .stuck) ρ fun _ st => .nx ρ st := by
  rw [exS_faug]
  cases (evE Δ x ρ st).bind fun x st => match getF Δ.flds st x.d f with
      | some v => (evE Δ e ρ st).bind fun y st' => (opAug o v y.d st').bind fun z st'' => if clsId st x.d = clsId st'' x.d then setF Δ.flds x.d f z st'' else .stuck
      | none => .stuck
  all_goals rfl
theorem xS_ex (e : T) : exS Δ (.ex e) ρ st = stp (evE Δ e ρ st) ρ fun _ st => .nx ρ st := by rw [exS_ex]; cases evE Δ e ρ st <;> rfl
theorem xS_ret (e : T) : exS Δ (.ret e) ρ st = stp (evE Δ e ρ st) ρ fun w st => .ret w st := by rw [exS_ret]; cases evE Δ e ρ st <;> rfl
theorem xS_if (c a b : T) : exS Δ (.if_ c a b) ρ st = stp (evT Δ c ρ st) ρ fun k st => if k then exSs Δ a ρ st else exSs Δ b ρ st := by rw [exS_if_]; cases evT Δ c ρ st <;> rfl
theorem xS_for (tg it b : T) : exS Δ (.for_ tg it b) ρ st = stp (evI Δ it ρ st) ρ fun ds st => forM (fun d ρ st => match tgt tg d ρ with | none => .stuck | some ρ => exSs Δ b ρ st) ds ρ st := by rw [exS_for_]; cases evI Δ it ρ st <;> rfl
theorem xS_rais (k : Nat) (es : T) : exS Δ (.rais k es) ρ st = stp (evEs Δ es ρ st) ρ fun ds st => if ds.length = (Δ.exf k).length then .exc k ((Δ.exf k).zip ds) ρ st else .stuck := by rw [exS_rais]; cases evEs Δ es ρ st <;> rfl
end
structure SndS (ev : Ev) (f : Nat) : Prop where
  S : ∀ {X : Cx} {g : G} {Δ : Dl} {Wx : WX} {xa : XA} {xn : XN} {c : Ck} {t : T} {s : Stmt}, okS ev f c t s = true → Lx X g ev Δ Wx xa xn c → MS X g Wx xa xn s (exS Δ t)
  Ss : ∀ {X : Cx} {g : G} {Δ : Dl} {Wx : WX} {xa : XA} {xn : XN} {c : Ck} {t : T} {s : List Stmt}, okSs ev f c t s = true → Lx X g ev Δ Wx xa xn c → MSs X g Wx xa xn s (exSs Δ t)
  H : ∀ {X : Cx} {g : G} {Δ : Dl} {Wx : WX} {xa : XA} {xn : XN} {c : Ck} {t : T} {hs : List ExceptHandler}, okH ev f c t hs = true → Lx X g ev Δ Wx xa xn c → c.calm = true → ∃ l : List Hd, HdM X g ev.okx hs l ∧ ∀ k fs ρ st, exH Δ t k fs ρ st = hdO Δ.exf Δ.sub l k fs ρ st
theorem sndS0 (ev : Ev) : SndS ev 0 where
  S := fun h _ => Bool.noConfusion (show false = true from h)
  Ss := fun h _ => Bool.noConfusion (show false = true from h)
  H := fun h _ => Bool.noConfusion (show false = true from h)
section
variable {ev : Ev} {f : Nat} {X : Cx} {g : G} {Δ : Dl} {Wx : WX} {xa : XA} {xn : XN} {c : Ck} {t : T}
/-- behind the first statement -/
theorem Lx.rest (L : Lx X g ev Δ Wx xa xn c) : Lx X g ev Δ Wx none none c.rest :=
  ⟨L.fa, L.N, L.nd, L.sc, L.kd, L.gu, L.un, L.cm, L.tk, L.fn, L.dlf, fun _ _ h => by cases h⟩
/-- a try's body -/
theorem Lx.tr (L : Lx X g ev Δ Wx xa xn c) (hdl : c.dl = true) {pn : List (Addr × Obj)} {xe : Value → Shared → Prop} {W : WX} (tk : Takes (X.tr pn xe) W) (po : PassesOwn (model X.prog X.w) X.A X.env xe) : Lx (X.tr pn xe) g ev Δ W none none c.rest :=
  ⟨L.fa, L.N, L.nd, L.sc, L.kd, L.gu, L.un, L.cm, tk, L.fn, fun h => ⟨(L.dlf h).1, (L.dlf h).2.1, po⟩, fun _ _ h => by cases h⟩
theorem Fa.withX {P : Program} {w : World} {K : PySem.W.Frag} {mg : Str → Option Value} {base : Heap} {n : Nat} (F : Fa P w K mg base g ev Δ n) (z : XN) : Fa P w K mg base g ev { Δ with xn := z } n :=
  ⟨F.hK, F.nm, F.okF, F.lv, F.exf, F.fn, F.fo, F.cs, F.bl, F.ty, F.isi, F.rg, F.zp, F.en, F.cl, F.nw, F.mt, F.ex, F.xm⟩
/-- a suite -/
theorem Lx.suite (L : Lx X g ev Δ Wx xa xn c) {a : Addr} {oe : Obj} {pn : List (Addr × Obj)} {k : Nat} {fs : List (Nat × D)} : Lx (X.suite a ((a, oe) :: pn)) g ev { Δ with xn := some (k, fs) } W0 none none (c.suite none) :=
  ⟨L.fa.withX _, L.N, L.nd, L.sc, L.kd, L.gu, L.un, (fun h => by cases h), takes_W0, (fun h => by cases h), (fun h => by cases h), (fun _ _ h => by cases h)⟩
theorem Lx.suiteN (L : Lx X g ev Δ Wx xa xn c) {a : Addr} {oe : Obj} {pn : List (Addr × Obj)} {k : Nat} {fs : List (Nat × D)} {C dd : Addr} {i : Nat} {en : Str} (hz : Zc (.ref C) (some dd) oe) (hf : ∃ vs, oe.data = .fields vs) :
    Lx (X.suite a ((a, oe) :: pn)) g ev { Δ with xn := some (k, fs) } W0 (some ((C, dd), a, i)) (some (k, fs)) (c.suite (some (i, en))) :=
  ⟨L.fa.withX _, L.N, L.nd, L.sc, L.kd, L.gu, L.un, (fun h => by cases h), takes_W0, (fun h => by cases h), (fun h => by cases h), fun i' en' h => by
    cases h
    exact ⟨X, a, oe, pn, C, dd, k, fs, rfl, rfl, rfl, rfl, hz, hf⟩⟩
theorem nf_of {h : T} (h1 : ∀ is, h = .forget is → False) : notForget h = true := by
  cases h <;> first | rfl | exact (h1 _ rfl).elim
theorem snd_Ss (S : SndS ev f) {ss : List Stmt} (h : okSs ev (f + 1) c t ss = true) (L : Lx X g ev Δ Wx xa xn c) : MSs X g Wx xa xn ss (exSs Δ t) := by
  unfold okSs at h
  split at h
  · exact pss_eq mss_nil fun ρ st => exSs_nil ..
  · exact pss_eq (mss_forget (S.Ss h L)) fun ρ st => exSs_forget ..
  · rename_i h1
    simp only [Bool.and_eq_true] at h
    refine pss_eq (mss_cons (S.S h.1 L) (S.Ss h.2 L.rest)) fun ρ st => ?_
    rw [exSs_cons _ _ _ (nf_of h1)]
    unfold seqO
    cases exS Δ _ ρ st <;> rfl
  · cases h
theorem snd_H (S : SndS ev f) {hs : List ExceptHandler} (h : okH ev (f + 1) c t hs = true) (L : Lx X g ev Δ Wx xa xn c) (hc : c.calm = true) : ∃ l : List Hd, HdM X g ev.okx hs l ∧ ∀ k fs ρ st, exH Δ t k fs ρ st = hdO Δ.exf Δ.sub l k fs ρ st := by
  unfold okH at h
  split at h
  · exact ⟨[], .nil, fun k fs ρ st => exH_nil ..⟩
  · simp only [Bool.and_eq_true, beq_iff_eq] at h
    obtain ⟨⟨⟨h1, h2⟩, h3⟩, h4⟩ := h
    obtain ⟨l, hl, q⟩ := S.H h4 L hc
    obtain ⟨o1, Ck, o2, o3, o4, o5⟩ := L.fa.xm _ _ h2
    have gl := L.gl h1
    refine ⟨⟨_, none, fun k fs => exSs { Δ with xn := some (k, fs) } _⟩ :: l, .plain ⟨gl.1, gl.2, .inl o3⟩ o2 o1 (fun a oe C dd pn k fs hz hf => S.Ss h3 L.suite) hl, fun k fs ρ st => ?_⟩
    rw [exH_cons]
    unfold hdO
    rw [q]
  · simp only [Bool.and_eq_true, beq_iff_eq] at h
    obtain ⟨⟨⟨⟨⟨h1, h2⟩, h3⟩, h4⟩, h5⟩, h6⟩ := h
    obtain ⟨l, hl, q⟩ := S.H h6 L hc
    obtain ⟨o1, Ck, o2, o3, o4, o5⟩ := L.fa.xm _ _ h2
    have gl := L.gl h1
    refine ⟨⟨_, some _, fun k fs => exSs { Δ with xn := some (k, fs) } _⟩ :: l, .named ⟨gl.1, gl.2, .inl o3⟩ o2 o1 (L.slot h3) (L.pl h4) (fun a oe C dd pn k fs hz hf => S.Ss h5 (L.suiteN hz hf)) hl, fun k fs ρ st => ?_⟩
    rw [exH_cons]
    unfold hdO
    rw [q]
  · cases h

theorem swap_lc {elt : Expr} {gs : List Comprehension} {s : Scope} {pos px : Pos} {x : Str} {l : Nat} {env : Env} (hk : env.scope.kind = .function) (h : swapName (.ListComp elt gs s pos) x px env.scope = b) : swapsWith (.ListComp elt gs s pos) (some (.Name x px)) l env = pure b := by
  have hb : env.blockKind = .function := by unfold Env.blockKind; rw [hk]; rfl
  have h1 : (env.blockKind == .function) = true := by rw [hb]; rfl
  unfold swapName at h
  rw [hk] at h
  unfold swapsWith
  dsimp only
  rw [h1]
  subst h
  rfl
theorem sole_tup {ts : List Expr} {k : Nat} {p : Pos} {v : Expr} {l : Nat} {env : Env} : swapsWithSole [.Tuple ts k p] v l env = pure false := by
  show swapsWith v (some (.Tuple ts k p)) l env = pure false
  exact swap_other rfl
theorem sole_sub {o i : Expr} {p : Pos} {v : Expr} {l : Nat} {env : Env} : swapsWithSole [.Subscript o i p] v l env = pure false := by
  show swapsWith v (some (.Subscript o i p)) l env = pure false
  exact swap_other rfl
theorem lc_parts {own : List Nat} {tg it cd el : T} {elt : Expr} {gs : List Comprehension} {s : Scope} {pos : Pos} (h : okE ev f c (.lc own tg it cd el) (.ListComp elt gs s pos) = true) :
    ∃ f' y z ifs, gs = [⟨y, z, ifs, 0⟩] ∧ notSet z = true ∧ okI ev f' c it y z = true ∧ okB ev f' c own tg cd el elt y ifs s = true := by
  cases f with
  | zero => exact Bool.noConfusion (show false = true from h)
  | succ f =>
    unfold okE at h
    rw [show one (.ListComp elt gs s pos) = .ListComp elt gs s pos from rfl] at h
    generalize ht : T.lc own tg it cd el = t at h
    generalize he : Expr.ListComp elt gs s pos = e at h
    split at h <;> first | (cases ht; done) | (cases h; done) | skip
    all_goals (try cases ht)
    all_goals (try cases he)
    simp only [Bool.and_eq_true] at h
    exact ⟨f, _, _, _, rfl, h.1.1.2, h.1.2, h.2⟩
theorem snd_S (S : SndS ev f) {s : Stmt} (h : okS ev (f + 1) c t s = true) (L : Lx X g ev Δ Wx xa xn c) : MS X g Wx xa xn s (exS Δ t) := by
  unfold okS at h
  have E : ∀ {t : T} {e : Expr}, okE ev f c t e = true → ME X g Wx xa xn e (evE Δ t) := fun h => (sndE ev f).E h L
  have Tt : ∀ {t : T} {e : Expr}, okT ev f c t e = true → MT X g Wx xa xn e (evT Δ t) := fun h => (sndE ev f).Tt h L
  have Es : ∀ {t : T} {e : List Expr}, okEs ev f c t e = true → MEs X g Wx xa xn e (evEs Δ t) := fun h => (sndE ev f).Es h L
  have kd : X.env.scope.kind = .function := by rw [L.sc]; exact L.kd
  split at h
  · -- set
    simp only [Bool.and_eq_true] at h
    obtain ⟨⟨⟨⟨h1, h2⟩, h3⟩, h4⟩, h5⟩ := h
    rename_i i e x px v p
    simp only [Bool.or_eq_true, Bool.and_eq_true] at h5
    rcases h5 with (h5 | ⟨⟨⟨k1, k2⟩, k3⟩, k4⟩) | ⟨k1, k2⟩
    · exact ps_eq (ms_set L.ND (L.slot h1) (L.loc h2) (E h4) (swap_ok h5) (L.fnl h3)) fun ρ st => xS_set ..
    · -- on one line
      have d := L.dlf k2
      have main : ∀ {own : List Nat} {tg it cd el : Fw.T} {m : Lc → Store → Res W} {f'' : Nat}, okE ev f'' c (.lc own tg it cd el) v = true → (∀ σ H Q, tE g Wx xa xn m σ H Q → tE g Wx xa xn (evE Δ (.lc own tg it cd el)) σ H Q) →
          MS X g Wx xa xn (.Assign [.Name x px] v p) (fun ρ st => stp (m ρ st) ρ fun w st => .nx (ρ.put i w.d) st) := fun {own tg it cd el m f''} hok hm => by
        have k3' := k3
        unfold swapName at k3
        split at k3
        · rename_i elt gs s pos
          have hk3 : swapName (.ListComp elt gs s pos) x px X.env.scope = true := by rw [L.sc]; exact k3'
          obtain ⟨f', y, z, ifs, rfl, q1, q2, q3⟩ := lc_parts hok
          obtain ⟨B, hB⟩ := (sndE ev f').B q3 L Takes (fun _ _ z => z)
          simp only [Bool.and_eq_true, beq_iff_eq] at k3
          refine ms_lcA (own := ownOf c.N own) (fun σ H Q hq => ?_) (L.slot h1) (by rw [L.sc]; exact k3.1.1.2) (swap_lc kd hk3) d.1 d.2.1 L.tk (L.cm k1).1 L.ND ((sndE ev f').I q2 L) B (fold_ok q1)
          have := hm σ H Q hq
          rw [hB]
          have e : evE Δ (.lc own tg it cd el) = mLc tg own (evI Δ it) (evT Δ cd) (evE Δ el) := funext fun ρ => funext fun st => evE_lc ..
          rw [e] at this
          exact this
        · cases k3
      cases e with
      | lc own tg it cd el => exact ps_eq (main h4 fun _ _ _ z => z) fun ρ st => xS_set ..
      | alloc e2 =>
        cases e2 with
        | lc own tg it cd el =>
          have h4' : ∃ f'', okE ev f'' c (.lc own tg it cd el) v = true := by
            cases f with
            | zero => exact Bool.noConfusion (show false = true from h4)
            | succ f =>
              have k3' := k3
              unfold swapName at k3'
              split at k3'
              · exact ⟨f, h4⟩
              · cases k3'
          obtain ⟨f'', h4'⟩ := h4'
          refine ps_eq (main h4' (m := evE Δ (.alloc (.lc own tg it cd el))) fun σ H Q z => ?_) fun ρ st => xS_set ..
          have e : evE Δ (.alloc (.lc own tg it cd el)) = fun ρ st => (evE Δ (.lc own tg it cd el) ρ st).bind fun w st => match w with | .fr ds => .ok (.v (.ref st.length)) (st ++ [.lst ds]) | _ => .stuck := funext fun ρ => funext fun st => evE_alloc ..
          rw [e] at z
          exact alloc_tE z
        | _ => cases k4
      | _ => cases k4
    · split at k1
      · refine ps_eq (ms_set L.ND (L.slot h1) (L.loc h2) (E h4) (swap_lc kd ?_) (L.fnl h3)) fun ρ st => xS_set ..
        rw [L.sc]
        simpa using k2
      · cases k1
  · -- unp
    simp only [Bool.and_eq_true] at h
    obtain ⟨⟨⟨⟨h1, h2⟩, h3⟩, h4⟩, h5⟩ := h
    rename_i is e xs kt pt v p
    have hg : okG c.rest (.tgT is) (.Tuple xs kt pt) = true := by
      show (c.calm && xs.all notStar && okGs c.rest is xs) = true
      have : ∀ {is : List Nat} {xs : List Expr}, okGs c.rest is xs = okGs c is xs := by
        intro is
        induction is with
        | nil => intro xs; cases xs <;> rfl
        | cons i is ih =>
          intro xs
          cases xs with
          | nil => rfl
          | cons x xs =>
            cases x <;> first | rfl | (unfold okGs; rw [ih]; rfl)
      simp only [h1, h2, h3, this]; rfl
    have hw : swappedStores [.Tuple xs kt pt] v X.env = pure none := by
      split at h5
      · exact stores_ok L.sc L.kd (by simpa using h5)
      · rename_i hn
        refine tuple_ne ?_
        cases v <;> first | rfl | exact absurd rfl (hn _ _ _)
    exact ps_eq (ms_unp (E h4) (okG_ok L.rest hg) sole_tup hw rfl) fun ρ st => xS_unp ..
  · -- par2
    simp only [Bool.and_eq_true, bne_iff_ne, beq_iff_eq] at h
    obtain ⟨⟨⟨⟨⟨⟨⟨h1, h2⟩, h3⟩, h4⟩, h5⟩, h6⟩, h7⟩, h8⟩ := h
    refine ps_eq (ms_par2 (L.cm h1).1 L.ND (L.slot h2) (L.slot h3) h4 (L.pl h5) (L.pl h6) (Es h7) (stores_ok L.sc L.kd h8) sole_tup) fun ρ st => ?_
    rw [xS_par]
    rfl
  · -- par3
    simp only [Bool.and_eq_true, bne_iff_ne, beq_iff_eq] at h
    obtain ⟨⟨⟨⟨⟨⟨⟨⟨⟨⟨⟨h1, h2⟩, h3⟩, h3'⟩, h4⟩, h4'⟩, h4''⟩, h5⟩, h6⟩, h6'⟩, h7⟩, h8⟩ := h
    refine ps_eq (ms_par3 (L.cm h1).1 L.ND (L.slot h2) (L.slot h3) (L.slot h3') h4 h4' h4'' (L.pl h5) (L.pl h6) (L.pl h6') (Es h7) (stores_ok L.sc L.kd h8) sole_tup) fun ρ st => ?_
    rw [xS_par]
    rfl
  · -- unpF
    simp only [Bool.and_eq_true, beq_iff_eq] at h
    obtain ⟨⟨⟨⟨⟨⟨h1, h2⟩, h3⟩, h4⟩, h5⟩, h6⟩, h7⟩ := h
    rename_i hh nn pn hh2 nn2 pn2 kt pt v _
    have hw : swappedStores [.Tuple [.Attribute hh nn pn, .Attribute hh2 nn2 pn2] kt pt] v X.env = pure none := by
      split at h7
      · exact stores_ok L.sc L.kd (by simpa using h7)
      · rename_i hn
        refine tuple_ne ?_
        cases v <;> first | rfl | exact absurd rfl (hn _ _ _)
    exact ps_eq (ms_unpF L.fa.hK L.fa.cl (L.cm h1).1 (by rw [h2, L.fa.nm]) (by rw [h3, L.fa.nm]) (E h6) (E h4) (E h5) sole_tup hw) fun ρ st => xS_unpF ..
  · -- fset
    simp only [Bool.and_eq_true, beq_iff_eq] at h
    refine ps_eq (ms_fset L.fa.cl (by rw [h.1.1, L.fa.nm]) (E h.1.2) (E h.2) (swap_other (t := .Attribute _ _ _) rfl)) fun ρ st => xS_fset ..
  · -- iset
    simp only [Bool.and_eq_true] at h
    obtain ⟨⟨⟨h1, h2⟩, h3⟩, h4⟩ := h
    exact ps_eq (ms_iset (E h2) (E h3) (E h4) sole_sub sub_stores rfl (sub_assign h1)) fun ρ st => xS_iset ..
  · -- dput
    simp only [Bool.and_eq_true] at h
    obtain ⟨⟨h2, h3⟩, h4⟩ := h
    exact ps_eq (ms_dput (by have := L.un; omega) (E h2) (E h3) (E h4) (swap_other rfl)) fun ρ st => xS_dput ..
  · -- iaug
    simp only [Bool.and_eq_true, beq_iff_eq] at h
    obtain ⟨⟨⟨⟨rfl, h1⟩, h2⟩, h3⟩, h4⟩ := h
    exact ps_eq (ms_iaug (E h2) (E h3) (E h4) (aug_store h1)) fun ρ st => xS_iaug ..
  · -- forL
    simp only [Bool.and_eq_true] at h
    obtain ⟨⟨⟨⟨⟨h1, h2⟩, h3⟩, h4⟩, h5⟩, h6⟩ := h
    split at h4
    · simp only [Bool.and_eq_true] at h4
      have v := L.vis h4.2
      exact ps_eq (ms_forL (L.dlf h2).2.2 (L.cm h1).1 (me_var (L.slot h4.1) v.1 v.2.1 v.2.2) (okG_ok L.rest h5) (S.Ss h6 L.rest) (fold_ok h3)) fun ρ st => exS_forL ..
    · cases h4
  · -- aug
    simp only [Bool.and_eq_true, beq_iff_eq] at h
    obtain ⟨⟨⟨⟨rfl, h2⟩, h3⟩, h4⟩, h5⟩ := h
    exact ps_eq (ms_aug L.ND (L.slot h2) (L.loc h3) (E h5) (L.fnl h4)) fun ρ st => xS_aug ..
  · -- faug
    simp only [Bool.and_eq_true, beq_iff_eq] at h
    obtain ⟨⟨⟨rfl, h2⟩, h3⟩, h4⟩ := h
    exact ps_eq (ms_faug L.fa.cl (by rw [h2, L.fa.nm]) (E h3) (E h4)) fun ρ st => xS_faug ..
  · simp only [Bool.and_eq_true] at h
    exact ps_eq (ms_ex (E h.2) (swap_ok h.1)) fun ρ st => xS_ex ..
  · exact ps_eq (ms_ret (E h)) fun ρ st => xS_ret ..
  · exact ps_eq ms_retN fun ρ st => exS_retN ..
  · simp only [Bool.and_eq_true] at h
    exact ps_eq (ms_if (Tt h.1.1) (S.Ss h.1.2 L) (S.Ss h.2 L)) fun ρ st => xS_if ..
  · -- for
    simp only [Bool.and_eq_true] at h
    obtain ⟨⟨⟨⟨⟨h1, h2⟩, h3⟩, h4⟩, h5⟩, h6⟩ := h
    exact ps_eq (ms_for (L.dlf h2).2.2 (L.cm h1).1 ((sndE ev f).I h4 L) (okG_ok L.rest h5) (S.Ss h6 L.rest) (fold_ok h3)) fun ρ st => xS_for ..
  · -- while
    simp only [Bool.and_eq_true] at h
    exact ps_eq (ms_wh (L.dlf h.1.1).2.2 ((sndE ev f).Tt h.1.2 L.rest) (S.Ss h.2 L.rest)) fun ρ st => exS_wh ..
  · exact ps_eq ms_pass fun ρ st => exS_pass ..
  · exact ps_eq ms_brk fun ρ st => exS_brk ..
  · -- raise
    simp only [Bool.and_eq_true, beq_iff_eq, Bool.not_eq_true'] at h
    obtain ⟨⟨⟨⟨⟨⟨h1, h2⟩, h3⟩, h4⟩, h5⟩, h6⟩, h7⟩ := h
    obtain ⟨o1, C, o2, o3, o4, o5⟩ := L.fa.xm _ _ h3
    have gl := L.gl h2
    have ar := args_ok h5
    have ms := Es h7
    rename_i k es x xp xs pos p2
    cases xs with
    | nil => cases h6
    | cons y ys =>
      have nn := ar.1
      simp only [List.all_cons, Bool.and_eq_true] at nn
      refine ps_eq (ms_raise (c := k) (L.cm h1).1 o2 (o4 (by intro z; rw [z] at h4; cases h4)) o5 (L.cm h1).2 L.tk ms gl.1 o3 gl.2 (star_ok nn.1) (star_any nn.2)) fun ρ st => ?_
      rw [xS_rais, L.fa.exf]
  · -- try
    simp only [Bool.and_eq_true] at h
    obtain ⟨⟨⟨h1, h2⟩, h3⟩, h4⟩ := h
    obtain ⟨l, hl, q⟩ := S.H h4 L h1
    have d := L.dlf h2
    refine ps_eq (ms_try (exf := Δ.exf) (sub := Δ.sub) L.fa.ex d.1 d.2.1 L.ND L.tk (fun W pn xe tk po => S.Ss h3 (L.tr h2 tk po)) hl) fun ρ st => ?_
    rw [exS_try_]
    cases exSs Δ _ ρ st with
    | exc k fs ρ' st' => exact q k fs ρ' st'
    | _ => rfl
  · cases h
theorem sndS (ev : Ev) : ∀ f, SndS ev f
  | 0 => sndS0 ev
  | f + 1 => ⟨snd_S (sndS ev f), snd_Ss (sndS ev f), snd_H (sndS ev f)⟩
end
end Fw

/-! ## Fz1 -/
set_option Elab.async false
set_option linter.all false
set_option maxRecDepth 100000
set_option maxHeartbeats 16000000
/-! A def whose text is checked keeps its promise; what a call leaves behind. -/
namespace Fw
open PySem PySem.Spec PyProof.Rows L2

section
variable {g : G} {μ ν α α' : List Addr} {H : Hp}
mutual
theorem RV.cutN {n : Nat} (hn : n = μ.length) (hα : ∀ p ∈ α', p ∈ α) : ∀ {d : D} {v : V}, RV g (μ ++ ν) α H d v → below n d = true → RV g μ α' H d v
  | _, _, .non, _ => .non
  | _, _, .bl b, _ => .bl b
  | _, _, .int i, _ => .int i
  | _, _, .str x, _ => .str x
  | _, _, .tup h r, e => .tup (h.elim (fun z => .inl ⟨z.1, fun m => z.2 (hα _ m)⟩) .inr) (RVs.cutN hn hα r (by simpa [below] using e))
  | _, _, .lst h r, e => .lst ⟨h.1, fun m => h.2 (hα _ m)⟩ (RVs.cutN hn hα r (by simpa [below] using e))
  | _, _, .scr h r, e => .scr (h.elim (fun z => .inl ⟨z.1, fun m => z.2 (hα _ m)⟩) .inr) (RVs.cutN hn hα r (by simpa [below] using e))
  | _, _, .ref h, e => .ref (by
      simp only [below, decide_eq_true_eq] at e
      rwa [List.getElem?_append_left (by omega)] at h)
  | _, _, .fn h, _ => .fn h
theorem RVs.cutN {n : Nat} (hn : n = μ.length) (hα : ∀ p ∈ α', p ∈ α) : ∀ {ds : List D} {vs : List V}, RVs g (μ ++ ν) α H ds vs → belows n ds = true → RVs g μ α' H ds vs
  | _, _, .nil, _ => .nil
  | _, _, .cons h r, e => by
    simp only [belows, Bool.and_eq_true] at e
    exact .cons (RV.cutN hn hα h e.1) (RVs.cutN hn hα r e.2)
end
mutual
theorem RV.isBelow : ∀ {d : D} {v : V}, RV g μ α H d v → below μ.length d = true
  | _, _, .non => rfl
  | _, _, .bl b => rfl
  | _, _, .int i => rfl
  | _, _, .str x => rfl
  | _, _, .tup h r => by simpa [below] using RVs.isBelow r
  | _, _, .lst h r => by simpa [below] using RVs.isBelow r
  | _, _, .scr h r => by simpa [below] using RVs.isBelow r
  | _, _, .ref h => by
    have := (List.getElem?_eq_some_iff.mp h).1
    simpa [below] using this
  | _, _, .fn h => rfl
theorem RVs.isBelow : ∀ {ds : List D} {vs : List V}, RVs g μ α H ds vs → belows μ.length ds = true
  | _, _, .nil => rfl
  | _, _, .cons h r => by simp [belows, RV.isBelow h, RVs.isBelow r]
end
theorem RKs.isBelow : ∀ {r : List (Key × D)} {r' : List (Key × V)}, RKs g μ α H r r' → belows μ.length (r.map (·.2)) = true
  | _, _, .nil => rfl
  | _, _, .cons h r => by simp [belows, h.isBelow, RKs.isBelow r]
theorem RKs.cutN {n : Nat} (hn : n = μ.length) (hα : ∀ p ∈ α', p ∈ α) : ∀ {r : List (Key × D)} {r' : List (Key × V)}, RKs g (μ ++ ν) α H r r' → belows n (r.map (·.2)) = true → RKs g μ α' H r r'
  | _, _, .nil, _ => .nil
  | _, _, .cons h r, e => by
    simp only [List.map_cons, belows, Bool.and_eq_true] at e
    exact .cons (h.cutN hn hα e.1) (RKs.cutN hn hα r e.2)
theorem RO.isBelow {o : Ob} {a : Addr} (h : RO g μ α H o a) : belowO μ.length o = true := by
  cases h with
  | lst h1 h2 => exact h2.isBelow
  | ins h1 h2 h3 => exact h3.2.2.isBelow
  | dic h1 h2 => exact h2.isBelow
theorem RO.cutN {o : Ob} {a : Addr} {n : Nat} (hn : n = μ.length) (hα : ∀ p ∈ α', p ∈ α) (h : RO g (μ ++ ν) α H o a) (e : belowO n o = true) : RO g μ α' H o a := by
  cases h with
  | lst h1 h2 => exact .lst h1 (h2.cutN hn hα e)
  | ins h1 h2 h3 => exact .ins h1 h2 ⟨h3.1, h3.2.1, h3.2.2.cutN hn hα e⟩
  | dic h1 h2 => exact .dic h1 (h2.cutN hn hα e)
/-- what was new is forgotten -/
theorem RS.cutN {H0 : Hp} {st st' : Store} (h0 : RS g μ μ H0 st) (hα : ∀ p ∈ α', p ∈ α) (h : RS g (μ ++ ν) α H st') (ok : takeOk st st') : RS g μ α' H (st'.take st.length) := by
  have hl := h0.len
  refine ⟨by rw [List.length_take]; have := ok.1; omega, (List.nodup_append.mp h.nd).1, fun n o a e1 e2 => ?_⟩
  have hn : n < st.length := by
    have := (List.getElem?_eq_some_iff.mp e2).1
    omega
  rw [List.getElem?_take_of_lt hn] at e1
  have ro := h.ob n o a e1 (by rw [List.getElem?_append_left (by omega)]; exact e2)
  refine ro.cutN hl.symm.symm hα ?_
  rcases ok.2 n o hn e1 with z | z
  · have := (h0.ob n o a z e2).isBelow
    rw [hl]; exact this
  · exact z
/-- what a call hands out -/
theorem finish_rel {H0 : Hp} {st st' : Store} {w : W} {v : V} {μ' : List Addr} (h0 : RS g μ μ H0 st) (s : Step μ H0 μ' α' H) (r : relW g w st' v μ' α' H) :
    ∃ w2 st2 μ2 α2, finish st w st' = .ok w2 st2 ∧ Step μ H0 μ2 α2 H ∧ relW g w2 st2 v μ2 α2 H := by
  unfold finish
  by_cases ok : takeOk st st'
  · rw [if_pos ok]
    obtain ⟨ν, rfl⟩ := s.pre
    have hl := h0.len
    have s0 : Step μ H0 μ μ H := ⟨⟨[], by simp⟩, fun _ z => z, fun _ z => .inl z, s.keep, s.there⟩
    have sub : ∀ p ∈ μ, p ∈ α' := fun p hp => s.sub p (List.mem_append_left _ hp)
    have fresh : ∀ p, p ∈ α' → p ∉ μ → Step μ H0 μ (p :: μ) H := fun p h1 h2 => ⟨⟨[], by simp⟩, fun _ z => List.mem_cons_of_mem _ z, fun q hq => by
      rcases List.mem_cons.mp hq with z | z
      · rw [z]
        rcases s.new p h1 with z | z
        · exact absurd z h2
        · exact .inr z
      · exact .inl z, s.keep, s.there⟩
    cases w with
    | fr ds =>
      dsimp only
      by_cases hb : belows st.length ds = true
      · rw [if_pos hb]
        obtain ⟨p, xs, rfl, rfl, hp, e, rv, rs⟩ := r
        have hpμ : p ∉ μ := fun z => hp (List.mem_append_left _ z)
        have hα : ∀ q ∈ p :: μ, q ∈ p :: (μ ++ ν) := fun q hq => by
          rcases List.mem_cons.mp hq with z | z
          · rw [z]; exact List.mem_cons_self
          · exact List.mem_cons_of_mem _ (List.mem_append_left _ z)
        exact ⟨_, _, μ, p :: μ, rfl, fresh p List.mem_cons_self hpμ, p, xs, rfl, rfl, hpμ, e, rv.cutN hl.symm.symm hα hb, h0.cutN hα rs ok⟩
      · rw [if_neg hb]
        exact ⟨_, _, _, _, rfl, s, r⟩
    | v d =>
      dsimp only
      obtain ⟨rfl, rv, rs⟩ := r
      have hα : ∀ q ∈ μ, q ∈ μ ++ ν := fun q hq => List.mem_append_left _ hq
      by_cases hb : below st.length d = true
      · rw [if_pos hb]
        exact ⟨_, _, μ, μ, rfl, s0, rfl, rv.cutN hl.symm.symm hα hb, h0.cutN hα rs ok⟩
      · rw [if_neg hb]
        cases d with
        | ref n =>
          dsimp only
          cases hq : st'[n]? with
          | none => exact ⟨_, _, _, _, rfl, s, rfl, rv, rs⟩
          | some o =>
            cases o with
            | lst ds =>
              dsimp only
              by_cases hb2 : belows st.length ds = true
              · rw [if_pos hb2]
                cases rv with
                | ref h1 =>
                  rename_i a
                  have ro := rs.ob n _ a hq h1
                  cases ro with
                  | @lst _ _ xs e r2 =>
                    have hn : ¬ n < μ.length := fun z => hb (by simp [below]; omega)
                    have ha : a ∉ μ := fun z => by
                      rw [List.getElem?_append_right (by omega)] at h1
                      have h2 : a ∈ ν := List.mem_iff_getElem?.mpr ⟨_, h1⟩
                      exact (List.nodup_append.mp rs.nd).2.2 a z a h2 rfl
                    have ham : a ∈ μ ++ ν := List.mem_iff_getElem?.mpr ⟨_, h1⟩
                    have hα2 : ∀ q ∈ a :: μ, q ∈ μ ++ ν := fun q hq => by
                      rcases List.mem_cons.mp hq with z | z
                      · rw [z]; exact ham
                      · exact List.mem_append_left _ z
                    exact ⟨_, _, μ, a :: μ, rfl, fresh a (s.sub a ham) ha, a, xs, rfl, rfl, ha, e, r2.cutN hl.symm.symm hα2 hb2, h0.cutN hα2 rs ok⟩
              · rw [if_neg hb2]
                exact ⟨_, _, _, _, rfl, s, rfl, rv, rs⟩
            | _ => exact ⟨_, _, _, _, rfl, s, rfl, rv, rs⟩
        | _ => exact ⟨_, _, _, _, rfl, s, rfl, rv, rs⟩
  · rw [if_neg ok]
    exact ⟨_, _, _, _, rfl, s, r⟩
theorem finish_ok {E : XK} {H0 : Hp} {st st' : Store} {w : W} {v : V} {μ' : List Addr} {Q : VK} (h0 : RS g μ μ H0 st) (s : Step μ H0 μ' α' H) (r : relW g w st' v μ' α' H) (post : PostR g E μ H0 (finish st w st') (relW g) Q) : Q v H := by
  obtain ⟨w2, st2, μ2, α2, e, s2, r2⟩ := finish_rel h0 s r
  rw [e] at post
  exact post v μ2 α2 H s2 r2
/-- the locals at a def's start -/
theorem RVs.start {ds : List D} {vs : List V} (r : RVs g μ μ H ds vs) (k : Nat) : RL g μ H (ds.map some ++ List.replicate k none) (vs.map some ++ List.replicate k none) := by
  refine ⟨by simp [r.length], fun i d e => ?_⟩
  unfold Lc.get at e
  by_cases hi : i < ds.length
  · rw [List.getElem?_append_left (by simpa using hi), List.getElem?_map] at e
    cases q : ds[i]? with
    | none => rw [q] at e; simp at e
    | some d' =>
      rw [q] at e
      simp at e
      subst e
      obtain ⟨v, e1, e2⟩ := r.get q
      exact ⟨v, by rw [List.getElem?_append_left (by simpa [← r.length] using hi), List.getElem?_map, e1]; rfl, e2⟩
  · rw [List.getElem?_append_right (by simpa using hi), List.getElem?_replicate] at e
    split at e
    · rename_i hh
      split at hh <;> cases hh
    · cases e
end
/-- a def whose text is checked -/
theorem def_ok {P : Program} {w : World} {K : PySem.W.Frag} {mg : Str → Option Value} {base : Heap} {g : G} {ev : Ev} {Δ : Dl} {n fu : Nat} {x qual : Str} {st0 : Stmt} {a : Addr} {fd : FuncData} {N ps : List Str} {fn : Fn} (F : Fun K x qual st0 a fd) (S : FnScope N ps (defScope st0))
    (hp : fn.np = ps.length) (hs : fn.ns = N.length) (fa : Fa P w K mg base g ev Δ n) (hok : okSs ev fu { N := N, sc := defScope st0, n := n } fn.body (defBody st0) = true) : FnG P w K mg base (n + 1) a fd ps (spF g (runFn Δ fn)) := by
  have hlen : ∀ vs H Q E, spF g (runFn Δ fn) vs H Q E → vs.length = ps.length := by
    rintro vs H Q E ⟨ds, μ, st, rv, rs, post⟩
    unfold runFn at post
    by_cases h : ds.length = fn.np
    · rw [← rv.length, h, hp]
    · rw [if_neg h] at post; exact post.elim
  refine fnG_of F S hlen fun cdv A outer s H vs Q E hgu hroom hsp => ?_
  have hl := hlen _ _ _ _ hsp
  obtain ⟨ds, μ, st, rv, rs, post⟩ := hsp
  have L : Lx (cxOf (L2.CX P w) P w K mg base N qual (defScope st0) a cdv A outer s H E) g ev Δ (fun cls d _ H => E cls d H) none none { N := N, sc := defScope st0, n := n } :=
    ⟨fa, rfl, S.nd, rfl, S.kind, guards_deeper hgu, by have := hroom.un; show (A.deeper _).units + 128 < _; omega, fun _ => ⟨rfl, hroom⟩, takes_of rfl rfl rfl rfl, fun _ _ => rfl, fun _ => ⟨rfl, rfl, passes_of rfl⟩, fun _ _ h => by cases h⟩
  refine ⟨_, (sndS ev fu).Ss hok L, ?_⟩
  unfold runFn at post
  have hd : ds.length = fn.np := by rw [rv.length, hl, hp]
  rw [if_pos hd] at post
  refine ⟨ds.map some ++ List.replicate (fn.ns - fn.np) none, μ, st, .mk0 ?_ rs, ?_⟩
  · have := rv.start (fn.ns - fn.np)
    unfold L2.start
    rw [show N.length - vs.length = fn.ns - fn.np from by rw [hl, hs, hp]]
    exact this
  · cases e : exSs Δ fn.body (ds.map some ++ List.replicate (fn.ns - fn.np) none) st with
    | stuck => rw [e] at post; exact post
    | bk ρ st' => rw [e] at post; exact post.elim
    | nx ρ st' =>
      rw [e] at post
      exact fun σ' μ' H' s hl hr => finish_ok rs s (show relW g (.v .non) st' V.non μ' μ' H' from ⟨rfl, .non, hr⟩) post
    | ret w' st' =>
      rw [e] at post
      exact fun v μ' α' H' s r => finish_ok rs s r post
    | exc c fs ρ st' =>
      rw [e] at post
      exact fun σ' C dd μ' H' s hx hl hr => post C dd μ' H' s hx hr
end Fw

/-! ## Fz2 -/
set_option Elab.async false
set_option linter.all false
set_option maxRecDepth 100000
set_option maxHeartbeats 16000000
/-! The end of a law: its def keeps the promise, and what it computes is True. -/
namespace Fw
open PySem PySem.Spec PyProof.Rows L2

theorem scr_of {g : G} {H : Hp} {a : Addr} {ns : List Int} (h : SqL g.K H a (ns.map V.int)) : RV g [] [] H (.scr (ns.map D.int)) (.ref a) := by
  refine .scr (xs := ns.map V.int) (h.elim (fun z => .inl ⟨z, by simp⟩) .inr) ?_
  induction ns with
  | nil => exact .nil
  | cons n ns ih =>
    have : ∀ l : List Int, RVs g [] [] H (l.map D.int) (l.map V.int) := fun l => by
      induction l with
      | nil => exact .nil
      | cons z l ih => exact .cons (.int z) ih
    exact this (n :: ns)
theorem spF_law {g : G} {m : List D → Store → Res W} {H : Hp} {a : Addr} {ns : List Int} (h : SqL g.K H a (ns.map V.int)) (hm : ∃ st, m [.scr (ns.map D.int)] [] = .ok (.v (.bl true)) st) : spF g m [.ref a] H (fun v _ => v = .bl true) fun _ _ _ => False := by
  obtain ⟨st, hm⟩ := hm
  refine ⟨[.scr (ns.map D.int)], [], [], .cons (scr_of h) .nil, ⟨rfl, List.nodup_nil, fun n o b h1 _ => by simp at h1⟩, ?_⟩
  rw [hm]
  rintro v μ' α' H' s ⟨_, r, _⟩
  cases r
  rfl
/-- the law's def is called with the script -/
theorem call_law {P : Program} {w : World} {K : PySem.W.Frag} {mg mb : Str → Option Value} {k : Nat} {fa a : Addr} {fd : FuncData} {x : Str} {sp : Sp} {s1 : Shared} {vs : List Value} {ns : List Int} (KX : K.In s1.heap) (hns : s1.heap.Ns mainGlobals mg) (hb : s1.heap.Ns builtinsNs mb)
    (hbb : ∀ x : Str, x ≠ "__name__" → mb x = bootBuiltins x) (hlim : s1.heap.NoLimit) (hg : s1.gens = #[]) (ha : s1.heap.get? a = some { cls := .type "list", data := .seq vs.toArray }) (hi : IntsAre vs ns) (hl : ns.length ≤ sizeLine) (hr : Room k callerA)
    (F : ∀ base : Heap, K.In base → base.Ns mainGlobals mg → FnG P w K mg base k fa fd [x] sp) (hbind : ∀ (s : Shared) (u : Value), BindsTo s fd ⟨[u], []⟩ [(x, u)])
    (hsp : ∀ H : Hp, SqL K H a (ns.map V.int) → sp [.ref a] H (fun v _ => v = .bl true) fun _ _ _ => False) :
    codeAny (model P w) callerA (.call (.ref fa) ⟨[.ref a], []⟩) (fun r s' => r = .ok (.ret (.bool true)) ∧ OldK s1.heap s'.heap ∧ s'.os = s1.os ∧ AllBare s'.gens) s1 := by
  have lenV := hi.length
  have rv := vals_ints hi
  -- one tracking serves both cases: the script is tracked just where it is no object of the module
  have one : ∀ H : Hp, Only H → SqL K H a (ns.map V.int) → HOk P w H s1.heap → (∀ b, H b ≠ none → b = a ∧ K.lookup a = none) →
      codeAny (model P w) callerA (.call (.ref fa) ⟨[.ref a], []⟩) (fun r s' => r = .ok (.ret (.bool true)) ∧ OldK s1.heap s'.heap ∧ s'.os = s1.os ∧ AllBare s'.gens) s1 := by
    intro H hO hS hok hA
    have low : ∀ {b : Addr} {o : Obj}, s1.heap.get? b = some o → (∀ c : H b ≠ none, False) → (hidT s1.heap H).get? b = some o := fun {b o} e c => hidT_get e (by
      cases q : H b with
      | none => rfl
      | some u => exact (c (by rw [q]; simp)).elim)
    have nsLow : ∀ {b : Addr} {m : Str → Option Value}, s1.heap.Ns b m → (hidT s1.heap H).Ns b m := fun {b m} ⟨o, es, ep, e, d, r⟩ => ⟨o, es, ep, low e (fun c => by
      obtain ⟨rfl, _⟩ := hA b c
      rw [ha] at e; cases e
      have d' : Data.seq vs.toArray _ = Data.dict es ep := d
      cases d'), d, r⟩
    have kLow : K.In (hidT s1.heap H) := fun b o e => low (KX b o e) fun c => by
      obtain ⟨rfl, z⟩ := hA b c
      rw [z] at e; cases e
    have mod : Mod K mg (hidT s1.heap H) := ⟨kLow, nsLow hns, ⟨mb, nsLow hb, hbb⟩, let ⟨mc, h1, h2⟩ := hlim; ⟨mc, nsLow h1, h2⟩⟩
    have env : Env0 P w K mg (hidT s1.heap H) callerA [] s1 H := ⟨rfl, mod, fun b o e => of_hidT e, Nat.le_of_eq (hidT_size _ _), trivial, fun b hb => absurd (show b ∈ ([] : List Addr) from hb) (by simp), hok, .of_eq hg⟩
    refine codeAny_mono ((F _ kLow (nsLow hns)).run callerA [] s1 H ⟨[.ref a], []⟩ [.ref a] [.ref a] _ _ rfl hr env (hbind s1 (.ref a)) (.cons rfl .nil) (hsp H hS)) fun r s' h => ?_
    match r, h with
    | .error e, h =>
      obtain ⟨_, _, _, _, _, _, _, _, _, _, _, _, z⟩ := h
      exact z.elim
    | .ok .next, h => exact False.elim h
    | .ok .brk, h => exact False.elim h
    | .ok .cont, h => exact False.elim h
    | .ok (.ret u), ⟨v, H', os, bare, un, hok', r', q⟩ =>
      have q' : v = .bl true := q
      subst q'
      obtain rfl : u = Value.bool true := r'
      refine ⟨rfl, OldK.of_keep fun b o e => ?_, os, bare⟩
      rcases hO b with z | ⟨ob, xs, z⟩
      · exact un.keep b o e z (by intro y; exact absurd (show b ∈ ([] : List Addr) from y) (by simp)) (by simp)
      · have k1 := (hok b _ z).1
        have k2 := (hok' b _ (un.frzs b ob _ z)).1
        rw [e] at k1; cases k1
        exact k2
  cases hk : K.lookup a with
  | some o =>
    have e := KX a o hk
    rw [ha] at e
    cases e
    exact one (fun _ => none) (fun _ => .inl rfl) (.inr ⟨_, vs.toArray, _, hk, rfl, rfl, rfl, by rw [List.size_toArray, lenV]; exact hl, by simpa using rv⟩) (fun b u z => by cases z) fun b z => absurd rfl z
  | none =>
    refine one (fun b => if b = a then some (.frz { cls := .type "list", data := .seq vs.toArray } (.lst (ns.map V.int))) else none) (fun b => ?_) (.inl (.inr ⟨{ cls := .type "list", data := .seq vs.toArray }, if_pos rfl⟩)) (fun b u z => ?_) (fun b z => ?_)
    · by_cases hb : b = a
      · exact .inr ⟨_, _, if_pos hb⟩
      · exact .inl (if_neg hb)
    · by_cases hb : b = a
      · have z' := (if_pos hb).symm.trans z
        cases z'
        subst hb
        exact ⟨ha, by rw [List.length_map]; exact hl, vs, _, rv, ha⟩
      · have z' := (if_neg hb).symm.trans z
        cases z'
    · by_cases hb : b = a
      · exact ⟨hb, hk⟩
      · exact absurd (if_neg hb) z
theorem walk_G {l : PySem.W.OpenLaw} {n k : Nat} {q : Program} {loose : List Str} {XP : (Str → Option Value) → Heap → Prop} {YP : World → Heap → Prop} {d : DefRec} {K : Params → PySem.W.Frag} {x : Str}
    (hn : l.most = some n) (hn2 : n ≤ sizeLine) (hdf : d.params.defaults = []) (hr : Room k callerA) (hY : ∀ (w : World) (h : Heap), YP w h → (K w.params).In h)
    (F : ∀ (w : World) (mg : Str → Option Value) (fa : Addr) (h : Heap), (K w.params).In h → h.Ns mainGlobals mg → mg d.name = some (.ref fa) →
      ∃ (fd : FuncData) (g : G) (m : List D → Store → Res W), g.K = K w.params ∧ (∀ (s : Shared) (u : Value), BindsTo s fd ⟨[u], []⟩ [(x, u)]) ∧
        (∀ base : Heap, (K w.params).In base → base.Ns mainGlobals mg → FnG l.prog w (K w.params) mg base k fa fd [x] (spF g m)) ∧
        ∀ ns : List Int, ns.length ≤ n → (∀ z ∈ ns, Builtin.Int.intBits z ≤ 1048576) → ∃ st, m [.scr (ns.map D.int)] [] = .ok (.v (.bl true)) st) :
    PySem.W.WalkO q loose XP YP l.row.toRowW d [] (fun f vs => PySem.call f vs) := by
  refine Att.attach_callB hn hdf fun w s₀ s1 mg mb fa o pm cd doc a vs ns G Y ho hd hcd hmg hobj hints hlen hbits hg => ?_
  have KX := hY w _ Y
  obtain ⟨fd, g, m, hK, hb, hF, hm⟩ := F w mg fa _ KX G.T.g hmg
  exact call_law KX G.T.g G.T.b G.T.builtins G.T.nolimit hg hobj hints (Nat.le_trans hlen hn2) hr hF hb fun H hS => spF_law (by rw [hK]; exact hS) (hm ns hlen hbits)
end Fw

/-! ## Fz3 -/
set_option Elab.async false
set_option linter.all false
set_option maxRecDepth 100000
set_option maxHeartbeats 16000000
/-! All defs of a text together, by how deep they call. -/
namespace Fw
open PySem PySem.Spec PyProof.Rows L2

/-- one def: its place, its text, its term; what stands for it is stuck or what it computes -/
structure Row (P : Program) (K : PySem.W.Frag) (ev : Ev) (Δ : Dl) (i : Nat) (a : Addr) : Prop where
  ex : ∃ (fd : FuncData) (ps : List Str) (x qual : Str) (st0 : Stmt) (N : List Str) (fn : Fn) (fu : Nat), Fun K x qual st0 a fd ∧ FnScope N ps (defScope st0) ∧ Binds K fd ps [] ∧ fn.np = ps.length ∧ fn.ns = N.length ∧
    okSs ev fu { N := N, sc := defScope st0, n := ev.lv i } fn.body (defBody st0) = true ∧ ∀ ds st, Δ.fns i ds st = .stuck ∨ Δ.fns i ds st = runFn Δ fn ds st
/-- Fa without the promises -/
structure Fb (P : Program) (w : World) (K : PySem.W.Frag) (mg : Str → Option Value) (g : G) (ev : Ev) (Δ : Dl) : Prop where
  hK : g.K = K
  nm : ∀ i, g.nm i = ev.nm i
  okF : ∀ i, g.okF i = ev.okF i
  lv : ∀ i, Δ.lv i = ev.lv i
  exf : ∀ i, Δ.exf i = ev.exf i
  fn : ∀ x f, ev.fnm.lookup x = some f → ∃ a, g.fn f = some a ∧ mg x = some (.ref a)
  cs : ∀ x k, ev.csm.lookup x = some k → ∃ u v, mg x = some u ∧ RelV v u ∧ ∀ μ H, RV g μ μ H (Δ.cst k) v
  bl : ∀ b : B, mg (Str.ofString (bName b)) = none
  ty : ∀ k : Ty, mg (Str.ofString (tyName k)) = none
  isi : mg "isinstance" = none
  rg : mg "range" = none
  zp : mg "zip" = none
  en : mg "enumerate" = none
  cl : ClsOk K g Δ.flds
  nw : ∀ x c f, ev.clm.lookup x = some (c, f) → ∃ C a, g.cls c = some C ∧ mg x = some (.ref C) ∧ g.fn f = some a ∧ Mk K C a
  mt : ∀ c m f, ev.mtm.lookup (c, m) = some f → ∃ C a, g.cls c = some C ∧ g.fn f = some a ∧ Cls K C ∧ Meth K C (g.nm m) a
  ex : ExF K g Δ.exf Δ.sub ev.okx
  xm : ∀ x k, ev.exm.lookup x = some k → ev.okx k = true ∧ ∃ C, g.cls k = some C ∧ mg x = some (.ref C) ∧ (ev.exf k ≠ [] → XMk P w K mg C ((ev.exf k).map g.nm)) ∧ ∀ f ∈ ev.exf k, g.okF f = true

section
variable {P : Program} {w : World} {K : PySem.W.Frag} {mg : Str → Option Value} {base : Heap} {g : G} {ev : Ev} {Δ : Dl}
theorem FnG.less {k : Nat} {a : Addr} {fd : FuncData} {ps : List Str} {m m' : List D → Store → Res W} (F : FnG P w K mg base k a fd ps (spF g m')) (h : ∀ ds st, m ds st = .stuck ∨ m ds st = m' ds st) : FnG P w K mg base k a fd ps (spF g m) := by
  have conv : ∀ vs H Q E, spF g m vs H Q E → spF g m' vs H Q E := by
    rintro vs H Q E ⟨ds, μ, st, rv, rs, post⟩
    refine ⟨ds, μ, st, rv, rs, ?_⟩
    rcases h ds st with z | z
    · rw [z] at post; exact post.elim
    · rw [← z]; exact post
  exact ⟨fun vs H Q E q => F.len vs H Q E (conv _ _ _ _ q), fun A outer s H args us vs Q E hg hr e0 hb rv q => F.run A outer s H args us vs Q E hg hr e0 hb rv (conv _ _ _ _ q)⟩
theorem Row.ok {i n : Nat} {a : Addr} (R : Row P K ev Δ i a) (fa : Fa P w K mg base g ev Δ (ev.lv i)) (hn : ev.lv i + 1 ≤ n) : FOk P w K mg base g n a (Δ.fns i) := by
  obtain ⟨fd, ps, x, qual, st0, N, fn, fu, F, S, B, h1, h2, h3, h4⟩ := R.ex
  exact ⟨F.kp, fd, ps, B, ((def_ok F S h1 h2 fa h3).less h4).mono hn⟩
theorem all_ok (Y : Fb P w K mg g ev Δ) (R : ∀ i a, g.fn i = some a → Row P K ev Δ i a) : ∀ n, Fa P w K mg base g ev Δ n := fun n => by
  induction n using Nat.strongRecOn with
  | ind n ih =>
    refine ⟨Y.hK, Y.nm, Y.okF, Y.lv, Y.exf, Y.fn, fun m f a hm hf hl => ?_, Y.cs, Y.bl, Y.ty, Y.isi, Y.rg, Y.zp, Y.en, Y.cl, Y.nw, Y.mt, Y.ex, Y.xm⟩
    exact (R f a hf).ok (ih _ (by omega)) hl
theorem row_of {α β : Type} [BEq α] [LawfulBEq α] {tab : List (α × β)} {Pr : α → β → Prop} (h : ∀ p ∈ tab, Pr p.1 p.2) : ∀ i b, tab.lookup i = some b → Pr i b := by
  induction tab with
  | nil => intro i b e; simp at e
  | cons p tab ih =>
    intro i b e
    obtain ⟨j, c⟩ := p
    rw [List.lookup_cons] at e
    cases q : i == j with
    | true =>
      rw [q] at e
      cases e
      rw [eq_of_beq q]
      exact h (j, b) List.mem_cons_self
    | false =>
      rw [q] at e
      exact ih (fun p hp => h p (List.mem_cons_of_mem _ hp)) i b e
end
end Fw

/-! ## Fz4 -/
set_option Elab.async false
set_option linter.all false
set_option maxRecDepth 100000
set_option maxHeartbeats 16000000
/-! What a law's head must say, in a handful of words. -/
namespace Fw
open PySem PySem.Spec PyProof.Rows L2

theorem fa_nil {α : Type} {p : α → Prop} : ∀ x ∈ ([] : List α), p x := fun _ h => by cases h
theorem fa_cons {α : Type} {p : α → Prop} {a : α} {l : List α} (h : p a) (t : ∀ x ∈ l, p x) : ∀ x ∈ a :: l, p x := fun x hx => by
  rcases List.mem_cons.mp hx with z | z
  · rw [z]; exact h
  · exact t x z
/-- a def in the written part -/
structure DefIn (K : PySem.W.Frag) (x qual : Str) (st0 : Stmt) (f : Addr) : Prop where
  ex : ∃ (oc : Value) (od : Option Addr) (kV doc pm : Value) (an : Option Addr) (cdv ct : Value) (osl : Array (Option Value)),
    K.lookup f = some ⟨oc, od, .func (PySem.W.fnOf x qual (defArgs st0) (defBody st0) (defScope st0) .none kV doc pm an cdv ct), osl⟩ ∧ PySem.W.codeIn K cdv qual = true ∧ PySem.W.keepIn K (.ref f) = true
theorem DefIn.row {P : Program} {K : PySem.W.Frag} {ev : Ev} {Δ : Dl} {i fu : Nat} {x qual : Str} {st0 : Stmt} {f : Addr} {N ps : List Str} {fn : Fn} (D : DefIn K x qual st0 f) (S : FnScope N ps (defScope st0)) (h1 : fn.np = ps.length) (h2 : fn.ns = N.length)
    (hb : ∀ (kV doc pm : Value) (an : Option Addr) (cdv ct : Value) (us : List Value), us.length = ps.length → bindArgs (PySem.W.fnOf x qual (defArgs st0) (defBody st0) (defScope st0) .none kV doc pm an cdv ct) ⟨us, []⟩ = pure (ps.zip us))
    (hok : okSs ev fu { N := N, sc := defScope st0, n := ev.lv i } fn.body (defBody st0) = true) (hm : ∀ ds st, Δ.fns i ds st = .stuck ∨ Δ.fns i ds st = runFn Δ fn ds st) : Row P K ev Δ i f := by
  obtain ⟨oc, od, kV, doc, pm, an, cdv, ct, osl, l, c, k⟩ := D.ex
  have F := fun_mk (st := st0) l c k
  exact ⟨_, ps, x, qual, st0, N, fn, fu, F, S, F.binds hb, h1, h2, hok, hm⟩
theorem DefIn.kp {K : PySem.W.Frag} {x qual : Str} {st0 : Stmt} {f : Addr} (D : DefIn K x qual st0 f) : PySem.W.keepIn K (.ref f) = true := by
  obtain ⟨_, _, _, _, _, _, _, _, _, _, _, k⟩ := D.ex
  exact k
/-- a constant that is a tuple -/
structure TupIn (K : PySem.W.Frag) (a : Addr) (xs : List V) : Prop where
  ex : ∃ (o : Obj) (its : Array Value) (n : Nat), K.lookup a = some o ∧ o.cls = .type "tuple" ∧ o.data = .seq its n ∧ its.size ≤ sizeLine ∧ Vals xs its.toList
theorem TupIn.rv {g : G} {a : Addr} {xs : List V} (h : TupIn g.K a xs) {μ : List Addr} {H : Hp} {ds : List D} (r : RVs g μ μ H ds xs) : RV g μ μ H (.tup ds) (.ref a) := .tup (.inr h.ex) r
/-- a plain class -/
theorem cls_of {K : PySem.W.Frag} {C : Addr} (h1 : PySem.W.plainGet K C Str.empty = true) (h2 : PySem.W.hasDictIn K C = true) (h3 : PySem.W.plainOver K C = true) (h4 : PySem.W.findIn K (.ref C) "__setattr__" = some (some (.builtin "object.__setattr__"))) : Cls K C := ⟨h1, h2, h3, h4⟩
/-- what is asked of an exception's class by suites -/
def xpB (K : PySem.W.Frag) (C : Addr) : Bool := xfB K C && decide (PySem.W.findIn K (.ref C) "__class__" = some (some (.builtin "object.__class__"))) && decide (PySem.W.specialIn K (.builtin "object.__class__") "__get__" = some (some (.builtin "getset_descriptor.__get__"))) &&
  decide (PySem.W.takesIn K (.builtin "object.__class__") = some true) && decide (PySem.W.mroIn K C (.type "object") = some true)
theorem xpB_ok {K : PySem.W.Frag} {C : Addr} (h : xpB K C = true) : XfC K C ∧ ExcC K C := by
  simp only [xpB, Bool.and_eq_true, decide_eq_true_eq] at h
  obtain ⟨⟨⟨⟨h1, h2⟩, h3⟩, h4⟩, h5⟩ := h
  have x := xfB_ok h1
  exact ⟨x, x.ga, x.gg, x.exC, x.hdC, h2, h3, h4, h5⟩
/-- .. and by raise -/
def xcB (K : PySem.W.Frag) (C D fI : Addr) : Bool := decide (PySem.W.findIn K (.ref C) "__setattr__" = some (some (.builtin "object.__setattr__"))) && decide (PySem.W.findIn K (.ref C) "__init__" = some (some (.ref fI))) && decide (PySem.W.typeIn K (.ref fI) = some (.type "function")) &&
  PySem.W.keepIn K (.ref C) && decide (PySem.W.subIn K (.ref C) (.type "BaseException") = some true) && decide (PySem.W.typeIn K (.ref C) = some (.type "type")) && decide (PySem.W.mroIn K C (.ref D) = some true) && decide (PySem.W.ks_superIn K C D "__init__" = some (some (.builtin "ValueError.__init__"))) &&
  decide (PySem.W.subIn K (.ref C) (.type "ValueError") = some true) && decide (PySem.W.nsIn K cStatics "thirdparty.any" = some none)
structure XClsO (K : PySem.W.Frag) (C : Addr) : Prop where
  ex : ∃ nm q N bs bm sn sub ab col dd k0 k1 k2 k3 k5, K.lookup C = some (excClassObj nm q C N bs bm true sn sub ab col dd k0 k1 k2 k3 k5 "ValueError.__new__") ∧ PySem.HandSPX.refsVE bm = true
theorem xcB_ok {K : PySem.W.Frag} {C D fI : Addr} (o : XClsO K C) (h : xcB K C D fI = true) : XCls K C D fI := by
  simp only [xcB, Bool.and_eq_true, decide_eq_true_eq] at h
  obtain ⟨⟨⟨⟨⟨⟨⟨⟨⟨h1, h2⟩, h3⟩, h4⟩, h5⟩, h6⟩, h7⟩, h8⟩, h9⟩, h10⟩ := h
  exact ⟨o.ex, h1, h2, h3, h4, h5, h6, h7, h8, h9, h10⟩
/-- the pair's answers -/
def xsB (K : PySem.W.Frag) (C k : Addr) (b : Bool) : Bool := decide (PySem.W.exmOne K (.ref C) (.ref k) = some b) && decide (PySem.W.kitOne K (.ref C) (.ref k) = some b)
theorem xsB_ok {K : PySem.W.Frag} {C k : Addr} {b : Bool} (h : xsB K C k b = true) : PySem.W.exmOne K (.ref C) (.ref k) = some b ∧ PySem.W.kitOne K (.ref C) (.ref k) = some b := by
  simpa [xsB] using h
/-- an own __init__ over super -/
structure SiIn (K : PySem.W.Frag) (P : Program) (fI D : Addr) (st0 : Stmt) (names : List Str) : Prop where
  ex : ∃ (oc : Value) (od : Option Addr) (qual : Str) (kV doc pm ct : Value) (an : Option Addr) (osl : Array (Option Value)) (cda cc : Addr) (ccl cl : Value) (cdd cld : Option Addr) (vs : Array Value) (ccs csl : Array (Option Value)) (file : Str) (tf : Tok) (cdD : ClassData),
    K.lookup fI = some ⟨oc, od, .func (PySem.W.ksFn "__init__" qual (defArgs st0) (defBody st0) (defScope st0) .none kV doc pm an (.ref cda) ct cc), osl⟩ ∧ PySem.W.codeIn K (.ref cda) qual = true ∧
    (∀ (us : List Value), us.length = names.length → bindArgs (PySem.W.ksFn "__init__" qual (defArgs st0) (defBody st0) (defScope st0) .none kV doc pm an (.ref cda) ct cc) ⟨us, []⟩ = pure (names.zip us)) ∧
    K.lookup cda = some ⟨ccl, cdd, .fields vs, ccs⟩ ∧ vs[2]? = some (.str file tf) ∧ ((P.main.file : Str) == file) = true ∧ K.lookup cc = some ⟨cl, cld, .cell (some (.ref D)), csl⟩ ∧ PySem.W.clsIn K D = some cdD
def siB (P : Program) (st0 : Stmt) (names : List Str) : Bool := (((defArgs st0).posonlyargs ++ (defArgs st0).args).head?.map (·.arg) == some ("self" : Str)) && decide ((defScope st0).names.lookup ("super" : Str) = some .globalImplicit) && decide ((defScope st0).names.lookup ("__class__" : Str) = some .free) &&
  names.all (fun x => decide ((defScope st0).names.lookup x = some .local)) && decide ((defScope st0).kind = .function) && !(defScope st0).isCoroutine && !(defScope st0).isGenerator && (defScope st0).names.all (fun x => decide (x.2 ≠ .cell)) && !(P.main.scope.names.lookup ("super" : Str)).isSome &&
  !names.contains ("super" : Str) && names.contains ("self" : Str)
theorem si_of {K : PySem.W.Frag} {P : Program} {fI D : Addr} {st0 : Stmt} {names : List Str} (h : SiIn K P fI D st0 names) (b : siB P st0 names = true) : SiFn K P fI D (defBody st0) names "self" := by
  obtain ⟨oc, od, qual, kV, doc, pm, ct, an, osl, cda, cc, ccl, cl, cdd, cld, vs, ccs, csl, file, tf, cdD, e1, e2, e3, e4, e5, e6, e7, e8⟩ := h.ex
  simp only [siB, Bool.and_eq_true, decide_eq_true_eq, Bool.not_eq_true', beq_iff_eq] at b
  obtain ⟨⟨⟨⟨⟨⟨⟨⟨⟨⟨b1, b2⟩, b3⟩, b4⟩, b5⟩, b6⟩, b7⟩, b8⟩, b9⟩, b10⟩, b11⟩ := b
  obtain ⟨ar, a1, a2⟩ := Option.map_eq_some_iff.mp b1
  refine ⟨oc, od, qual, _, _, kV, doc, pm, ct, an, osl, cda, cc, ar, ccl, cl, cdd, cld, vs, ccs, csl, file, tf, cdD, e1, e2, e3, a1, a2, e4, e5, e6, e7, e8, b2, b3, fun x hx => ?_, b5, b6, b7, b8, b9, ?_, ?_⟩
  · exact of_decide_eq_true (List.all_eq_true.mp b4 x hx)
  · intro z; rw [List.contains_iff_mem.mpr z] at b10; cases b10
  · exact List.contains_iff_mem.mp b11
end Fw

/-! ## Xk -/
set_option Elab.async false
set_option linter.all false
set_option maxRecDepth 100000
set_option maxHeartbeats 4000000
/-! An exception that a suite hands to a def, which asks what it is. -/
namespace Fw
open PySem PySem.Spec PyProof.Rows L2

/-! ### isinstance of what is pinned -/
theorem call_isP {X : Cx} {a C : Addr} {oe : Obj} {dd : Addr} (T : ExcC X.K C) (hpn : (a, oe) ∈ X.pn) (hz : Zc (.ref C) (some dd) oe) (hf : ∃ vs, oe.data = .fields vs) :
    CallR X (.builtin "isinstance") (fun xs H Q => ∃ (c : V) (cv : Value) (b : Bool) (fs : List (Str × V)), xs = [.ref a, c] ∧ (∀ u, RelV c u → u = cv) ∧ PySem.W.kitOne X.K (.ref C) cv = some b ∧ H dd = some (.xd fs) ∧ Q (.bl b) H) := by
  intro pins s σ H xs us Q I r h
  obtain ⟨c, cv, b, fs, rfl, hcv, e, hdd, q⟩ := h
  cases r with
  | cons rx rr =>
    cases rr with
    | cons rt rr =>
      cases rr
      cases rx
      have ec := hcv _ rt
      subst ec
      obtain ⟨hget, _⟩ := I.pin (a, oe) (List.mem_append.mpr (.inl hpn))
      obtain ⟨vs, hv⟩ := hf
      have hx : ObjOk X.prog X.w H s.heap dd (.xd fs) := I.hok dd _ hdd
      obtain ⟨mA, hns, hr⟩ := hx
      obtain ⟨od, ho, hl⟩ := lookIn_ns hns
      have J : PySem.W.InstAt s.heap a oe C (some od) := by
        obtain ⟨oc, od', oda, osl⟩ := oe
        obtain ⟨h1, h2⟩ := hz
        dsimp only at h1 h2 hv
        subst h1 h2 hv
        exact ⟨hget, rfl, rfl, ho⟩
      have hfo : PySem.W.findObj X.K C (some od) "__class__" = some (.bind (.builtin "getset_descriptor.__get__") (.builtin "object.__class__")) := PySem.W.findObj_dataE (by obtain ⟨cd, hc, _⟩ := PySem.W.any_some T.hd; rw [hc]; rfl) T.ha T.hn T.ht
      have base := PySem.W.handS_kitx_exc (x := a) (ox := oe) T.hg T.hk T.hs T.hd T.ha T.hn T.ht T.hm
      have Z : PySem.W.KitX X.K (.ref a) (.ref C) (fun h => PySem.W.InstAt h a oe C (some od)) := {
        ty := fun _ _ _ I => I.type
        it := fun M h X' _ => by
          obtain ⟨cdD, hcD, _⟩ := PySem.W.any_some T.hd
          unfold PySem.W.clsIn at hcD
          split at hcD
          · rename_i c' d' cd' sl' ho
            intro A' Q' E' s' k q
            unfold isType loadHead
            exact wpAny_bind (wpAny_loadPart (k _ _ (X' _ _ ho)) (wpAny_pure q))
          · cases hcD
        ne := base.ne
        ca := fun X' I k => PySem.W.kx_classE X' I T.hg T.hk T.hs hfo T.hm k }
      exact PySem.W.kia_one Z I.kIn J e (fun z => nomatch z) fun tk => ⟨.bl b, H, I.kept (t' := tk) fun _ _ z => z, rfl, q⟩
/-- what a name of a class stands for, and what the exception's class answers -/
structure ClsAt (X : Cx) (C : Addr) (x : Str) (b : Bool) : Prop where
  ex : ∃ (cv : V) (cu : Value), (∀ p : Pos, PE X (.Name x p) (tC cv)) ∧ (∀ u, RelV cv u → u = cu) ∧ PySem.W.kitOne X.K (.ref C) cu = some b
section
variable {X : Cx} {g : G} {Wx : WX} {a C dd : Addr} {oe : Obj} {i : Nat} {c : Nat} {fs : List (Nat × D)} {en x : Str}
/-- where the name en of the exception stands -/
structure At (X : Cx) (a C dd : Addr) (oe : Obj) (i : Nat) (en : Str) : Prop where
  T : ExcC X.K C
  pn : (a, oe) ∈ X.pn
  z : Zc (.ref C) (some dd) oe
  f : ∃ vs, oe.data = .fields vs
  N : X.N[i]? = some en
  v : Vis X.env.scope en
  d : (en == ("__debug__" : Str)) = false
  cd : (en == ("__classdict__" : Str)) = false
  g : Gl X "isinstance"
  m : X.mg "isinstance" = none
theorem me_isP {p p2 p3 pos : Pos} {b : Bool} (A : At X a C dd oe i en) (k : ClsAt X C x b) :
    ME X g Wx (some ((C, dd), a, i)) (some (c, fs)) (.Call (.Name "isinstance" p) [.Name en p2, .Name x p3] [] pos) (fun _ st => .ok (.v (.bl b)) st) := by
  obtain ⟨cv, cu, hb, hcv, hk⟩ := k.ex
  have hE : PE X (.Name en p2) (tVar i) := pe_var A.N A.v A.d A.cd
  refine PE.weak (pe_callB (call_isP A.T A.pn A.z A.f) A.g A.m (by decide +kernel) (pa_cons hE (pa_cons (hb p3) pa_nil rfl) rfl) (by decide +kernel) (by decide +kernel) rfl rfl) fun σ H Q ⟨ρ, μ, st, hs, post⟩ => ?_
  dsimp only at post
  obtain ⟨C', dd', vs, e1, e2, e3, e4, rf⟩ := hs.ex
  cases e1
  exact ⟨_, hs.slot _ a i rfl, cv, cu, b, vs, rfl, hcv, hk, e3, post.v hs.rs (.bl _)⟩
/-- a row of such questions, by the classes' names -/
def isL (en : Str) : List Expr → Option (List Str)
  | [] => some []
  | .Call (.Name f _) [.Name e _, .Name x _] [] _ :: es => if f = "isinstance" ∧ e = en then (isL en es).map (x :: ·) else none
  | _ => none
theorem mes_isP (A : At X a C dd oe i en) {bo : Str → Bool} (es : List Expr) : ∀ (ns : List Str), isL en es = some ns → (∀ x ∈ ns, ClsAt X C x (bo x)) →
    MEs X g Wx (some ((C, dd), a, i)) (some (c, fs)) es (fun _ st => .ok (ns.map fun x => .bl (bo x)) st) := by
  induction es with
  | nil =>
    intro ns h _
    unfold isL at h
    cases h
    exact mes_nil
  | cons e es ih =>
    intro ns h hk
    unfold isL at h
    split at h
    · cases ‹_ :: _ = []›
    · rename_i f p1 e' p2 x p3 pos es' heq
      injection heq with h1 h2
      subst h1 h2
      split at h
      · rename_i hc
        obtain ⟨rfl, rfl⟩ := hc
        obtain ⟨ns', h3, rfl⟩ := Option.map_eq_some_iff.mp h
        exact pa_eq (mes_cons (me_isP A (hk x List.mem_cons_self)) (ih ns' h3 fun y hy => hk y (List.mem_cons_of_mem _ hy)) rfl) fun ρ st => rfl
      · cases h
    · cases h

/-! ### a def's body that keeps its exception's name -/
theorem mss_doc {xa : XA} {xn : XN} {doc : Str} {j : Nat} {p pos : Pos} {ss : List Stmt} {k : Lc → Store → Out} (h : MSs X g Wx xa xn ss k) : MSs X g Wx xa xn (.Expr (.Constant (.str doc) j p) pos :: ss) k :=
  PSs.weak (pss_cons (ps_expr (pe_str (X := X)) (by rfl)) h) fun D σ H ⟨ρ, μ, st, hs, post⟩ => ⟨ρ, μ, st, hs, post⟩
theorem mss_let {xa : XA} {xn : XN} {j : Nat} {y : Str} {pos' pos : Pos} {e : Expr} {ma : Lc → Store → Res W} {ss : List Stmt} {k : Lc → Store → Out} (hN : X.N.Nodup) (hi : X.N[j]? = some y) (hx : L2.Loc X.env.scope y) (he : ME X g Wx xa xn e ma) (hsw : swapsWith e (some (.Name y pos')) pos.line X.env = pure false)
    (hf : X.fn y = true ∨ X.env.scope.names.lookup y = some .local) (hj : ∀ p a i, xa = some (p, a, i) → i ≠ j) (h : MSs X g Wx xa xn ss k) :
    MSs X g Wx xa xn (.Assign [.Name y pos'] e pos :: ss) (fun ρ st => stp (ma ρ st) ρ fun w st => k (ρ.put j w.d) st) :=
  PSs.weak (pss_cons (ps_set hN hi hx he hsw hf) h) fun D σ H ⟨ρ, μ, st, hs, post⟩ => stE hs post fun v H1 w st1 μ1 α1 s1 hr hs1 p1 =>
    ⟨ρ.put j w.d, μ1, st1, ⟨hs1.loc.set j hr.frz.1, hs1.rs, hs1.ex, fun p a i e => by
      rw [List.getElem?_set_ne (fun z => hj p a i e z.symm)]
      exact hs1.slot p a i e⟩, FlowPost.step (σ := σ) p1 .refl⟩
end
end Fw

/-! ## Xl -/
set_option Elab.async false
set_option linter.all false
set_option maxRecDepth 100000
set_option maxHeartbeats 4000000
/-! The def that asks, and the suite that calls it. -/
namespace Fw
open PySem PySem.Spec PyProof.Rows L2

/-- what a def promises to one who holds the exception at p -/
structure FnP (P : Program) (w : World) (K : PySem.W.Frag) (mg : Str → Option Value) (base : Heap) (k : Nat) (f : Addr) (fd : FuncData) (ps : List Str) (p : Addr × Obj) (sp : Sp) : Prop where
  len : ∀ vs H Q E, sp vs H Q E → vs.length = ps.length
  run : ∀ (A : Around) (outer : List Env) (s : Shared) (H : Hp) (args : Args) (us : List Value) (vs : List V) (Q : VK) (E : XK), L2H.RoomH k A → L2H.PinOk outer H s p → Env0 P w K mg base A outer s H →
    BindsTo s fd args (ps.zip us) → Vals vs us → sp vs H Q E → codeAny (model P w) A (.call (.ref f) args) (CR (L2.CX P w) outer P w H s Q E) s
theorem fnP_of {P : Program} {w : World} {K : PySem.W.Frag} {mg : Str → Option Value} {base : Heap} {k : Nat} {x qual : Str} {st : Stmt} {f : Addr} {fd : FuncData} {N ps : List Str} {sp : Sp} {p : Addr × Obj} (F : Fun K x qual st f fd) (S : FnScope N ps (defScope st))
    (len : ∀ vs H Q E, sp vs H Q E → vs.length = ps.length)
    (hbody : ∀ (cdv : Value) (A : Around) (outer : List Env) (s : Shared) (H : Hp) (vs : List V) (Q : VK) (E : XK), sp vs H Q E →
      ∃ t, PSs (L2H.cxH (L2.CX P w) P w K mg base N qual (defScope st) f cdv A outer s H E p) (defBody st) t ∧ t { nx := fun _ H' => Q .non H', rt := Q } (start N vs) H) :
    FnP P w K mg base (k + 1) f fd ps p sp := by
  obtain ⟨oc, od, kV, doc, pm, an, cdv, ct, osl, rfl, lk, hcd⟩ := F.ex
  refine ⟨len, ?_⟩
  intro A outer s H args us vs Q E hroom pin e0 hbind rv hsp
  have hlen := len _ _ _ _ hsp
  have inK : K.In s.heap := e0.mod.kin.keeps (fun b o z => (e0.bs b o z).1)
  have nolim : s.heap.NoLimit := e0.mod.nolimit.keeps (fun b o z => (e0.bs b o z).1)
  have kinds : ∀ y ∈ ps.zip us, (defScope st).names.lookup y.1 = some .local ∨ ((defScope st).names.lookup y.1 = some .cell ∧ ((cellsFrom (s.heap.objs.size + 1) (defScope st).names []).lookup y.1).isSome = true) := by
    rintro ⟨n, v⟩ hy
    rcases S.par n (List.of_mem_zip hy).1 with q | q
    · exact Or.inl q
    · exact Or.inr ⟨q, PySem.W.cellsFrom_some _ _ _ (Or.inl q)⟩
  refine codeAny_call_function hroom.depth (inK _ _ lk) rfl S.co S.gen rfl (PySem.W.codeRec_of inK hcd) (hbind _ _ _ _ (wpAny_newFunctionEnv_cells S.kind kinds ?_))
  intro env he s1 x1
  subst he
  refine ⟨nolim.keeps x1.toInCall.keep, codeAny_func ?_⟩
  obtain ⟨t, ht, hq⟩ := hbody cdv A outer s H vs Q E hsp
  have J : Inv (L2H.cxH (L2.CX P w) P w K mg base N qual (defScope st) f cdv A outer s H E p) [] (start N vs) H s1 := L2H.inv_startH S pin e0 hlen rv x1
  refine wpAny_mono (ht.run [] s1 (start N vs) H _ J hq) ?_ (fun _ _ z => z)
  intro fl s' hs
  cases fl with
  | ret u => exact let ⟨v, _, H', J', r', q'⟩ := hs; ⟨v, H', J'.os, J'.bare, J'.base, J'.hok, r', q'⟩
  | next => exact let ⟨_, H', J', q'⟩ := hs; ⟨V.non, H', J'.os, J'.bare, J'.base, J'.hok, rfl, q'⟩
  | brk => exact let ⟨_, _, _, q'⟩ := hs; False.elim q'
  | cont => exact let ⟨_, _, _, q'⟩ := hs; False.elim q'

/-- a list of answers -/
def blsP (bo : Str → Bool) (ns : List Str) : List D := ns.map fun x => .bl (bo x)
/-- what is asked of the def: the exception comes in, the answers go out -/
def spP (g : G) (a C dd : Addr) (c : Nat) (fs : List (Nat × D)) (ds : List D) : Sp := fun vs H Q _ => vs = [.ref a] ∧ ∃ μ st, RS g μ μ H st ∧ RX g μ H (some (C, dd)) (some (c, fs)) ∧ ∀ v μ' α' H', Step μ H μ' α' H' → relW g (.fr ds) st v μ' α' H' → Q v H'
/-- its text: two rows of questions, one behind the other -/
def kindsB (en pl : Str) : List Stmt → Option (List Str × List Str)
  | [.Assign [.Name x _] (.List es1 _) _, .Return (some (.BinOp (.Name y _) .Add (.List es2 _) _)) _] => if x = pl ∧ y = pl then (isL en es1).bind fun a => (isL en es2).map fun b => (a, b) else none
  | _ => none
section
variable {X : Cx} {g : G} {Wx : WX} {a C dd : Addr} {oe : Obj} {c : Nat} {fs : List (Nat × D)} {en pl : Str}
theorem kinds_body {body : List Stmt} {n1 n2 : List Str} {bo : Str → Bool} (hK : g.K = X.K) (hN : X.N = [en, pl]) (hne : en ≠ pl) (A : At X a C dd oe 0 en) (hv : Vis X.env.scope pl) (hl : L2.Loc X.env.scope pl) (hf : X.fn pl = true ∨ X.env.scope.names.lookup pl = some .local) (hd : (pl == ("__debug__" : Str)) = false) (hcd : (pl == ("__classdict__" : Str)) = false)
    (h : kindsB en pl body = some (n1, n2)) (hk : ∀ x ∈ n1 ++ n2, ClsAt X C x (bo x)) (hb : (n1 ++ n2).length ≤ 1000) :
    ∃ k, MSs X g Wx (some ((C, dd), a, 0)) (some (c, fs)) body k ∧ ∀ u v st, k [u, v] st = .ret (.fr (blsP bo (n1 ++ n2))) st := by
  unfold kindsB at h
  split at h
  · rename_i x p1 es1 p2 p3 y p4 es2 p5 p6 p7
    split at h
    · rename_i hc
      obtain ⟨hc1, hc2⟩ := hc
      subst hc1 hc2
      obtain ⟨a1, h1, h2⟩ := Option.bind_eq_some_iff.mp h
      obtain ⟨a2, h3, h4⟩ := Option.map_eq_some_iff.mp h2
      injection h4 with h4 h5
      subst h4 h5
      rw [List.length_append] at hb
      have hNd : X.N.Nodup := by rw [hN]; simp [hne]
      have hj : X.N[1]? = some y := by rw [hN]; rfl
      have L1 := mes_isP (g := g) (Wx := Wx) (c := c) (fs := fs) A es1 a1 h1 fun z hz => hk z (List.mem_append_left _ hz)
      have L2 := mes_isP (g := g) (Wx := Wx) (c := c) (fs := fs) A es2 a2 h3 fun z hz => hk z (List.mem_append_right _ hz)
      refine ⟨_, mss_let (j := 1) hNd hj hl (me_lst L1) (by rfl) hf (fun p q i e => by cases e; decide) (mss_cons (ms_ret (me_bin hK (me_var hj hv hd hcd) (me_lst L2))) mss_nil), fun u v st => ?_⟩
      have e1 : (a1.map fun z => D.bl (bo z)).length ≤ big := by rw [List.length_map]; unfold big; omega
      have e2 : (a2.map fun z => D.bl (bo z)).length ≤ big := by rw [List.length_map]; unfold big; omega
      have e3 : opBin .Add (.lst (a1.map fun z => D.bl (bo z))) (.lst (a2.map fun z => D.bl (bo z))) st = .ok (.fr ((a1.map fun z => D.bl (bo z)) ++ (a2.map fun z => D.bl (bo z)))) st := by
        have : (a1.map fun z => D.bl (bo z)).length + (a2.map fun z => D.bl (bo z)).length ≤ big := by rw [List.length_map, List.length_map]; unfold big; omega
        rw [List.length_map, List.length_map] at this
        simp [opBin, seqL, this]
      dsimp only [Res.bind]
      rw [if_pos e1]
      show seqO (stp (Res.bind (if (a2.map fun z => D.bl (bo z)).length ≤ big then (Res.ok (W.fr (a2.map fun z => D.bl (bo z))) st : Res W) else Res.stuck) fun (y : W) st => opBin .Add (.lst (a1.map fun z => D.bl (bo z))) y.d st) _ _) _ = _
      rw [if_pos e2]
      show seqO (stp (opBin .Add (.lst (a1.map fun z => D.bl (bo z))) (.lst (a2.map fun z => D.bl (bo z))) st) _ _) _ = _
      rw [e3]
      unfold blsP
      rw [List.map_append]
      rfl
    · cases h
  · cases h
end
end Fw

/-! ## Fz5 -/
set_option Elab.async false
set_option linter.all false
set_option maxRecDepth 100000
set_option maxHeartbeats 16000000
/-! The evaluator, step by step, for proofs about what a def computes. -/
namespace Fw
open PySem L2
/-- one turn of a loop -/
noncomputable def stepL (Δ : Dl) (tg b : T) : D → Lc → Store → Out := fun d ρ st => match tgt tg d ρ with
  | none => .stuck
  | some ρ => exSs Δ b ρ st
section
variable (Δ : Dl) (t : T) (ρ : Lc) (st : Store)
theorem seqO_nx (k : Lc → Store → Out) : seqO (.nx ρ st) k = k ρ st := rfl
theorem seqO_ret (w : W) (k : Lc → Store → Out) : seqO (.ret w st) k = .ret w st := rfl
theorem seqO_exc (c : Nat) (fs : List (Nat × D)) (k : Lc → Store → Out) : seqO (.exc c fs ρ st) k = .exc c fs ρ st := rfl
theorem seqO_bk (k : Lc → Store → Out) : seqO (.bk ρ st) k = .bk ρ st := rfl
theorem seqO_if (p : Prop) [Decidable p] (a b : Out) (k : Lc → Store → Out) : seqO (if p then a else b) k = if p then seqO a k else seqO b k := by split <;> rfl
theorem stp_ok {α : Type} (a : α) (k : α → Store → Out) : stp (.ok a st) ρ k = k a st := rfl
theorem stp_exc {α : Type} (c : Nat) (fs : List (Nat × D)) (k : α → Store → Out) : stp (.exc c fs st) ρ k = .exc c fs ρ st := rfl
theorem stp_if {α : Type} (p : Prop) [Decidable p] (a b : Res α) (k : α → Store → Out) : stp (if p then a else b) ρ k = if p then stp a ρ k else stp b ρ k := by split <;> rfl
theorem bind_if {α β : Type} (p : Prop) [Decidable p] (a b : Res α) (k : α → Store → Res β) : (if p then a else b).bind k = if p then a.bind k else b.bind k := by split <;> rfl
theorem stp_seq {α : Type} (r : Res α) (k : α → Store → Out) (k2 : Lc → Store → Out) : seqO (stp r ρ k) k2 = stp r ρ fun a st => seqO (k a st) k2 := by cases r <;> rfl
theorem ss_nil : exSs Δ .nil ρ st = .nx ρ st := exSs_nil ..
theorem ss_set (i : Nat) (e : T) : exSs Δ (.cons (.set i e) t) ρ st = stp (evE Δ e ρ st) ρ fun w st => exSs Δ t (ρ.put i w.d) st := by
  rw [exSs_cons _ _ _ rfl, xS_set]; cases evE Δ e ρ st <;> rfl
theorem ss_unp (is : List Nat) (e : T) : exSs Δ (.cons (.unp is e) t) ρ st = stp (evE Δ e ρ st) ρ fun w st => match tgt (.tgT is) w.d ρ with | some ρ => exSs Δ t ρ st | none => .stuck := by
  rw [exSs_cons _ _ _ rfl, xS_unp]
  cases evE Δ e ρ st with
  | ok w st' => dsimp only [stp]; cases tgt (.tgT is) w.d ρ <;> rfl
  | _ => rfl
theorem ss_par (is : List Nat) (es : T) : exSs Δ (.cons (.par is es) t) ρ st = stp (evEs Δ es ρ st) ρ fun ds st => if ds.length = is.length then exSs Δ t (ρ.puts is ds) st else .stuck := by
  rw [exSs_cons _ _ _ rfl, xS_par]
  cases evEs Δ es ρ st with
  | ok w st' => dsimp only [stp]; by_cases hh : w.length = is.length <;> simp [hh]
  | _ => rfl
theorem ss_unpF (f k : Nat) (o x e : T) : exSs Δ (.cons (.unpF f k o x e) t) ρ st = stp ((evE Δ e ρ st).bind fun w st => pairF w.d fun d d2 => (evE Δ o ρ st).bind fun u st => (setF Δ.flds u.d f d st).bind fun _ st => (evE Δ x ρ st).bind fun u st => setF Δ.flds u.d k d2 st) ρ fun _ st => exSs Δ t ρ st := by
  rw [exSs_cons _ _ _ rfl, xS_unpF]; cases (evE Δ e ρ st).bind fun w st => pairF w.d fun d d2 => (evE Δ o ρ st).bind fun u st => (setF Δ.flds u.d f d st).bind fun _ st => (evE Δ x ρ st).bind fun u st => setF Δ.flds u.d k d2 st <;> rfl
theorem ss_fset (f : Nat) (o e : T) : exSs Δ (.cons (.fset f o e) t) ρ st = stp ((evE Δ e ρ st).bind fun y st => (evE Δ o ρ st).bind fun x st => setF Δ.flds x.d f y.d st) ρ fun _ st => exSs Δ t ρ st := by
  rw [exSs_cons _ _ _ rfl, xS_fset]; cases (evE Δ e ρ st).bind fun y st => (evE Δ o ρ st).bind fun x st => setF Δ.flds x.d f y.d st <;> rfl
theorem ss_iset (o i e : T) : exSs Δ (.cons (.iset o i e) t) ρ st = stp ((evE Δ e ρ st).bind fun y st => (evE Δ o ρ st).bind fun x st => (evE Δ i ρ st).bind fun z st => opSet x.d z.d y.d st) ρ fun _ st => exSs Δ t ρ st := by
  rw [exSs_cons _ _ _ rfl, xS_iset]; cases (evE Δ e ρ st).bind fun y st => (evE Δ o ρ st).bind fun x st => (evE Δ i ρ st).bind fun z st => opSet x.d z.d y.d st <;> rfl
theorem ss_aug (o : Operator) (i : Nat) (e : T) : exSs Δ (.cons (.aug o i e) t) ρ st = match ρ.get i with | some x => stp ((evE Δ e ρ st).bind fun y st => opAug o x y.d st) ρ fun z st => exSs Δ t (ρ.put i z) st | none => .stuck := by
  rw [exSs_cons _ _ _ rfl, xS_aug]
  cases ρ.get i with
  | none => rfl
  | some x => dsimp only; cases (evE Δ e ρ st).bind fun y st => opAug o x y.d st <;> rfl
theorem ss_dput (o i e : T) : exSs Δ (.cons (.dput o i e) t) ρ st = stp ((evE Δ e ρ st).bind fun y st => (evE Δ o ρ st).bind fun x st => (evE Δ i ρ st).bind fun z st => opDput x.d z.d y.d st) ρ fun _ st => exSs Δ t ρ st := by
  rw [exSs_cons _ _ _ rfl, xS_dput]; cases (evE Δ e ρ st).bind fun y st => (evE Δ o ρ st).bind fun x st => (evE Δ i ρ st).bind fun z st => opDput x.d z.d y.d st <;> rfl
theorem ss_iaug (o : Operator) (a i e : T) : exSs Δ (.cons (.iaug o a i e) t) ρ st = stp ((evE Δ a ρ st).bind fun x st => (evE Δ i ρ st).bind fun z st => (opAt x.d z.d st).bind fun v st => (evE Δ e ρ st).bind fun y st => (opAug o v y.d st).bind fun u st => opSet x.d z.d u st) ρ fun _ st => exSs Δ t ρ st := by
  rw [exSs_cons _ _ _ rfl, xS_iaug]; cases (evE Δ a ρ st).bind fun x st => (evE Δ i ρ st).bind fun z st => (opAt x.d z.d st).bind fun v st => (evE Δ e ρ st).bind fun y st => (opAug o v y.d st).bind fun u st => opSet x.d z.d u st <;> rfl
theorem ss_faug (o : Operator) (f : Nat) (x e : T) : exSs Δ (.cons (.faug o f x e) t) ρ st = stp ((evE Δ x ρ st).bind fun x st => match getF Δ.flds st x.d f with
      | some v => (evE Δ e ρ st).bind fun y st' => (opAug o v y.d st').bind fun z st'' => if clsId st x.d = clsId st'' x.d then setF Δ.flds x.d f z st'' else .stuck
      | none => .stuck) ρ fun _ st => exSs Δ t ρ st := by
  rw [exSs_cons _ _ _ rfl, xS_faug]
  cases (evE Δ x ρ st).bind fun x st => match getF Δ.flds st x.d f with
      | some v => (evE Δ e ρ st).bind fun y st' => (opAug o v y.d st').bind fun z st'' => if clsId st x.d = clsId st'' x.d then setF Δ.flds x.d f z st'' else .stuck
      | none => .stuck
  all_goals rfl
theorem ss_ex (e : T) : exSs Δ (.cons (.ex e) t) ρ st = stp (evE Δ e ρ st) ρ fun _ st => exSs Δ t ρ st := by rw [exSs_cons _ _ _ rfl, xS_ex]; cases evE Δ e ρ st <;> rfl
theorem ss_ret (e : T) : exSs Δ (.cons (.ret e) t) ρ st = stp (evE Δ e ρ st) ρ fun w st => .ret w st := by rw [exSs_cons _ _ _ rfl, xS_ret]; cases evE Δ e ρ st <;> rfl
theorem ss_retN : exSs Δ (.cons .retN t) ρ st = .ret (.v .non) st := by rw [exSs_cons _ _ _ rfl, exS_retN]
theorem ss_pass : exSs Δ (.cons .pass t) ρ st = exSs Δ t ρ st := by rw [exSs_cons _ _ _ rfl, exS_pass]
theorem ss_brk : exSs Δ (.cons .brk t) ρ st = .bk ρ st := by rw [exSs_cons _ _ _ rfl, exS_brk]
theorem ss_if (c a b : T) : exSs Δ (.cons (.if_ c a b) t) ρ st = stp (evT Δ c ρ st) ρ fun k st => if k = true then seqO (exSs Δ a ρ st) (exSs Δ t) else seqO (exSs Δ b ρ st) (exSs Δ t) := by
  rw [exSs_cons _ _ _ rfl, xS_if]
  cases evT Δ c ρ st with
  | ok k st' =>
    cases k
    · dsimp only [stp]; unfold seqO; cases exSs Δ b ρ st' <;> rfl
    · dsimp only [stp]; unfold seqO; cases exSs Δ a ρ st' <;> rfl
  | _ => rfl
theorem ss_for (tg it b : T) : exSs Δ (.cons (.for_ tg it b) t) ρ st = stp (evI Δ it ρ st) ρ fun ds st => seqO (forM (stepL Δ tg b) ds ρ st) (exSs Δ t) := by
  rw [exSs_cons _ _ _ rfl, xS_for]
  cases evI Δ it ρ st with
  | ok k st' =>
    dsimp only [stp]; unfold seqO
    show (match forM (stepL Δ tg b) k ρ st' with | .nx ρ st => exSs Δ t ρ st | o => o) = _
    cases forM (stepL Δ tg b) k ρ st' <;> rfl
  | _ => rfl
theorem ss_wh (c b : T) : exSs Δ (.cons (.wh c b) t) ρ st = seqO (whl (fun ρ st => evT Δ c ρ st) (fun ρ st => exSs Δ b ρ st) ρ st) (exSs Δ t) := by
  rw [exSs_cons _ _ _ rfl, exS_wh]; unfold seqO; cases whl (fun ρ st => evT Δ c ρ st) (fun ρ st => exSs Δ b ρ st) ρ st <;> rfl
theorem ss_rais (k : Nat) (es : T) : exSs Δ (.cons (.rais k es) t) ρ st = stp (evEs Δ es ρ st) ρ fun ds st => if ds.length = (Δ.exf k).length then .exc k ((Δ.exf k).zip ds) ρ st else .stuck := by
  rw [exSs_cons _ _ _ rfl, xS_rais]
  cases evEs Δ es ρ st with
  | ok w st' => dsimp only [stp]; by_cases hh : w.length = (Δ.exf k).length <;> simp [hh]
  | _ => rfl
theorem ss_try (b hs : T) : exSs Δ (.cons (.try_ b hs) t) ρ st = seqO (match exSs Δ b ρ st with | .exc c fs ρ st => exH Δ hs c fs ρ st | o => o) (exSs Δ t) := by
  rw [exSs_cons _ _ _ rfl, exS_try_]
  cases exSs Δ b ρ st with
  | exc c fs ρ' st' => dsimp only; unfold seqO; cases exH Δ hs c fs ρ' st' <;> rfl
  | _ => rfl
theorem step_N (i : Nat) (b : T) (d : D) : stepL Δ (.tgN i) b d ρ st = exSs Δ b (ρ.put i d) st := rfl
theorem step_T (is : List Nat) (b : T) (ds : List D) (h : ds.length = is.length) : stepL Δ (.tgT is) b (.tup ds) ρ st = exSs Δ b (ρ.puts is ds) st := by
  unfold stepL tgt
  dsimp only
  rw [if_pos h]
theorem eE_lc (own : List Nat) (tg it cd el : T) : evE Δ (.lc own tg it cd el) ρ st = mLc tg own (evI Δ it) (evT Δ cd) (evE Δ el) ρ st := evE_lc ..
theorem eE_lcq (own : List Nat) (tg it cd el : T) : evE Δ (.lcq own tg it cd el) ρ st = mLcq tg own (evI Δ it) (evT Δ cd) (evE Δ el) ρ st := evE_lcq ..
/-- a loop that keeps the store and walks on -/
theorem forM_fold {step : D → Lc → Store → Out} {α : Type} (f : α → D → α) (R : α → Lc) : ∀ (ds : List D) (a : α), (∀ a, ∀ d ∈ ds, step d (R a) st = .nx (R (f a d)) st) → forM step ds (R a) st = .nx (R (ds.foldl f a)) st
  | [], a, _ => rfl
  | d :: ds, a, h => by
    unfold forM
    rw [h a d List.mem_cons_self]
    exact forM_fold f R ds (f a d) fun a d hd => h a d (List.mem_cons_of_mem _ hd)
theorem get_zero (x : Option D) (ρ : Lc) : Lc.get (x :: ρ) 0 = x := by cases x <;> rfl
theorem get_succ (x : Option D) (ρ : Lc) (i : Nat) : Lc.get (x :: ρ) (i + 1) = Lc.get ρ i := rfl
theorem put_zero (x : Option D) (ρ : Lc) (d : D) : Lc.put (x :: ρ) 0 d = some d :: ρ := rfl
theorem put_succ (x : Option D) (ρ : Lc) (i : Nat) (d : D) : Lc.put (x :: ρ) (i + 1) d = x :: Lc.put ρ i d := rfl
theorem tgt_N (i : Nat) (d : D) : tgt (.tgN i) d ρ = some (ρ.put i d) := rfl
theorem runFn_eq (fn : Fn) (args : List D) (h : args.length = fn.np) : runFn Δ fn args st = match exSs Δ fn.body (args.map some ++ List.replicate (fn.ns - fn.np) none) st with
    | .ret w st' => finish st w st'
    | .nx _ st' => finish st (.v .non) st'
    | .exc c fs _ st' => .exc c fs st'
    | _ => .stuck := by
  unfold runFn
  rw [if_pos h] <;> rfl
/-- nothing was left behind -/
theorem finish_same (d : D) (h : ∀ n, d ≠ .ref n) (hb : below st.length d = true) : finish st (.v d) st = .ok (.v d) st := by
  unfold finish
  rw [if_pos ⟨Nat.le_refl _, fun n o _ e => .inl e⟩]
  dsimp only
  rw [if_pos hb, List.take_length]
end
end Fw

/-! ## Xm -/
set_option Elab.async false
set_option linter.all false
set_option maxRecDepth 100000
set_option maxHeartbeats 4000000
/-! The def that asks keeps its promise; the suite. -/
namespace Fw
open PySem PySem.Spec PyProof.Rows L2
theorem vis_of {sc : Scope} {x : Str} (h : visB sc x = true) : Vis sc x ∧ (x == ("__debug__" : Str)) = false ∧ (x == ("__classdict__" : Str)) = false := by
  simp only [visB, Bool.and_eq_true, Bool.or_eq_true, beq_iff_eq, Bool.not_eq_true'] at h
  refine ⟨?_, h.1.2, h.2⟩
  unfold Vis
  rcases h.1.1 with (h | h) | h
  · exact .inl h
  · exact .inr (.inl h)
  · exact .inr (.inr h)
theorem gl_of {X : Cx} {sc : Scope} {x : Str} (hs : X.env.scope = sc) (h : glB sc x = true) : Gl X x ∧ (x == ("__debug__" : Str)) = false := by
  simp only [glB, Bool.and_eq_true, beq_iff_eq, Bool.not_eq_true'] at h
  refine ⟨?_, h.2⟩
  show X.env.scope.names.lookup x = _
  rw [hs]; exact h.1
theorem kinds_ok {P : Program} {w : World} {K : PySem.W.Frag} {mg : Str → Option Value} {base : Heap} {g : G} {k : Nat} {x qual : Str} {st0 : Stmt} {f : Addr} {fd : FuncData} {a C dd : Addr} {oe : Obj} {c : Nat} {fs : List (Nat × D)} {en pl : Str} {n1 n2 : List Str} {bo : Str → Bool}
    (F : Fun K x qual st0 f fd) (S : FnScope [en, pl] [en] (defScope st0)) (hK : g.K = K) (T : ExcC K C) (hz : Zc (.ref C) (some dd) oe) (hf : ∃ vs, oe.data = .fields vs) (hne : en ≠ pl) (ht : kindsB en pl (defBody st0) = some (n1, n2))
    (s1 : visB (defScope st0) en = true) (s2 : visB (defScope st0) pl = true) (s3 : plB (defScope st0) pl = true) (s4 : glB (defScope st0) "isinstance" = true) (s5 : (n1 ++ n2).all (glB (defScope st0)) = true) (m1 : mg "isinstance" = none)
    (m2 : ∀ y ∈ n1 ++ n2, ∃ Ck, mg y = some (.ref Ck) ∧ PySem.W.kitOne K (.ref C) (.ref Ck) = some (bo y)) (hb : (n1 ++ n2).length ≤ 1000) :
    FnP P w K mg base (k + 1) f fd [en] (a, oe) (spP g a C dd c fs (blsP bo (n1 ++ n2))) := by
  refine fnP_of F S (fun vs H Q E h => by rw [h.1]; rfl) fun cdv A outer s H vs Q E hsp => ?_
  obtain ⟨rfl, μ, st, rs, rx, post⟩ := hsp
  have v1 := vis_of s1
  have v2 := vis_of s2
  have v3 : (defScope st0).names.lookup pl = some .local := by simpa [plB] using s3
  have hA : At (L2H.cxH (L2.CX P w) P w K mg base [en, pl] qual (defScope st0) f cdv A outer s H E (a, oe)) a C dd oe 0 en :=
    ⟨T, List.mem_cons_self, hz, hf, rfl, v1.1, v1.2.1, v1.2.2, (gl_of (X := L2H.cxH (L2.CX P w) P w K mg base [en, pl] qual (defScope st0) f cdv A outer s H E (a, oe)) rfl s4).1, m1⟩
  obtain ⟨kk, h1, h2⟩ := kinds_body (X := L2H.cxH (L2.CX P w) P w K mg base [en, pl] qual (defScope st0) f cdv A outer s H E (a, oe)) (g := g) (Wx := W0) (c := c) (fs := fs) (bo := bo) hK rfl hne hA v2.1 (.inl v3) (.inr v3) v2.2.1 v2.2.2 ht (fun y hy => by
    obtain ⟨Ck, e1, e2⟩ := m2 y hy
    have gy := gl_of (X := L2H.cxH (L2.CX P w) P w K mg base [en, pl] qual (defScope st0) f cdv A outer s H E (a, oe)) rfl (List.all_eq_true.mp s5 y hy)
    exact ⟨.ref Ck, .ref Ck, fun p => pe_glob gy.1 e1 rfl gy.2, fun u r => r, e2⟩) hb
  refine ⟨_, h1, [none, none], μ, st, ⟨⟨rfl, fun i d e => ?_⟩, rs, rx, fun p a' i e => by cases e; rfl⟩, ?_⟩
  · unfold Lc.get at e
    match i, e with
    | 0, e => cases e
    | 1, e => cases e
    | i + 2, e => simp at e
  · rw [h2]
    exact fun v μ' α' H' s r => post v μ' α' H' s r
theorem me_callP {X : Cx} {g : G} {a C dd : Addr} {oe : Obj} {pn : List (Addr × Obj)} {i : Nat} {en x : Str} {c : Nat} {fs : List (Nat × D)} {ds : List D} {p p2 pos : Pos} {k : Nat} {f : Addr} {fd : FuncData} {ps : List Str}
    (F : FnP X.prog X.w X.K X.mg X.base k f fd ps (a, oe) (spP g a C dd c fs ds)) (hr : L2H.RoomH k X.A) (kp : PySem.W.keepIn X.K (.ref f) = true) (hb : Binds X.K fd ps []) (hg : Gl X x) (hm : X.mg x = some (.ref f)) (hdb : (x == ("__debug__" : Str)) = false)
    (A : At (X.suite a ((a, oe) :: pn)) a C dd oe i en) : ME (X.suite a ((a, oe) :: pn)) g W0 (some ((C, dd), a, i)) (some (c, fs)) (.Call (.Name x p) [.Name en p2] [] pos) (fun _ st => .ok (.fr ds) st) := by
  have ha : PA (X.suite a ((a, oe) :: pn)) [.Name en p2] (tCons (tVar i) tNil) := pa_cons (pe_var A.N A.v A.d A.cd) pa_nil rfl
  refine ⟨fun pins s σ H Q I ⟨ρ, μ, st, hs, post⟩ => wpAny_Call_Name_kw (ld_glob (X := X.suite a ((a, oe) :: pn)) I hg hm (PySem.W.callWith_K (h₀ := X.base) I.ok.mod.kin kp (thn (ha.run pos pins s σ H (fun vs H1 => spP g a C dd c fs ds vs H1 Q (fun _ _ _ => False)) I
    (show tCons (tVar i) tNil σ H _ from ⟨.ref a, hs.slot _ a i rfl, rfl, μ, st, hs.rs, hs.ex, post⟩)) ?_) rfl rfl) hdb)⟩
  rintro us s1 ⟨vs, H1, I1, r, q⟩
  refine ⟨I1.kIn, ?_⟩
  have hl : us.length = ps.length := by rw [← r.length]; exact F.len _ _ _ (fun _ _ _ => False) q
  have bd := hb s1 us I1.kIn (by simpa using hl)
  rw [List.append_nil] at bd
  have P1 := I1.pin (a, oe) (List.mem_append_left _ List.mem_cons_self)
  have hpin : L2H.PinOk X.stack H1 s1 (a, oe) := ⟨P1.1, P1.2.1, fun hm => (List.mem_cons.mp (I1.stkSub a hm)).elim P1.2.2.1 P1.2.2.2.1, P1.2.2.2.2⟩
  refine wpAny_call (codeAny_mono (F.run (X.A.mark (some (.ref a))) X.stack s1 H1 ⟨us, []⟩ us vs Q (fun _ _ _ => False) ⟨hr.dp, hr.un⟩ hpin I1.env0 bd r q) ?_)
  intro res s' hq
  match res, hq with
  | .error er, hq =>
    obtain ⟨_, _, _, _, _, _, _, _, _, _, _, _, z⟩ := hq
    exact z.elim
  | .ok (.ret u), hq => exact I1.after hq
  | .ok .next, hq => exact hq.elim
  | .ok .brk, hq => exact hq.elim
  | .ok .cont, hq => exact hq.elim
end Fw

/-! ## Xn -/
set_option Elab.async false
set_option linter.all false
set_option maxRecDepth 100000
set_option maxHeartbeats 4000000
/-! A suite that hands its exception to a def; the def around it; all defs together. -/
namespace Fw
open PySem PySem.Spec PyProof.Rows L2
def sK (Δ : Dl) (ds : Nat → List D) (c : Nat) : Lc → Store → Out := if (Δ.exf c).isEmpty = true then fun _ _ => .stuck else fun _ st => .ret (.fr (ds c)) st
section
variable {X : Cx} {g : G} {ev : Ev} {Δ : Dl} {Wx : WX} {ck : Ck} {i k : Nat} {en kx : Str} {f : Addr} {fd : FuncData} {ps : List Str} {ds : Nat → List D}
theorem suite_MSs (L : Lx X g ev Δ Wx none none ck) (q1 : slotB ck i en = true) (q2 : visB ck.sc en = true) (q3 : glB ck.sc "isinstance" = true) (q4 : glB ck.sc "ValueError" = true) (q5 : glB ck.sc kx = true) (mv : X.mg "ValueError" = none)
    (hv : ∀ c C, g.cls c = some C → Δ.exf c ≠ [] → PySem.W.kitOne X.K (.ref C) (.type "ValueError") = some true)
    (hk : ∀ (a : Addr) (oe : Obj) (C dd : Addr) (c : Nat) (fs : List (Nat × D)), g.cls c = some C → Δ.exf c ≠ [] → Zc (.ref C) (some dd) oe → (∃ vs, oe.data = .fields vs) → FnP X.prog X.w X.K X.mg X.base k f fd ps (a, oe) (spP g a C dd c fs (ds c)))
    (hr : L2H.RoomH k X.A) (kp : PySem.W.keepIn X.K (.ref f) = true) (hb : Binds X.K fd ps []) (hm : X.mg kx = some (.ref f)) {p1 p2 p3 p4 p5 p6 p7 p8 p9 p10 : Pos} :
    ∀ (a : Addr) (oe : Obj) (C dd : Addr) (pn : List (Addr × Obj)) (c : Nat) (fs : List (Nat × D)), Zc (.ref C) (some dd) oe → (∃ vs, oe.data = .fields vs) →
      MSs (X.suite a ((a, oe) :: pn)) g W0 (some ((C, dd), a, i)) (some (c, fs)) [.Return (some (.IfExp (.Call (.Name "isinstance" p1) [.Name en p2, .Name "ValueError" p3] [] p4) (.Call (.Name kx p5) [.Name en p6] [] p7) (.List [] p8) p9)) p10] (sK Δ ds c) := by
  intro a oe C dd pn c fs hz hf
  by_cases hq : g.cls c = some C ∧ (Δ.exf c).isEmpty = false
  · obtain ⟨hC, hcf⟩ := hq
    have hne : Δ.exf c ≠ [] := by intro z; rw [z] at hcf; cases hcf
    have v := L.vis q2
    have A : At (X.suite a ((a, oe) :: pn)) a C dd oe i en := ⟨(L.fa.ex.x c C hC hne).2.1, List.mem_cons_self, hz, hf, L.slot q1, v.1, v.2.1, v.2.2, (L.gl q3).1, L.fa.isi⟩
    have hVE : ClsAt (X.suite a ((a, oe) :: pn)) C "ValueError" true := ⟨.ty "ValueError", .type "ValueError", fun p => pe_bltn (X := X.suite a ((a, oe) :: pn)) (L.gl q4).1 mv (by decide +kernel) rfl (by decide +kernel) (by decide +kernel), fun u r => r, hv c C hC hne⟩
    have t1 : MT (X.suite a ((a, oe) :: pn)) g W0 (some ((C, dd), a, i)) (some (c, fs)) (.Call (.Name "isinstance" p1) [.Name en p2, .Name "ValueError" p3] [] p4) (fun _ st => .ok true st) :=
      pt_eq (mt_truth (X := X.suite a ((a, oe) :: pn)) L.fa.hK (me_isP A hVE) (fun _ => rfl)) fun ρ st => rfl
    have t2 := me_callP (pos := p7) (p := p5) (p2 := p6) (hk a oe C dd c fs hC hne hz hf) hr kp hb (L.gl q5).1 hm (L.gl q5).2 A
    refine pss_eq (mss_cons (ms_ret (me_ite t1 t2 (me_lst mes_nil))) mss_nil) fun ρ st => ?_
    unfold sK
    rw [hcf, if_neg (by decide)]
    rfl
  · refine ⟨fun pins s σ H D I ⟨ρ, μ, st, hs, post⟩ => ?_⟩
    exfalso
    obtain ⟨C', dd', vs, e1, e2, e3, e4, rf⟩ := hs.ex
    cases e1
    have : (Δ.exf c).isEmpty = true := by
      cases h : (Δ.exf c).isEmpty with
      | true => rfl
      | false => exact absurd ⟨e2, h⟩ hq
    unfold sK at post
    rw [this, if_pos rfl] at post
    exact post
/-- the def's text -/
def caughtB (en kx cl : Str) : List Stmt → Option (List Stmt)
  | [.Try body [.ExceptHandler (some (.Name x _)) (some n) [.Return (some (.IfExp (.Call (.Name f1 _) [.Name e1 _, .Name v _] [] _) (.Call (.Name k1 _) [.Name e2 _] [] _) (.List [] _) _)) _] _] [] [] _, .Return (some (.List [] _)) _] =>
    if x = cl ∧ n = en ∧ f1 = "isinstance" ∧ e1 = en ∧ v = "ValueError" ∧ k1 = kx ∧ e2 = en then some body else none
  | _ => none
/-- what it computes -/
noncomputable def capS (Δ : Dl) (tb : T) (kc i : Nat) (ds : Nat → List D) : Lc → Store → Out := fun ρ st => seqO (match exSs Δ tb ρ st with | .exc c fs ρ st => hdO Δ.exf Δ.sub [⟨kc, some i, fun c _ => sK Δ ds c⟩] c fs ρ st | o => o) (fun _ st => .ret (.fr []) st)
theorem caught_MSs {cl : Str} {kc fu : Nat} {tb : T} {ss body : List Stmt} (L : Lx X g ev Δ Wx none none ck) (ht : caughtB en kx cl ss = some body) (hb0 : okSs ev fu ck.rest tb body = true) (q0 : ck.dl = true) (q1 : slotB ck i en = true) (q2 : visB ck.sc en = true) (q2' : plB ck.sc en = true) (q3 : glB ck.sc "isinstance" = true) (q4 : glB ck.sc "ValueError" = true) (q5 : glB ck.sc kx = true) (q6 : glB ck.sc cl = true) (q7 : ev.exm.lookup cl = some kc) (mv : X.mg "ValueError" = none)
    (hv : ∀ c C, g.cls c = some C → Δ.exf c ≠ [] → PySem.W.kitOne X.K (.ref C) (.type "ValueError") = some true)
    (hk : ∀ (a : Addr) (oe : Obj) (C dd : Addr) (c : Nat) (fs : List (Nat × D)), g.cls c = some C → Δ.exf c ≠ [] → Zc (.ref C) (some dd) oe → (∃ vs, oe.data = .fields vs) → FnP X.prog X.w X.K X.mg X.base k f fd ps (a, oe) (spP g a C dd c fs (ds c)))
    (hr : L2H.RoomH k X.A) (kp : PySem.W.keepIn X.K (.ref f) = true) (hb : Binds X.K fd ps []) (hm : X.mg kx = some (.ref f)) : MSs X g Wx none none ss (capS Δ tb kc i ds) := by
  unfold caughtB at ht
  split at ht
  · rename_i body' x p0 n f1 p1 e1 p2 v p3 p4 k1 p5 e2 p6 p7 p8 p9 p10 p11 p12 p13 p14
    split at ht
    · rename_i hc
      obtain ⟨c1, c2, c3, c4, c5, c6, c7⟩ := hc
      subst c1 c2 c3 c4 c5 c6
      cases ht
      subst c7
      have d := L.dlf q0
      have gl := L.gl q6
      obtain ⟨o1, Ck, o2, o3, o4, o5⟩ := L.fa.xm _ _ q7
      have hh : HdM X g ev.okx [.ExceptHandler (some (.Name x p0)) (some e2) [.Return (some (.IfExp (.Call (.Name "isinstance" p1) [.Name e2 p2, .Name "ValueError" p3] [] p4) (.Call (.Name k1 p5) [.Name e2 p6] [] p7) (.List [] p8) p9)) p10] p11] [⟨kc, some i, fun c _ => sK Δ ds c⟩] :=
        .named ⟨gl.1, gl.2, .inl o3⟩ o2 o1 (L.slot q1) (L.pl q2') (suite_MSs L q1 q2 q3 q4 q5 mv hv hk hr kp hb hm) .nil
      exact pss_eq (mss_cons (ms_try (exf := Δ.exf) (sub := Δ.sub) L.fa.ex d.1 d.2.1 L.ND L.tk (fun W pn xe tk po => (sndS ev fu).Ss hb0 (L.tr q0 tk po)) hh) (mss_cons (ms_ret (me_lst mes_nil)) mss_nil)) fun ρ st => rfl
    · cases ht
  · cases ht
end
end Fw

/-! ## Xo -/
set_option Elab.async false
set_option linter.all false
set_option maxRecDepth 100000
set_option maxHeartbeats 16000000
/-! A def whose promise is shown by hand, among the others. -/
namespace Fw
open PySem PySem.Spec PyProof.Rows L2
theorem def_ok2 {P : Program} {w : World} {K : PySem.W.Frag} {mg : Str → Option Value} {base : Heap} {g : G} {ev : Ev} {Δ : Dl} {n : Nat} {x qual : Str} {st0 : Stmt} {a : Addr} {fd : FuncData} {N ps : List Str} {fn : Fn} (F : Fun K x qual st0 a fd) (S : FnScope N ps (defScope st0))
    (hp : fn.np = ps.length) (hs : fn.ns = N.length) (fa : Fa P w K mg base g ev Δ n)
    (hss : ∀ (cdv : Value) (A : Around) (outer : List Env) (s : Shared) (H : Hp) (E : XK), L2H.RoomH n (A.deeper (envOfC qual (defScope st0) s.heap.objs.size a cdv)) →
      Lx (cxOf (L2.CX P w) P w K mg base N qual (defScope st0) a cdv A outer s H E) g ev Δ (fun cls d _ H => E cls d H) none none { N := N, sc := defScope st0, n := n } →
      MSs (cxOf (L2.CX P w) P w K mg base N qual (defScope st0) a cdv A outer s H E) g (fun cls d _ H => E cls d H) none none (defBody st0) (exSs Δ fn.body)) : FnG P w K mg base (n + 1) a fd ps (spF g (runFn Δ fn)) := by
  have hlen : ∀ vs H Q E, spF g (runFn Δ fn) vs H Q E → vs.length = ps.length := by
    rintro vs H Q E ⟨ds, μ, st, rv, rs, post⟩
    unfold runFn at post
    by_cases h : ds.length = fn.np
    · rw [← rv.length, h, hp]
    · rw [if_neg h] at post; exact post.elim
  refine fnG_of F S hlen fun cdv A outer s H vs Q E hgu hroom hsp => ?_
  have hl := hlen _ _ _ _ hsp
  obtain ⟨ds, μ, st, rv, rs, post⟩ := hsp
  have L : Lx (cxOf (L2.CX P w) P w K mg base N qual (defScope st0) a cdv A outer s H E) g ev Δ (fun cls d _ H => E cls d H) none none { N := N, sc := defScope st0, n := n } :=
    ⟨fa, rfl, S.nd, rfl, S.kind, guards_deeper hgu, by have := hroom.un; show (A.deeper _).units + 128 < _; omega, fun _ => ⟨rfl, hroom⟩, takes_of rfl rfl rfl rfl, fun _ _ => rfl, fun _ => ⟨rfl, rfl, passes_of rfl⟩, fun _ _ h => by cases h⟩
  refine ⟨_, hss cdv A outer s H E (L2H.roomH_of hroom) L, ?_⟩
  unfold runFn at post
  have hd : ds.length = fn.np := by rw [rv.length, hl, hp]
  rw [if_pos hd] at post
  refine ⟨ds.map some ++ List.replicate (fn.ns - fn.np) none, μ, st, .mk0 ?_ rs, ?_⟩
  · have := rv.start (fn.ns - fn.np)
    unfold L2.start
    rw [show N.length - vs.length = fn.ns - fn.np from by rw [hl, hs, hp]]
    exact this
  · cases e : exSs Δ fn.body (ds.map some ++ List.replicate (fn.ns - fn.np) none) st with
    | stuck => rw [e] at post; exact post
    | bk ρ st' => rw [e] at post; exact post.elim
    | nx ρ st' =>
      rw [e] at post
      exact fun σ' μ' H' s hl hr => finish_ok rs s (show relW g (.v .non) st' V.non μ' μ' H' from ⟨rfl, .non, hr⟩) post
    | ret w' st' =>
      rw [e] at post
      exact fun v μ' α' H' s r => finish_ok rs s r post
    | exc c fs ρ st' =>
      rw [e] at post
      exact fun σ' C dd μ' H' s hx hl hr => post C dd μ' H' s hx hr
theorem all_ok2 {P : Program} {w : World} {K : PySem.W.Frag} {mg : Str → Option Value} {g : G} {ev : Ev} {Δ : Dl} (Y : Fb P w K mg g ev Δ)
    (R : ∀ i a, g.fn i = some a → Row P K ev Δ i a ∨ ∀ base, Fa P w K mg base g ev Δ (ev.lv i) → FOk P w K mg base g (ev.lv i + 1) a (Δ.fns i)) (base : Heap) : ∀ n, Fa P w K mg base g ev Δ n := fun n => by
  induction n using Nat.strongRecOn with
  | ind n ih =>
    refine ⟨Y.hK, Y.nm, Y.okF, Y.lv, Y.exf, Y.fn, fun m f a hm hf hl => ?_, Y.cs, Y.bl, Y.ty, Y.isi, Y.rg, Y.zp, Y.en, Y.cl, Y.nw, Y.mt, Y.ex, Y.xm⟩
    rcases R f a hf with r | r
    · exact r.ok (ih _ (by omega)) hl
    · obtain ⟨kp, fd, ps, hb, F⟩ := r base (ih _ (by omega))
      exact ⟨kp, fd, ps, hb, F.mono hl⟩
/-! the terms -/
def eis : List Nat → T
  | [] => .nil
  | k :: ks => .cons (.eisi k) (eis ks)
theorem evEs_eis {Δ : Dl} {c : Nat} {fs : List (Nat × D)} (h : (Δ.exf c).isEmpty = false) (ρ : Lc) (st : Store) : ∀ ks : List Nat, evEs { Δ with xn := some (c, fs) } (eis ks) ρ st = .ok (ks.map fun k => .bl (Δ.sub c k)) st
  | [] => evEs_nil ..
  | k :: ks => by
    rw [eis, evEs_cons, evE_eisi]
    show Res.bind (if (Δ.exf c).isEmpty = true then (Res.stuck : Res W) else Res.ok (W.v (.bl (Δ.sub c k))) st) _ = _
    rw [h, if_neg (by decide)]
    show Res.bind (evEs { Δ with xn := some (c, fs) } (eis ks) ρ st) _ = _
    rw [evEs_eis h ρ st ks]; rfl
theorem cap_eq (Δ : Dl) (tb : T) (kc i : Nat) (ks : List Nat) (hl : ks.length ≤ 1000) (ρ : Lc) (st : Store) :
    exSs Δ (.cons (.try_ tb (.cons (.hd kc (some i) (.cons (.ret (.lst (eis ks))) .nil)) .nil)) (.cons (.ret (.lst .nil)) .nil)) ρ st = capS Δ tb kc i (fun c => ks.map fun k => .bl (Δ.sub c k)) ρ st := by
  have e0 : ∀ ρ st, exSs Δ (.cons (.ret (.lst .nil)) .nil) ρ st = .ret (.fr []) st := fun ρ st => by
    rw [ss_ret, evE_lst, evEs_nil]
    show stp (if ([] : List D).length ≤ big then (Res.ok (W.fr []) st : Res W) else Res.stuck) ρ _ = _
    rw [if_pos (by simp [big])]; rfl
  rw [ss_try]
  unfold capS
  cases e : exSs Δ tb ρ st with
  | exc c fs ρ' st' =>
    dsimp only
    rw [exH_cons, exH_nil]
    unfold hdO hdO
    by_cases h : (Δ.exf c).isEmpty = true
    · rw [if_pos h, if_pos h]; rfl
    · rw [if_neg h, if_neg h]
      by_cases h2 : Δ.sub c kc = true
      · rw [if_pos h2, if_pos h2, ss_ret, evE_lst, evEs_eis (by simpa using h)]
        have e1 : (Res.ok (ks.map fun k => D.bl (Δ.sub c k)) st').bind (fun ds st => if ds.length ≤ big then (Res.ok (W.fr ds) st : Res W) else Res.stuck) = Res.ok (W.fr (ks.map fun k => D.bl (Δ.sub c k))) st' := if_pos (by rw [List.length_map]; unfold big; omega)
        rw [e1]
        have e2 : sK Δ (fun c => ks.map fun k => D.bl (Δ.sub c k)) c = fun _ st => .ret (.fr (ks.map fun k => D.bl (Δ.sub c k))) st := by unfold sK; rw [if_neg h]
        show _ = seqO (outN (some i) (sK Δ (fun c => ks.map fun k => D.bl (Δ.sub c k)) c (ρ'.wipe (some i).toList) st')) _
        rw [e2]
        rfl
      · rw [if_neg h2, if_neg h2]; rfl
  | nx ρ' st' => exact e0 ρ' st'
  | _ => rfl
end Fw

/-! ## T00 -/
set_option Elab.async false
set_option linter.all false
set_option maxRecDepth 100000
set_option maxHeartbeats 4000000
/-! k00: the terms of the defs. -/
namespace Fw.K00
open PySem PySem.Spec PyProof.Rows L2
def topS (i : Nat) : Stmt := PySem.Challenge.pw_packedwhole_k00_errors_and_limits.main.body.getD i (.Pass ⟨0, 0, 0, 0⟩)
def inCls (i j : Nat) : Stmt := match topS i with
  | .ClassDef _ _ _ b _ _ _ _ _ _ _ => b.getD j (.Pass ⟨0, 0, 0, 0⟩)
  | _ => .Pass ⟨0, 0, 0, 0⟩
def b_law_raise : T := (.cons (.if_ (.cmp .Eq (.var 0) (.int 0))
    (.cons (.rais 2 (.cons (.var 1) .nil)) .nil)
    .nil) (.cons (.if_ (.cmp .Eq (.var 0) (.int 1))
    (.cons (.rais 4 (.cons (.var 1) .nil)) .nil)
    .nil) (.cons (.if_ (.cmp .Eq (.var 0) (.int 2))
    (.cons (.rais 5 (.cons (.var 1) .nil)) .nil)
    .nil) (.cons (.if_ (.cmp .Eq (.var 0) (.int 3))
    (.cons (.rais 3 (.cons (.var 1) .nil)) .nil)
    .nil) (.cons (.if_ (.cmp .Eq (.var 0) (.int 4))
    (.cons (.rais 6 (.cons (.var 1) .nil)) .nil)
    .nil) (.cons (.if_ (.cmp .Eq (.var 0) (.int 5))
    (.cons (.rais 7 (.cons (.var 1) (.cons (.var 2) .nil))) .nil)
    .nil) (.cons (.rais 8 (.cons (.var 1) .nil)) .nil)))))))
def l1_law_draws : T := (.cons (.if_ (.cmp .Gt (.var 3) (.int 0))
    (.cons (.ex (.bm .append (.var 1) (.cons (.bin .Mod (.blt .int_ (.cons (.var 3) .nil)) (.int 1009)) .nil))) (.cons (.set 3 (.bin .FloorDiv (.var 3) (.int 1009))) .nil))
    .nil) .nil)
def l2_law_draws : T := (.cons (.set 5 (.bin .Mod (.blt .int_ (.cons (.bin .Add (.bin .Add (.bin .Mult (.var 5) (.int 16807)) (.bin .Mult (.int 69621) (.var 4))) (.int 5)) .nil)) (.int 2147483629))) (.cons (.ex (.bm .append (.var 1) (.cons (.bin .FloorDiv (.var 5) (.int 1009)) .nil))) .nil))
def l3_law_draws : T := (.cons (.set 3 (.blt .abs_ (.cons (.var 2) .nil))) (.cons (.if_ (.cmp .GtE (.var 3) (.bin .Pow (.int 10) (.int 18)))
    (.cons (.for_ (.tgN 4) (.itR1 (.int 60)) l1_law_draws) .nil)
    (.cons (.set 5 (.bin .Mod (.blt .int_ (.cons (.bin .Add (.bin .Mult (.var 3) (.int 48271)) (.int 11)) .nil)) (.int 2147483647))) (.cons (.for_ (.tgN 4) (.itR1 (.int 12)) l2_law_draws) (.cons (.forget [4, 5]) .nil)))) .nil))
def b_law_draws : T := (.cons (.set 1 (.alloc (.lst .nil))) (.cons (.for_ (.tgN 2) (.itE (.sl (.var 0) .no (.int 63))) l3_law_draws) (.cons (.forget [2, 3, 4, 5]) (.cons (.ret (.var 1)) .nil))))
def b_law_limits_right : T := (.cons (.set 0 (.lst (.cons (.cst 0) (.cons (.cst 1) (.cons (.cst 2) (.cons (.cst 4) (.cons (.cst 5) (.cons (.cst 6) (.cons (.cst 7) (.cons (.cst 8) (.cons (.cst 9) .nil))))))))))) (.cons (.set 0 (.bin .Add (.var 0) (.lst (.cons (.cst 10) (.cons (.cst 11) (.cons (.cst 12) (.cons (.cst 13) (.cons (.cst 14) (.cons (.cst 3) .nil))))))))) (.cons (.set 1 (.lst (.cons (.int 1200) (.cons (.int 256) (.cons (.int 34) (.cons (.int 512) (.cons (.int 12) (.cons (.int 300) (.cons (.int 4095) (.cons (.int 6000) (.cons (.int 24) (.cons (.int 12) (.cons (.int 128) (.cons (.int 200) (.cons (.int 20000) (.cons (.int 1020) (.cons (.int 3) .nil))))))))))))))))) (.cons (.ret (.cmp .Eq (.blt .repr_ (.cons (.var 0) .nil)) (.blt .repr_ (.cons (.var 1) .nil)))) .nil))))
def l1_law_more : T := (.cons (.if_ (.var 0)
    (.cons (.set 2 (.bin .Add (.var 2) (.idx (.var 0) (.bin .Mod (.blt .int_ (.cons (.bin .Add (.bin .Mult (.var 1) (.bin .Add (.var 3) (.int 5))) (.var 3)) .nil)) (.blt .len (.cons (.var 0) .nil)))))) .nil)
    .nil) (.cons (.set 2 (.bin .Mod (.blt .int_ (.cons (.bin .Add (.bin .Add (.bin .Mult (.var 2) (.int 16807)) (.bin .Mult (.int 69621) (.var 3))) (.int 5)) .nil)) (.int 2147483629))) .nil))
def b_law_more : T := (.cons (.set 2 (.bin .Mod (.blt .int_ (.cons (.bin .Add (.bin .Add (.bin .Mult (.var 1) (.int 48271)) (.blt .len (.cons (.var 0) .nil))) (.int 11)) .nil)) (.int 2147483629))) (.cons (.for_ (.tgN 3) (.itR1 (.int 3)) l1_law_more) (.cons (.forget [3]) (.cons (.ret (.bin .FloorDiv (.var 2) (.int 1009))) .nil))))
def tb_law_caught : T := (.cons (.ex (.call 0 (.cons (.var 0) (.cons (.var 1) (.cons (.var 2) .nil))))) .nil)
def b_law_caught : T := (.cons (.try_ tb_law_caught (.cons (.hd 0 (some 3) (.cons (.ret (.lst (eis [2, 4, 5, 3, 6, 7, 8]))) .nil)) .nil)) (.cons (.ret (.lst .nil)) .nil))
def b_law_fields : T := (.cons (.try_ (.cons (.ex (.call 0 (.cons (.var 0) (.cons (.var 1) (.cons (.var 2) .nil))))) .nil)
    (.cons (.hd 2 (some 3) (.cons (.ret (.tup (.cons (.efld 0) .nil))) .nil)) (.cons (.hd 4 (some 3) (.cons (.ret (.tup (.cons (.efld 0) .nil))) .nil)) (.cons (.hd 5 (some 3) (.cons (.ret (.tup (.cons (.efld 0) .nil))) .nil)) (.cons (.hd 3 (some 3) (.cons (.ret (.tup (.cons (.efld 0) .nil))) .nil)) (.cons (.hd 6 (some 3) (.cons (.ret (.tup (.cons (.efld 1) .nil))) .nil)) (.cons (.hd 7 (some 3) (.cons (.ret (.tup (.cons (.efld 1) (.cons (.efld 0) .nil)))) .nil)) (.cons (.hd 8 (some 3) (.cons (.ret (.tup (.cons (.efld 2) .nil))) .nil)) .nil)))))))) (.cons (.ret .non) .nil))
def b_law_take : T := (.cons (.set 3 (.idx (.var 1) (.int 0))) (.cons (.iset (.var 1) (.int 0) (.bin .Add (.var 3) (.int 1))) (.cons (.ret (.bin .Mod (.blt .int_ (.cons (.ite (.cmp .Lt (.var 3) (.blt .len (.cons (.var 0) .nil))) (.idx (.var 0) (.var 3)) (.call 3 (.cons (.var 0) (.cons (.var 3) .nil)))) .nil)) (.var 2))) .nil)))
def b_law_one : T := (.cons (.ret (.idx (.var 0) (.call 6 (.cons (.var 1) (.cons (.var 2) (.cons (.blt .len (.cons (.var 0) .nil)) .nil)))))) .nil)
def e1_law : T := (.cmp .Eq (.var 7) (.var 4))
def l2_law : T := (.cons (.par [5, 6] (.cons (.call 7 (.cons (.var 3) (.cons (.var 1) (.cons (.var 2) .nil)))) (.cons (.call 7 (.cons (.var 3) (.cons (.var 1) (.cons (.var 2) .nil)))) .nil))) (.cons (.if_ (.cmp .NotEq (.call 4 (.cons (.var 4) (.cons (.var 5) (.cons (.var 6) .nil)))) (.lc [7] (.tgN 7) (.itR1 (.int 7)) (.bl true) e1_law))
    (.cons (.ret (.bl false)) .nil)
    .nil) (.cons (.if_ (.cmp .NotEq (.blt .repr_ (.cons (.call 5 (.cons (.var 4) (.cons (.var 5) (.cons (.var 6) .nil)))) .nil)) (.blt .repr_ (.cons (.ite (.cmp .Eq (.var 4) (.int 5)) (.tup (.cons (.var 5) (.cons (.var 6) .nil))) (.tup (.cons (.var 5) .nil))) .nil)))
    (.cons (.ret (.bl false)) .nil)
    .nil) .nil)))
def b_law : T := (.cons (.set 1 (.call 1 (.cons (.var 0) .nil))) (.cons (.set 2 (.alloc (.lst (.cons (.int 0) .nil)))) (.cons (.if_ (.not (.call 2 .nil))
    (.cons (.ret (.bl false)) .nil)
    .nil) (.cons (.set 3 (.lst (.cons (.str "word") (.cons (.str "") (.cons (.str "form") (.cons (.int 0) (.cons (.int 17) (.cons (.neg (.int 3)) (.cons .non (.cons (.tup (.cons (.str "a") (.cons (.int 5) .nil))) (.cons (.str "a line") (.cons (.bl true) .nil)))))))))))) (.cons (.for_ (.tgN 4) (.itR1 (.int 7)) l2_law) (.cons (.forget [4, 5, 6]) (.cons (.ret (.bl true)) .nil)))))))

def ev : Ev where
  fnm := [(("_law_raise" : Str), 0), (("_law_draws" : Str), 1), (("_law_limits_right" : Str), 2), (("_law_more" : Str), 3), (("_law_caught" : Str), 4), (("_law_fields" : Str), 5), (("_law_take" : Str), 6), (("_law_one" : Str), 7), (("law" : Str), 8)]
  csm := [(("MAX_BYTES" : Str), 0), (("MAX_BLOCK" : Str), 1), (("MAX_MATCH" : Str), 2), (("MIN_MATCH" : Str), 3), (("MAX_WINDOW" : Str), 4), (("MAX_WIDTH" : Str), 5), (("MAX_SIGNS" : Str), 6), (("MAX_WEIGHT" : Str), 7), (("MAX_ARCHIVE" : Str), 8), (("MAX_THINGS" : Str), 9), (("MAX_NAME" : Str), 10), (("MAX_DICTIONARY" : Str), 11), (("MAX_LINES" : Str), 12), (("MAX_TEXT" : Str), 13), (("MAX_LEARNT" : Str), 14)]
  clm := []
  mtm := []
  exm := [(("PackedError" : Str), 0), (("ReasonError" : Str), 1), (("ArgumentError" : Str), 2), (("CheckError" : Str), 3), (("PaperError" : Str), 4), (("TooMany" : Str), 5), (("TextError" : Str), 6), (("BrokenError" : Str), 7), (("CommandError" : Str), 8)]
  nm := fun i => match i with
    | 0 => "reason"
    | 1 => "at"
    | 2 => "line"
    | _ => ""
  okF := fun i => decide (i < 3)
  lv := fun i => match i with
    | 0 => 0
    | 1 => 0
    | 2 => 0
    | 3 => 0
    | 4 => 1
    | 5 => 1
    | 6 => 1
    | 7 => 2
    | 8 => 3
    | _ => 0
  exf := fun i => match i with
    | 0 => []
    | 1 => [0]
    | 2 => [0]
    | 3 => [0]
    | 4 => [0]
    | 5 => [0]
    | 6 => [1]
    | 7 => [1, 0]
    | 8 => [2]
    | _ => []
  okx := fun i => decide (i = 0 ∨ i = 1 ∨ i = 2 ∨ i = 3 ∨ i = 4 ∨ i = 5 ∨ i = 6 ∨ i = 7 ∨ i = 8)
def N_law_raise : List Str := [("k" : Str), ("one" : Str), ("other" : Str)]
def P_law_raise : List Str := [("k" : Str), ("one" : Str), ("other" : Str)]
def f_law_raise : Fn := ⟨3, 3, b_law_raise⟩
theorem ok_law_raise : okSs ev 60 { N := N_law_raise, sc := defScope (topS 31), n := 0 } b_law_raise (defBody (topS 31)) = true := by decide +kernel
theorem sc_law_raise : FnScope N_law_raise P_law_raise (defScope (topS 31)) := ⟨by decide +kernel, by decide +kernel, by decide +kernel, by decide +kernel, by decide +kernel, by decide +kernel, by decide +kernel⟩
def N_law_draws : List Str := [("script" : Str), ("draws" : Str), ("cell" : Str), ("rest" : Str), ("k" : Str), ("mixed" : Str)]
def P_law_draws : List Str := [("script" : Str)]
def f_law_draws : Fn := ⟨1, 6, b_law_draws⟩
theorem ok_law_draws : okSs ev 60 { N := N_law_draws, sc := defScope (topS 26), n := 0 } b_law_draws (defBody (topS 26)) = true := by decide +kernel
theorem sc_law_draws : FnScope N_law_draws P_law_draws (defScope (topS 26)) := ⟨by decide +kernel, by decide +kernel, by decide +kernel, by decide +kernel, by decide +kernel, by decide +kernel, by decide +kernel⟩
def N_law_limits_right : List Str := [("told" : Str), ("due" : Str)]
def P_law_limits_right : List Str := []
def f_law_limits_right : Fn := ⟨0, 2, b_law_limits_right⟩
theorem ok_law_limits_right : okSs ev 60 { N := N_law_limits_right, sc := defScope (topS 30), n := 0 } b_law_limits_right (defBody (topS 30)) = true := by decide +kernel
theorem sc_law_limits_right : FnScope N_law_limits_right P_law_limits_right (defScope (topS 30)) := ⟨by decide +kernel, by decide +kernel, by decide +kernel, by decide +kernel, by decide +kernel, by decide +kernel, by decide +kernel⟩
def N_law_more : List Str := [("draws" : Str), ("place" : Str), ("mixed" : Str), ("k" : Str)]
def P_law_more : List Str := [("draws" : Str), ("place" : Str)]
def f_law_more : Fn := ⟨2, 4, b_law_more⟩
theorem ok_law_more : okSs ev 60 { N := N_law_more, sc := defScope (topS 27), n := 0 } b_law_more (defBody (topS 27)) = true := by decide +kernel
theorem sc_law_more : FnScope N_law_more P_law_more (defScope (topS 27)) := ⟨by decide +kernel, by decide +kernel, by decide +kernel, by decide +kernel, by decide +kernel, by decide +kernel, by decide +kernel⟩
def N_law_caught : List Str := [("k" : Str), ("one" : Str), ("other" : Str), ("e" : Str)]
def P_law_caught : List Str := [("k" : Str), ("one" : Str), ("other" : Str)]
def f_law_caught : Fn := ⟨3, 4, b_law_caught⟩
theorem sc_law_caught : FnScope N_law_caught P_law_caught (defScope (topS 33)) := ⟨by decide +kernel, by decide +kernel, by decide +kernel, by decide +kernel, by decide +kernel, by decide +kernel, by decide +kernel⟩
def N_law_fields : List Str := [("k" : Str), ("one" : Str), ("other" : Str), ("e" : Str)]
def P_law_fields : List Str := [("k" : Str), ("one" : Str), ("other" : Str)]
def f_law_fields : Fn := ⟨3, 4, b_law_fields⟩
theorem ok_law_fields : okSs ev 60 { N := N_law_fields, sc := defScope (topS 34), n := 1 } b_law_fields (defBody (topS 34)) = true := by decide +kernel
theorem sc_law_fields : FnScope N_law_fields P_law_fields (defScope (topS 34)) := ⟨by decide +kernel, by decide +kernel, by decide +kernel, by decide +kernel, by decide +kernel, by decide +kernel, by decide +kernel⟩
def N_law_take : List Str := [("draws" : Str), ("at" : Str), ("many" : Str), ("place" : Str)]
def P_law_take : List Str := [("draws" : Str), ("at" : Str), ("many" : Str)]
def f_law_take : Fn := ⟨3, 4, b_law_take⟩
theorem ok_law_take : okSs ev 60 { N := N_law_take, sc := defScope (topS 28), n := 1 } b_law_take (defBody (topS 28)) = true := by decide +kernel
theorem sc_law_take : FnScope N_law_take P_law_take (defScope (topS 28)) := ⟨by decide +kernel, by decide +kernel, by decide +kernel, by decide +kernel, by decide +kernel, by decide +kernel, by decide +kernel⟩
def N_law_one : List Str := [("rows" : Str), ("draws" : Str), ("at" : Str)]
def P_law_one : List Str := [("rows" : Str), ("draws" : Str), ("at" : Str)]
def f_law_one : Fn := ⟨3, 3, b_law_one⟩
theorem ok_law_one : okSs ev 60 { N := N_law_one, sc := defScope (topS 29), n := 2 } b_law_one (defBody (topS 29)) = true := by decide +kernel
theorem sc_law_one : FnScope N_law_one P_law_one (defScope (topS 29)) := ⟨by decide +kernel, by decide +kernel, by decide +kernel, by decide +kernel, by decide +kernel, by decide +kernel, by decide +kernel⟩
def N_law : List Str := [("script" : Str), ("draws" : Str), ("at" : Str), ("values" : Str), ("k" : Str), ("one" : Str), ("other" : Str), ("j" : Str)]
def P_law : List Str := [("script" : Str)]
def f_law : Fn := ⟨1, 8, b_law⟩
theorem ok_law : okSs ev 60 { N := N_law, sc := defScope (topS 35), n := 3 } b_law (defBody (topS 35)) = true := by decide +kernel
theorem sc_law : FnScope N_law P_law (defScope (topS 35)) := ⟨by decide +kernel, by decide +kernel, by decide +kernel, by decide +kernel, by decide +kernel, by decide +kernel, by decide +kernel⟩
end Fw.K00

/-! ## Fz6 -/
set_option Elab.async false
set_option linter.all false
set_option maxRecDepth 100000
set_option maxHeartbeats 16000000
/-! Loops. -/
namespace Fw
open PySem L2
/-- a loop over α, s what is left in names that no one reads -/
theorem forM_scr {step : D → Lc → Store → Out} {α σ : Type} (f : α → D → α) (R : α → σ → Lc) (st : Store) : ∀ (ds : List D) (a : α) (s : σ), (∀ a s, ∀ d ∈ ds, ∃ s', step d (R a s) st = .nx (R (f a d) s') st) → ∃ s', forM step ds (R a s) st = .nx (R (ds.foldl f a) s') st
  | [], a, s, _ => ⟨s, rfl⟩
  | d :: ds, a, s, h => by
    obtain ⟨s1, e⟩ := h a s d List.mem_cons_self
    unfold forM
    rw [e]
    exact forM_scr f R st ds (f a d) s1 fun a s d hd => h a s d (List.mem_cons_of_mem _ hd)
/-- .. with an invariant of the loop's value -/
theorem forM_inv {step : D → Lc → Store → Out} {α σ : Type} (f : α → D → α) (R : α → σ → Lc) (st : Store) (P : α → Prop) : ∀ (ds : List D) (a : α) (s : σ), P a → (∀ a s, P a → ∀ d ∈ ds, P (f a d) ∧ ∃ s', step d (R a s) st = .nx (R (f a d) s') st) → P (ds.foldl f a) ∧ ∃ s', forM step ds (R a s) st = .nx (R (ds.foldl f a) s') st
  | [], a, s, p, _ => ⟨p, s, rfl⟩
  | d :: ds, a, s, p, h => by
    obtain ⟨p1, s1, e⟩ := h a s p d List.mem_cons_self
    unfold forM
    rw [e]
    exact forM_inv f R st P ds (f a d) s1 p1 fun a s p d hd => h a s p d (List.mem_cons_of_mem _ hd)
theorem wipe_nil (ρ : Lc) : ρ.wipe [] = ρ := rfl
theorem wipe_cons (ρ : Lc) (i : Nat) (is : List Nat) : ρ.wipe (i :: is) = (ρ.wipe is).set i none := rfl
end Fw

/-! ## Fz7 -/
set_option Elab.async false
set_option linter.all false
set_option maxRecDepth 100000
set_option maxHeartbeats 4000000
/-! What a term computes hangs only on the defs that it calls (printed by gen_low.py). -/
namespace Fw
open PySem L2
/-- all the defs that a term calls have a level below n -/
def low (lv : Nat → Nat) (n : Nat) : T → Bool
  | .nil => true
  | .cons h t => low lv n h && low lv n t
  | .no => true
  | .var _ => true
  | .int _ => true
  | .str _ => true
  | .bl _ => true
  | .non => true
  | .cst _ => true
  | .fnv _ => true
  | .efld _ => true
  | .eisi _ => true
  | .bin _ a b => low lv n a && low lv n b
  | .neg a => low lv n a
  | .not a => low lv n a
  | .and a b => low lv n a && low lv n b
  | .or a b => low lv n a && low lv n b
  | .cmp _ a b => low lv n a && low lv n b
  | .chain _ _ a b c => low lv n a && low lv n b && low lv n c
  | .ite c a b => low lv n c && low lv n a && low lv n b
  | .tup es => low lv n es
  | .lst es => low lv n es
  | .call f es => decide (lv f < n) && low lv n es
  | .callv m f es => decide (m ≤ n) && low lv n f && low lv n es
  | .new _ f es => decide (lv f < n) && low lv n es
  | .meth _ _ f o es => decide (lv f < n) && low lv n o && low lv n es
  | .blt _ es => low lv n es
  | .isi _ e => low lv n e
  | .bm _ o es => low lv n o && low lv n es
  | .idx a i => low lv n a && low lv n i
  | .sl a lo hi => low lv n a && low lv n lo && low lv n hi
  | .rev a => low lv n a
  | .fld _ o => low lv n o
  | .lc _ tg it cd el => low lv n tg && low lv n it && low lv n cd && low lv n el
  | .lcq _ tg it cd el => low lv n tg && low lv n it && low lv n cd && low lv n el
  | .lc2 _ tg it cd tg2 it2 cd2 el => low lv n tg && low lv n it && low lv n cd && low lv n tg2 && low lv n it2 && low lv n cd2 && low lv n el
  | .alloc e => low lv n e
  | .dnew => true
  | .dget o k x => low lv n o && low lv n k && low lv n x
  | .dset o k x => low lv n o && low lv n k && low lv n x
  | .lcL _ tg _ cd el => low lv n tg && low lv n cd && low lv n el
  | .itE e => low lv n e
  | .itR1 a => low lv n a
  | .itR2 a b => low lv n a && low lv n b
  | .itR3 a b c => low lv n a && low lv n b && low lv n c
  | .itZ a b => low lv n a && low lv n b
  | .itN a => low lv n a
  | .itEn e => low lv n e
  | .sit o => low lv n o
  | .tgN _ => true
  | .tgT _ => true
  | .set _ e => low lv n e
  | .unp _ e => low lv n e
  | .par _ es => low lv n es
  | .unpF _ _ o x e => low lv n o && low lv n x && low lv n e
  | .fset _ o e => low lv n o && low lv n e
  | .iset o i e => low lv n o && low lv n i && low lv n e
  | .aug _ _ e => low lv n e
  | .faug _ _ x e => low lv n x && low lv n e
  | .dput o k e => low lv n o && low lv n k && low lv n e
  | .iaug _ a i e => low lv n a && low lv n i && low lv n e
  | .forL tg _ body => low lv n tg && low lv n body
  | .ex e => low lv n e
  | .ret e => low lv n e
  | .retN => true
  | .if_ c a b => low lv n c && low lv n a && low lv n b
  | .for_ tg it body => low lv n tg && low lv n it && low lv n body
  | .wh c body => low lv n c && low lv n body
  | .pass => true
  | .brk => true
  | .rais _ es => low lv n es
  | .try_ body hs => low lv n body && low lv n hs
  | .hd _ _ suite => low lv n suite
  | .forget _ => true
structure Cg (Δ Δ' : Dl) (t : T) : Prop where
  E : ∀ ρ st, evE Δ t ρ st = evE Δ' t ρ st
  Es : ∀ ρ st, evEs Δ t ρ st = evEs Δ' t ρ st
  Tt : ∀ ρ st, evT Δ t ρ st = evT Δ' t ρ st
  P : ∀ ρ st, evP Δ t ρ st = evP Δ' t ρ st
  I : ∀ ρ st, evI Δ t ρ st = evI Δ' t ρ st
  S : ∀ ρ st, exS Δ t ρ st = exS Δ' t ρ st
  Ss : ∀ ρ st, exSs Δ t ρ st = exSs Δ' t ρ st
  Hh : ∀ c fs ρ st, exH Δ t c fs ρ st = exH Δ' t c fs ρ st
  hd : ∀ k i s, t = .hd k i s → ∀ x ρ st, exSs { Δ with xn := x } s ρ st = exSs { Δ' with xn := x } s ρ st
/-- they agree below n -/
structure Ag (lv : Nat → Nat) (n : Nat) (Δ Δ' : Dl) : Prop where
  fn : ∀ i, lv i < n → Δ.fns i = Δ'.fns i
  e : Δ' = { Δ with fns := Δ'.fns }
  lv : Δ.lv = lv
theorem Ag.x {lv n Δ Δ'} (h : Ag lv n Δ Δ') (x) : Ag lv n { Δ with xn := x } { Δ' with xn := x } := ⟨h.fn, by rw [h.e], h.lv⟩
theorem cong (lv : Nat → Nat) (n : Nat) (t : T) : low lv n t = true → ∀ Δ Δ', Ag lv n Δ Δ' → Cg Δ Δ' t := by
  induction t with
  | nil   =>
    intro hl Δ Δ' hg
    have hc : Δ'.cst = Δ.cst := by rw [hg.e]
    have hx : Δ'.exf = Δ.exf := by rw [hg.e]
    have hs : Δ'.sub = Δ.sub := by rw [hg.e]
    have hf : Δ'.flds = Δ.flds := by rw [hg.e]
    have hv : Δ'.lv = Δ.lv := by rw [hg.e]
    have hn : Δ'.xn = Δ.xn := by rw [hg.e]
    refine ⟨?_, ?_, ?_, ?_, ?_, ?_, ?_, ?_, fun _ _ _ h => by cases h⟩ <;> (intros; simp only [evE, evEs, evT, evP, evI, exS, exSs, exH, hc, hx, hs, hf, hv, hn] <;> first | rfl | done)
  | cons h_ t_ ih_h ih_t =>
    intro hl Δ Δ' hg
    have hc : Δ'.cst = Δ.cst := by rw [hg.e]
    have hx : Δ'.exf = Δ.exf := by rw [hg.e]
    have hs : Δ'.sub = Δ.sub := by rw [hg.e]
    have hf : Δ'.flds = Δ.flds := by rw [hg.e]
    have hv : Δ'.lv = Δ.lv := by rw [hg.e]
    have hn : Δ'.xn = Δ.xn := by rw [hg.e]
    simp only [low, Bool.and_eq_true, decide_eq_true_eq] at hl
    have A_h := ih_h hl.1 Δ Δ' hg
    have A_t := ih_t hl.2 Δ Δ' hg
    have hSs : ∀ ρ st, exSs Δ (.cons h_ t_) ρ st = exSs Δ' (.cons h_ t_) ρ st := fun ρ st => by
      cases hh : notForget h_ with
      | true => rw [exSs_cons _ _ _ hh, exSs_cons _ _ _ hh, A_h.S]; simp only [A_t.Ss]
      | false => cases h_ <;> first | (simp [notForget] at hh; done) | (rw [exSs_forget, exSs_forget, A_t.Ss])
    have hH : ∀ c fs ρ st, exH Δ (.cons h_ t_) c fs ρ st = exH Δ' (.cons h_ t_) c fs ρ st := fun c fs ρ st => by
      cases h_ with
      | hd k i b => rw [exH_cons, exH_cons, A_t.Hh, A_h.hd k i b rfl, show Δ.exf c = Δ'.exf c by rw [hx], show Δ.sub c k = Δ'.sub c k by rw [hs]]
      | _ => simp only [exH]
    refine ⟨?_, ?_, ?_, ?_, ?_, ?_, hSs, hH, fun _ _ _ h => by cases h⟩ <;> (intros; simp only [evE, evEs, evT, evP, evI, exS, exSs, exH, hc, hx, hs, hf, hv, hn, A_h.E, A_h.Es, A_h.Tt, A_h.P, A_h.I, A_h.S, A_h.Ss, A_h.Hh, A_t.E, A_t.Es, A_t.Tt, A_t.P, A_t.I, A_t.S, A_t.Ss, A_t.Hh] <;> first | rfl | done)
  | no   =>
    intro hl Δ Δ' hg
    have hc : Δ'.cst = Δ.cst := by rw [hg.e]
    have hx : Δ'.exf = Δ.exf := by rw [hg.e]
    have hs : Δ'.sub = Δ.sub := by rw [hg.e]
    have hf : Δ'.flds = Δ.flds := by rw [hg.e]
    have hv : Δ'.lv = Δ.lv := by rw [hg.e]
    have hn : Δ'.xn = Δ.xn := by rw [hg.e]
    refine ⟨?_, ?_, ?_, ?_, ?_, ?_, ?_, ?_, fun _ _ _ h => by cases h⟩ <;> (intros; simp only [evE, evEs, evT, evP, evI, exS, exSs, exH, hc, hx, hs, hf, hv, hn] <;> first | rfl | done)
  | var i_  =>
    intro hl Δ Δ' hg
    have hc : Δ'.cst = Δ.cst := by rw [hg.e]
    have hx : Δ'.exf = Δ.exf := by rw [hg.e]
    have hs : Δ'.sub = Δ.sub := by rw [hg.e]
    have hf : Δ'.flds = Δ.flds := by rw [hg.e]
    have hv : Δ'.lv = Δ.lv := by rw [hg.e]
    have hn : Δ'.xn = Δ.xn := by rw [hg.e]
    refine ⟨?_, ?_, ?_, ?_, ?_, ?_, ?_, ?_, fun _ _ _ h => by cases h⟩ <;> (intros; simp only [evE, evEs, evT, evP, evI, exS, exSs, exH, hc, hx, hs, hf, hv, hn] <;> first | rfl | done)
  | int i_  =>
    intro hl Δ Δ' hg
    have hc : Δ'.cst = Δ.cst := by rw [hg.e]
    have hx : Δ'.exf = Δ.exf := by rw [hg.e]
    have hs : Δ'.sub = Δ.sub := by rw [hg.e]
    have hf : Δ'.flds = Δ.flds := by rw [hg.e]
    have hv : Δ'.lv = Δ.lv := by rw [hg.e]
    have hn : Δ'.xn = Δ.xn := by rw [hg.e]
    refine ⟨?_, ?_, ?_, ?_, ?_, ?_, ?_, ?_, fun _ _ _ h => by cases h⟩ <;> (intros; simp only [evE, evEs, evT, evP, evI, exS, exSs, exH, hc, hx, hs, hf, hv, hn] <;> first | rfl | done)
  | str x_  =>
    intro hl Δ Δ' hg
    have hc : Δ'.cst = Δ.cst := by rw [hg.e]
    have hx : Δ'.exf = Δ.exf := by rw [hg.e]
    have hs : Δ'.sub = Δ.sub := by rw [hg.e]
    have hf : Δ'.flds = Δ.flds := by rw [hg.e]
    have hv : Δ'.lv = Δ.lv := by rw [hg.e]
    have hn : Δ'.xn = Δ.xn := by rw [hg.e]
    refine ⟨?_, ?_, ?_, ?_, ?_, ?_, ?_, ?_, fun _ _ _ h => by cases h⟩ <;> (intros; simp only [evE, evEs, evT, evP, evI, exS, exSs, exH, hc, hx, hs, hf, hv, hn] <;> first | rfl | done)
  | bl b_  =>
    intro hl Δ Δ' hg
    have hc : Δ'.cst = Δ.cst := by rw [hg.e]
    have hx : Δ'.exf = Δ.exf := by rw [hg.e]
    have hs : Δ'.sub = Δ.sub := by rw [hg.e]
    have hf : Δ'.flds = Δ.flds := by rw [hg.e]
    have hv : Δ'.lv = Δ.lv := by rw [hg.e]
    have hn : Δ'.xn = Δ.xn := by rw [hg.e]
    refine ⟨?_, ?_, ?_, ?_, ?_, ?_, ?_, ?_, fun _ _ _ h => by cases h⟩ <;> (intros; simp only [evE, evEs, evT, evP, evI, exS, exSs, exH, hc, hx, hs, hf, hv, hn] <;> first | rfl | done)
  | non   =>
    intro hl Δ Δ' hg
    have hc : Δ'.cst = Δ.cst := by rw [hg.e]
    have hx : Δ'.exf = Δ.exf := by rw [hg.e]
    have hs : Δ'.sub = Δ.sub := by rw [hg.e]
    have hf : Δ'.flds = Δ.flds := by rw [hg.e]
    have hv : Δ'.lv = Δ.lv := by rw [hg.e]
    have hn : Δ'.xn = Δ.xn := by rw [hg.e]
    refine ⟨?_, ?_, ?_, ?_, ?_, ?_, ?_, ?_, fun _ _ _ h => by cases h⟩ <;> (intros; simp only [evE, evEs, evT, evP, evI, exS, exSs, exH, hc, hx, hs, hf, hv, hn] <;> first | rfl | done)
  | cst k_  =>
    intro hl Δ Δ' hg
    have hc : Δ'.cst = Δ.cst := by rw [hg.e]
    have hx : Δ'.exf = Δ.exf := by rw [hg.e]
    have hs : Δ'.sub = Δ.sub := by rw [hg.e]
    have hf : Δ'.flds = Δ.flds := by rw [hg.e]
    have hv : Δ'.lv = Δ.lv := by rw [hg.e]
    have hn : Δ'.xn = Δ.xn := by rw [hg.e]
    refine ⟨?_, ?_, ?_, ?_, ?_, ?_, ?_, ?_, fun _ _ _ h => by cases h⟩ <;> (intros; simp only [evE, evEs, evT, evP, evI, exS, exSs, exH, hc, hx, hs, hf, hv, hn] <;> first | rfl | done)
  | fnv f_  =>
    intro hl Δ Δ' hg
    have hc : Δ'.cst = Δ.cst := by rw [hg.e]
    have hx : Δ'.exf = Δ.exf := by rw [hg.e]
    have hs : Δ'.sub = Δ.sub := by rw [hg.e]
    have hf : Δ'.flds = Δ.flds := by rw [hg.e]
    have hv : Δ'.lv = Δ.lv := by rw [hg.e]
    have hn : Δ'.xn = Δ.xn := by rw [hg.e]
    refine ⟨?_, ?_, ?_, ?_, ?_, ?_, ?_, ?_, fun _ _ _ h => by cases h⟩ <;> (intros; simp only [evE, evEs, evT, evP, evI, exS, exSs, exH, hc, hx, hs, hf, hv, hn] <;> first | rfl | done)
  | efld f_  =>
    intro hl Δ Δ' hg
    have hc : Δ'.cst = Δ.cst := by rw [hg.e]
    have hx : Δ'.exf = Δ.exf := by rw [hg.e]
    have hs : Δ'.sub = Δ.sub := by rw [hg.e]
    have hf : Δ'.flds = Δ.flds := by rw [hg.e]
    have hv : Δ'.lv = Δ.lv := by rw [hg.e]
    have hn : Δ'.xn = Δ.xn := by rw [hg.e]
    refine ⟨?_, ?_, ?_, ?_, ?_, ?_, ?_, ?_, fun _ _ _ h => by cases h⟩ <;> (intros; simp only [evE, evEs, evT, evP, evI, exS, exSs, exH, hc, hx, hs, hf, hv, hn] <;> first | rfl | done)
  | eisi c_  =>
    intro hl Δ Δ' hg
    have hc : Δ'.cst = Δ.cst := by rw [hg.e]
    have hx : Δ'.exf = Δ.exf := by rw [hg.e]
    have hs : Δ'.sub = Δ.sub := by rw [hg.e]
    have hf : Δ'.flds = Δ.flds := by rw [hg.e]
    have hv : Δ'.lv = Δ.lv := by rw [hg.e]
    have hn : Δ'.xn = Δ.xn := by rw [hg.e]
    refine ⟨?_, ?_, ?_, ?_, ?_, ?_, ?_, ?_, fun _ _ _ h => by cases h⟩ <;> (intros; simp only [evE, evEs, evT, evP, evI, exS, exSs, exH, hc, hx, hs, hf, hv, hn] <;> first | rfl | done)
  | bin o_ a_ b_ ih_a ih_b =>
    intro hl Δ Δ' hg
    have hc : Δ'.cst = Δ.cst := by rw [hg.e]
    have hx : Δ'.exf = Δ.exf := by rw [hg.e]
    have hs : Δ'.sub = Δ.sub := by rw [hg.e]
    have hf : Δ'.flds = Δ.flds := by rw [hg.e]
    have hv : Δ'.lv = Δ.lv := by rw [hg.e]
    have hn : Δ'.xn = Δ.xn := by rw [hg.e]
    simp only [low, Bool.and_eq_true, decide_eq_true_eq] at hl
    have A_a := ih_a hl.1 Δ Δ' hg
    have A_b := ih_b hl.2 Δ Δ' hg
    refine ⟨?_, ?_, ?_, ?_, ?_, ?_, ?_, ?_, fun _ _ _ h => by cases h⟩ <;> (intros; simp only [evE, evEs, evT, evP, evI, exS, exSs, exH, hc, hx, hs, hf, hv, hn, A_a.E, A_a.Es, A_a.Tt, A_a.P, A_a.I, A_a.S, A_a.Ss, A_a.Hh, A_b.E, A_b.Es, A_b.Tt, A_b.P, A_b.I, A_b.S, A_b.Ss, A_b.Hh] <;> first | rfl | done)
  | neg a_ ih_a =>
    intro hl Δ Δ' hg
    have hc : Δ'.cst = Δ.cst := by rw [hg.e]
    have hx : Δ'.exf = Δ.exf := by rw [hg.e]
    have hs : Δ'.sub = Δ.sub := by rw [hg.e]
    have hf : Δ'.flds = Δ.flds := by rw [hg.e]
    have hv : Δ'.lv = Δ.lv := by rw [hg.e]
    have hn : Δ'.xn = Δ.xn := by rw [hg.e]
    simp only [low, Bool.and_eq_true, decide_eq_true_eq] at hl
    have A_a := ih_a hl Δ Δ' hg
    refine ⟨?_, ?_, ?_, ?_, ?_, ?_, ?_, ?_, fun _ _ _ h => by cases h⟩ <;> (intros; simp only [evE, evEs, evT, evP, evI, exS, exSs, exH, hc, hx, hs, hf, hv, hn, A_a.E, A_a.Es, A_a.Tt, A_a.P, A_a.I, A_a.S, A_a.Ss, A_a.Hh] <;> first | rfl | done)
  | not a_ ih_a =>
    intro hl Δ Δ' hg
    have hc : Δ'.cst = Δ.cst := by rw [hg.e]
    have hx : Δ'.exf = Δ.exf := by rw [hg.e]
    have hs : Δ'.sub = Δ.sub := by rw [hg.e]
    have hf : Δ'.flds = Δ.flds := by rw [hg.e]
    have hv : Δ'.lv = Δ.lv := by rw [hg.e]
    have hn : Δ'.xn = Δ.xn := by rw [hg.e]
    simp only [low, Bool.and_eq_true, decide_eq_true_eq] at hl
    have A_a := ih_a hl Δ Δ' hg
    refine ⟨?_, ?_, ?_, ?_, ?_, ?_, ?_, ?_, fun _ _ _ h => by cases h⟩ <;> (intros; simp only [evE, evEs, evT, evP, evI, exS, exSs, exH, hc, hx, hs, hf, hv, hn, A_a.E, A_a.Es, A_a.Tt, A_a.P, A_a.I, A_a.S, A_a.Ss, A_a.Hh] <;> first | rfl | done)
  | and a_ b_ ih_a ih_b =>
    intro hl Δ Δ' hg
    have hc : Δ'.cst = Δ.cst := by rw [hg.e]
    have hx : Δ'.exf = Δ.exf := by rw [hg.e]
    have hs : Δ'.sub = Δ.sub := by rw [hg.e]
    have hf : Δ'.flds = Δ.flds := by rw [hg.e]
    have hv : Δ'.lv = Δ.lv := by rw [hg.e]
    have hn : Δ'.xn = Δ.xn := by rw [hg.e]
    simp only [low, Bool.and_eq_true, decide_eq_true_eq] at hl
    have A_a := ih_a hl.1 Δ Δ' hg
    have A_b := ih_b hl.2 Δ Δ' hg
    refine ⟨?_, ?_, ?_, ?_, ?_, ?_, ?_, ?_, fun _ _ _ h => by cases h⟩ <;> (intros; simp only [evE, evEs, evT, evP, evI, exS, exSs, exH, hc, hx, hs, hf, hv, hn, A_a.E, A_a.Es, A_a.Tt, A_a.P, A_a.I, A_a.S, A_a.Ss, A_a.Hh, A_b.E, A_b.Es, A_b.Tt, A_b.P, A_b.I, A_b.S, A_b.Ss, A_b.Hh] <;> first | rfl | done)
  | or a_ b_ ih_a ih_b =>
    intro hl Δ Δ' hg
    have hc : Δ'.cst = Δ.cst := by rw [hg.e]
    have hx : Δ'.exf = Δ.exf := by rw [hg.e]
    have hs : Δ'.sub = Δ.sub := by rw [hg.e]
    have hf : Δ'.flds = Δ.flds := by rw [hg.e]
    have hv : Δ'.lv = Δ.lv := by rw [hg.e]
    have hn : Δ'.xn = Δ.xn := by rw [hg.e]
    simp only [low, Bool.and_eq_true, decide_eq_true_eq] at hl
    have A_a := ih_a hl.1 Δ Δ' hg
    have A_b := ih_b hl.2 Δ Δ' hg
    refine ⟨?_, ?_, ?_, ?_, ?_, ?_, ?_, ?_, fun _ _ _ h => by cases h⟩ <;> (intros; simp only [evE, evEs, evT, evP, evI, exS, exSs, exH, hc, hx, hs, hf, hv, hn, A_a.E, A_a.Es, A_a.Tt, A_a.P, A_a.I, A_a.S, A_a.Ss, A_a.Hh, A_b.E, A_b.Es, A_b.Tt, A_b.P, A_b.I, A_b.S, A_b.Ss, A_b.Hh] <;> first | rfl | done)
  | cmp o_ a_ b_ ih_a ih_b =>
    intro hl Δ Δ' hg
    have hc : Δ'.cst = Δ.cst := by rw [hg.e]
    have hx : Δ'.exf = Δ.exf := by rw [hg.e]
    have hs : Δ'.sub = Δ.sub := by rw [hg.e]
    have hf : Δ'.flds = Δ.flds := by rw [hg.e]
    have hv : Δ'.lv = Δ.lv := by rw [hg.e]
    have hn : Δ'.xn = Δ.xn := by rw [hg.e]
    simp only [low, Bool.and_eq_true, decide_eq_true_eq] at hl
    have A_a := ih_a hl.1 Δ Δ' hg
    have A_b := ih_b hl.2 Δ Δ' hg
    refine ⟨?_, ?_, ?_, ?_, ?_, ?_, ?_, ?_, fun _ _ _ h => by cases h⟩ <;> (intros; simp only [evE, evEs, evT, evP, evI, exS, exSs, exH, hc, hx, hs, hf, hv, hn, A_a.E, A_a.Es, A_a.Tt, A_a.P, A_a.I, A_a.S, A_a.Ss, A_a.Hh, A_b.E, A_b.Es, A_b.Tt, A_b.P, A_b.I, A_b.S, A_b.Ss, A_b.Hh] <;> first | rfl | done)
  | chain o_ o'_ a_ b_ c_ ih_a ih_b ih_c =>
    intro hl Δ Δ' hg
    have hc : Δ'.cst = Δ.cst := by rw [hg.e]
    have hx : Δ'.exf = Δ.exf := by rw [hg.e]
    have hs : Δ'.sub = Δ.sub := by rw [hg.e]
    have hf : Δ'.flds = Δ.flds := by rw [hg.e]
    have hv : Δ'.lv = Δ.lv := by rw [hg.e]
    have hn : Δ'.xn = Δ.xn := by rw [hg.e]
    simp only [low, Bool.and_eq_true, decide_eq_true_eq] at hl
    have A_a := ih_a hl.1.1 Δ Δ' hg
    have A_b := ih_b hl.1.2 Δ Δ' hg
    have A_c := ih_c hl.2 Δ Δ' hg
    refine ⟨?_, ?_, ?_, ?_, ?_, ?_, ?_, ?_, fun _ _ _ h => by cases h⟩ <;> (intros; simp only [evE, evEs, evT, evP, evI, exS, exSs, exH, hc, hx, hs, hf, hv, hn, A_a.E, A_a.Es, A_a.Tt, A_a.P, A_a.I, A_a.S, A_a.Ss, A_a.Hh, A_b.E, A_b.Es, A_b.Tt, A_b.P, A_b.I, A_b.S, A_b.Ss, A_b.Hh, A_c.E, A_c.Es, A_c.Tt, A_c.P, A_c.I, A_c.S, A_c.Ss, A_c.Hh] <;> first | rfl | done)
  | ite c_ a_ b_ ih_c ih_a ih_b =>
    intro hl Δ Δ' hg
    have hc : Δ'.cst = Δ.cst := by rw [hg.e]
    have hx : Δ'.exf = Δ.exf := by rw [hg.e]
    have hs : Δ'.sub = Δ.sub := by rw [hg.e]
    have hf : Δ'.flds = Δ.flds := by rw [hg.e]
    have hv : Δ'.lv = Δ.lv := by rw [hg.e]
    have hn : Δ'.xn = Δ.xn := by rw [hg.e]
    simp only [low, Bool.and_eq_true, decide_eq_true_eq] at hl
    have A_c := ih_c hl.1.1 Δ Δ' hg
    have A_a := ih_a hl.1.2 Δ Δ' hg
    have A_b := ih_b hl.2 Δ Δ' hg
    refine ⟨?_, ?_, ?_, ?_, ?_, ?_, ?_, ?_, fun _ _ _ h => by cases h⟩ <;> (intros; simp only [evE, evEs, evT, evP, evI, exS, exSs, exH, hc, hx, hs, hf, hv, hn, A_c.E, A_c.Es, A_c.Tt, A_c.P, A_c.I, A_c.S, A_c.Ss, A_c.Hh, A_a.E, A_a.Es, A_a.Tt, A_a.P, A_a.I, A_a.S, A_a.Ss, A_a.Hh, A_b.E, A_b.Es, A_b.Tt, A_b.P, A_b.I, A_b.S, A_b.Ss, A_b.Hh] <;> first | rfl | done)
  | tup es_ ih_es =>
    intro hl Δ Δ' hg
    have hc : Δ'.cst = Δ.cst := by rw [hg.e]
    have hx : Δ'.exf = Δ.exf := by rw [hg.e]
    have hs : Δ'.sub = Δ.sub := by rw [hg.e]
    have hf : Δ'.flds = Δ.flds := by rw [hg.e]
    have hv : Δ'.lv = Δ.lv := by rw [hg.e]
    have hn : Δ'.xn = Δ.xn := by rw [hg.e]
    simp only [low, Bool.and_eq_true, decide_eq_true_eq] at hl
    have A_es := ih_es hl Δ Δ' hg
    refine ⟨?_, ?_, ?_, ?_, ?_, ?_, ?_, ?_, fun _ _ _ h => by cases h⟩ <;> (intros; simp only [evE, evEs, evT, evP, evI, exS, exSs, exH, hc, hx, hs, hf, hv, hn, A_es.E, A_es.Es, A_es.Tt, A_es.P, A_es.I, A_es.S, A_es.Ss, A_es.Hh] <;> first | rfl | done)
  | lst es_ ih_es =>
    intro hl Δ Δ' hg
    have hc : Δ'.cst = Δ.cst := by rw [hg.e]
    have hx : Δ'.exf = Δ.exf := by rw [hg.e]
    have hs : Δ'.sub = Δ.sub := by rw [hg.e]
    have hf : Δ'.flds = Δ.flds := by rw [hg.e]
    have hv : Δ'.lv = Δ.lv := by rw [hg.e]
    have hn : Δ'.xn = Δ.xn := by rw [hg.e]
    simp only [low, Bool.and_eq_true, decide_eq_true_eq] at hl
    have A_es := ih_es hl Δ Δ' hg
    refine ⟨?_, ?_, ?_, ?_, ?_, ?_, ?_, ?_, fun _ _ _ h => by cases h⟩ <;> (intros; simp only [evE, evEs, evT, evP, evI, exS, exSs, exH, hc, hx, hs, hf, hv, hn, A_es.E, A_es.Es, A_es.Tt, A_es.P, A_es.I, A_es.S, A_es.Ss, A_es.Hh] <;> first | rfl | done)
  | call f_ es_ ih_es =>
    intro hl Δ Δ' hg
    have hc : Δ'.cst = Δ.cst := by rw [hg.e]
    have hx : Δ'.exf = Δ.exf := by rw [hg.e]
    have hs : Δ'.sub = Δ.sub := by rw [hg.e]
    have hf : Δ'.flds = Δ.flds := by rw [hg.e]
    have hv : Δ'.lv = Δ.lv := by rw [hg.e]
    have hn : Δ'.xn = Δ.xn := by rw [hg.e]
    simp only [low, Bool.and_eq_true, decide_eq_true_eq] at hl
    have hd_ := hl.1
    have A_es := ih_es hl.2 Δ Δ' hg
    refine ⟨?_, ?_, ?_, ?_, ?_, ?_, ?_, ?_, fun _ _ _ h => by cases h⟩ <;> (intros; simp only [evE, evEs, evT, evP, evI, exS, exSs, exH, hc, hx, hs, hf, hv, hn, A_es.E, A_es.Es, A_es.Tt, A_es.P, A_es.I, A_es.S, A_es.Ss, A_es.Hh, hg.fn _ hd_] <;> first | rfl | done)
  | callv m f_ es_ ih_f ih_es =>
    intro hl Δ Δ' hg
    have hc : Δ'.cst = Δ.cst := by rw [hg.e]
    have hx : Δ'.exf = Δ.exf := by rw [hg.e]
    have hs : Δ'.sub = Δ.sub := by rw [hg.e]
    have hf : Δ'.flds = Δ.flds := by rw [hg.e]
    have hv : Δ'.lv = Δ.lv := by rw [hg.e]
    have hn : Δ'.xn = Δ.xn := by rw [hg.e]
    simp only [low, Bool.and_eq_true, decide_eq_true_eq] at hl
    have hd_ := hl.1.1
    have A_f := ih_f hl.1.2 Δ Δ' hg
    have A_es := ih_es hl.2 Δ Δ' hg
    have hE : ∀ ρ st, evE Δ (.callv m f_ es_) ρ st = evE Δ' (.callv m f_ es_) ρ st := fun ρ st => by
      rw [evE_callv, evE_callv, A_f.E, hv]
      congr 1; funext x st
      cases x.d with
      | fn i =>
        dsimp only
        by_cases hi : Δ.lv i < m
        · rw [if_pos hi, if_pos hi, A_es.Es, hg.fn i (by rw [← hg.lv]; omega)]
        · rw [if_neg hi, if_neg hi]
      | _ => rfl
    refine ⟨hE, ?_, ?_, ?_, ?_, ?_, ?_, ?_, fun _ _ _ h => by cases h⟩
    case refine_2 => intro ρ st; rw [evT_truth _ _ rfl, evT_truth _ _ rfl, hE]
    case refine_3 => intro ρ st; rw [evP_some _ _ (by simp), evP_some _ _ (by simp), hE]
    all_goals (intros; simp only [evEs, evI, exS, exSs, exH])
  | new c_ f_ es_ ih_es =>
    intro hl Δ Δ' hg
    have hc : Δ'.cst = Δ.cst := by rw [hg.e]
    have hx : Δ'.exf = Δ.exf := by rw [hg.e]
    have hs : Δ'.sub = Δ.sub := by rw [hg.e]
    have hf : Δ'.flds = Δ.flds := by rw [hg.e]
    have hv : Δ'.lv = Δ.lv := by rw [hg.e]
    have hn : Δ'.xn = Δ.xn := by rw [hg.e]
    simp only [low, Bool.and_eq_true, decide_eq_true_eq] at hl
    have hd_ := hl.1
    have A_es := ih_es hl.2 Δ Δ' hg
    refine ⟨?_, ?_, ?_, ?_, ?_, ?_, ?_, ?_, fun _ _ _ h => by cases h⟩ <;> (intros; simp only [evE, evEs, evT, evP, evI, exS, exSs, exH, hc, hx, hs, hf, hv, hn, A_es.E, A_es.Es, A_es.Tt, A_es.P, A_es.I, A_es.S, A_es.Ss, A_es.Hh, hg.fn _ hd_] <;> first | rfl | done)
  | meth c_ m_ f_ o_ es_ ih_o ih_es =>
    intro hl Δ Δ' hg
    have hc : Δ'.cst = Δ.cst := by rw [hg.e]
    have hx : Δ'.exf = Δ.exf := by rw [hg.e]
    have hs : Δ'.sub = Δ.sub := by rw [hg.e]
    have hf : Δ'.flds = Δ.flds := by rw [hg.e]
    have hv : Δ'.lv = Δ.lv := by rw [hg.e]
    have hn : Δ'.xn = Δ.xn := by rw [hg.e]
    simp only [low, Bool.and_eq_true, decide_eq_true_eq] at hl
    have hd_ := hl.1.1
    have A_o := ih_o hl.1.2 Δ Δ' hg
    have A_es := ih_es hl.2 Δ Δ' hg
    refine ⟨?_, ?_, ?_, ?_, ?_, ?_, ?_, ?_, fun _ _ _ h => by cases h⟩ <;> (intros; simp only [evE, evEs, evT, evP, evI, exS, exSs, exH, hc, hx, hs, hf, hv, hn, A_o.E, A_o.Es, A_o.Tt, A_o.P, A_o.I, A_o.S, A_o.Ss, A_o.Hh, A_es.E, A_es.Es, A_es.Tt, A_es.P, A_es.I, A_es.S, A_es.Ss, A_es.Hh, hg.fn _ hd_] <;> first | rfl | done)
  | blt b_ es_ ih_es =>
    intro hl Δ Δ' hg
    have hc : Δ'.cst = Δ.cst := by rw [hg.e]
    have hx : Δ'.exf = Δ.exf := by rw [hg.e]
    have hs : Δ'.sub = Δ.sub := by rw [hg.e]
    have hf : Δ'.flds = Δ.flds := by rw [hg.e]
    have hv : Δ'.lv = Δ.lv := by rw [hg.e]
    have hn : Δ'.xn = Δ.xn := by rw [hg.e]
    simp only [low, Bool.and_eq_true, decide_eq_true_eq] at hl
    have A_es := ih_es hl Δ Δ' hg
    refine ⟨?_, ?_, ?_, ?_, ?_, ?_, ?_, ?_, fun _ _ _ h => by cases h⟩ <;> (intros; simp only [evE, evEs, evT, evP, evI, exS, exSs, exH, hc, hx, hs, hf, hv, hn, A_es.E, A_es.Es, A_es.Tt, A_es.P, A_es.I, A_es.S, A_es.Ss, A_es.Hh] <;> first | rfl | done)
  | isi k_ e_ ih_e =>
    intro hl Δ Δ' hg
    have hc : Δ'.cst = Δ.cst := by rw [hg.e]
    have hx : Δ'.exf = Δ.exf := by rw [hg.e]
    have hs : Δ'.sub = Δ.sub := by rw [hg.e]
    have hf : Δ'.flds = Δ.flds := by rw [hg.e]
    have hv : Δ'.lv = Δ.lv := by rw [hg.e]
    have hn : Δ'.xn = Δ.xn := by rw [hg.e]
    simp only [low, Bool.and_eq_true, decide_eq_true_eq] at hl
    have A_e := ih_e hl Δ Δ' hg
    refine ⟨?_, ?_, ?_, ?_, ?_, ?_, ?_, ?_, fun _ _ _ h => by cases h⟩ <;> (intros; simp only [evE, evEs, evT, evP, evI, exS, exSs, exH, hc, hx, hs, hf, hv, hn, A_e.E, A_e.Es, A_e.Tt, A_e.P, A_e.I, A_e.S, A_e.Ss, A_e.Hh] <;> first | rfl | done)
  | bm m_ o_ es_ ih_o ih_es =>
    intro hl Δ Δ' hg
    have hc : Δ'.cst = Δ.cst := by rw [hg.e]
    have hx : Δ'.exf = Δ.exf := by rw [hg.e]
    have hs : Δ'.sub = Δ.sub := by rw [hg.e]
    have hf : Δ'.flds = Δ.flds := by rw [hg.e]
    have hv : Δ'.lv = Δ.lv := by rw [hg.e]
    have hn : Δ'.xn = Δ.xn := by rw [hg.e]
    simp only [low, Bool.and_eq_true, decide_eq_true_eq] at hl
    have A_o := ih_o hl.1 Δ Δ' hg
    have A_es := ih_es hl.2 Δ Δ' hg
    refine ⟨?_, ?_, ?_, ?_, ?_, ?_, ?_, ?_, fun _ _ _ h => by cases h⟩ <;> (intros; simp only [evE, evEs, evT, evP, evI, exS, exSs, exH, hc, hx, hs, hf, hv, hn, A_o.E, A_o.Es, A_o.Tt, A_o.P, A_o.I, A_o.S, A_o.Ss, A_o.Hh, A_es.E, A_es.Es, A_es.Tt, A_es.P, A_es.I, A_es.S, A_es.Ss, A_es.Hh] <;> first | rfl | done)
  | idx a_ i_ ih_a ih_i =>
    intro hl Δ Δ' hg
    have hc : Δ'.cst = Δ.cst := by rw [hg.e]
    have hx : Δ'.exf = Δ.exf := by rw [hg.e]
    have hs : Δ'.sub = Δ.sub := by rw [hg.e]
    have hf : Δ'.flds = Δ.flds := by rw [hg.e]
    have hv : Δ'.lv = Δ.lv := by rw [hg.e]
    have hn : Δ'.xn = Δ.xn := by rw [hg.e]
    simp only [low, Bool.and_eq_true, decide_eq_true_eq] at hl
    have A_a := ih_a hl.1 Δ Δ' hg
    have A_i := ih_i hl.2 Δ Δ' hg
    refine ⟨?_, ?_, ?_, ?_, ?_, ?_, ?_, ?_, fun _ _ _ h => by cases h⟩ <;> (intros; simp only [evE, evEs, evT, evP, evI, exS, exSs, exH, hc, hx, hs, hf, hv, hn, A_a.E, A_a.Es, A_a.Tt, A_a.P, A_a.I, A_a.S, A_a.Ss, A_a.Hh, A_i.E, A_i.Es, A_i.Tt, A_i.P, A_i.I, A_i.S, A_i.Ss, A_i.Hh] <;> first | rfl | done)
  | sl a_ lo_ hi_ ih_a ih_lo ih_hi =>
    intro hl Δ Δ' hg
    have hc : Δ'.cst = Δ.cst := by rw [hg.e]
    have hx : Δ'.exf = Δ.exf := by rw [hg.e]
    have hs : Δ'.sub = Δ.sub := by rw [hg.e]
    have hf : Δ'.flds = Δ.flds := by rw [hg.e]
    have hv : Δ'.lv = Δ.lv := by rw [hg.e]
    have hn : Δ'.xn = Δ.xn := by rw [hg.e]
    simp only [low, Bool.and_eq_true, decide_eq_true_eq] at hl
    have A_a := ih_a hl.1.1 Δ Δ' hg
    have A_lo := ih_lo hl.1.2 Δ Δ' hg
    have A_hi := ih_hi hl.2 Δ Δ' hg
    refine ⟨?_, ?_, ?_, ?_, ?_, ?_, ?_, ?_, fun _ _ _ h => by cases h⟩ <;> (intros; simp only [evE, evEs, evT, evP, evI, exS, exSs, exH, hc, hx, hs, hf, hv, hn, A_a.E, A_a.Es, A_a.Tt, A_a.P, A_a.I, A_a.S, A_a.Ss, A_a.Hh, A_lo.E, A_lo.Es, A_lo.Tt, A_lo.P, A_lo.I, A_lo.S, A_lo.Ss, A_lo.Hh, A_hi.E, A_hi.Es, A_hi.Tt, A_hi.P, A_hi.I, A_hi.S, A_hi.Ss, A_hi.Hh] <;> first | rfl | done)
  | rev a_ ih_a =>
    intro hl Δ Δ' hg
    have hc : Δ'.cst = Δ.cst := by rw [hg.e]
    have hx : Δ'.exf = Δ.exf := by rw [hg.e]
    have hs : Δ'.sub = Δ.sub := by rw [hg.e]
    have hf : Δ'.flds = Δ.flds := by rw [hg.e]
    have hv : Δ'.lv = Δ.lv := by rw [hg.e]
    have hn : Δ'.xn = Δ.xn := by rw [hg.e]
    simp only [low, Bool.and_eq_true, decide_eq_true_eq] at hl
    have A_a := ih_a hl Δ Δ' hg
    refine ⟨?_, ?_, ?_, ?_, ?_, ?_, ?_, ?_, fun _ _ _ h => by cases h⟩ <;> (intros; simp only [evE, evEs, evT, evP, evI, exS, exSs, exH, hc, hx, hs, hf, hv, hn, A_a.E, A_a.Es, A_a.Tt, A_a.P, A_a.I, A_a.S, A_a.Ss, A_a.Hh] <;> first | rfl | done)
  | fld f_ o_ ih_o =>
    intro hl Δ Δ' hg
    have hc : Δ'.cst = Δ.cst := by rw [hg.e]
    have hx : Δ'.exf = Δ.exf := by rw [hg.e]
    have hs : Δ'.sub = Δ.sub := by rw [hg.e]
    have hf : Δ'.flds = Δ.flds := by rw [hg.e]
    have hv : Δ'.lv = Δ.lv := by rw [hg.e]
    have hn : Δ'.xn = Δ.xn := by rw [hg.e]
    simp only [low, Bool.and_eq_true, decide_eq_true_eq] at hl
    have A_o := ih_o hl Δ Δ' hg
    refine ⟨?_, ?_, ?_, ?_, ?_, ?_, ?_, ?_, fun _ _ _ h => by cases h⟩ <;> (intros; simp only [evE, evEs, evT, evP, evI, exS, exSs, exH, hc, hx, hs, hf, hv, hn, A_o.E, A_o.Es, A_o.Tt, A_o.P, A_o.I, A_o.S, A_o.Ss, A_o.Hh] <;> first | rfl | done)
  | lc own_ tg_ it_ cd_ el_ ih_tg ih_it ih_cd ih_el =>
    intro hl Δ Δ' hg
    have hc : Δ'.cst = Δ.cst := by rw [hg.e]
    have hx : Δ'.exf = Δ.exf := by rw [hg.e]
    have hs : Δ'.sub = Δ.sub := by rw [hg.e]
    have hf : Δ'.flds = Δ.flds := by rw [hg.e]
    have hv : Δ'.lv = Δ.lv := by rw [hg.e]
    have hn : Δ'.xn = Δ.xn := by rw [hg.e]
    simp only [low, Bool.and_eq_true, decide_eq_true_eq] at hl
    have A_tg := ih_tg hl.1.1.1 Δ Δ' hg
    have A_it := ih_it hl.1.1.2 Δ Δ' hg
    have A_cd := ih_cd hl.1.2 Δ Δ' hg
    have A_el := ih_el hl.2 Δ Δ' hg
    refine ⟨?_, ?_, ?_, ?_, ?_, ?_, ?_, ?_, fun _ _ _ h => by cases h⟩ <;> (intros; simp only [evE, evEs, evT, evP, evI, exS, exSs, exH, hc, hx, hs, hf, hv, hn, A_tg.E, A_tg.Es, A_tg.Tt, A_tg.P, A_tg.I, A_tg.S, A_tg.Ss, A_tg.Hh, A_it.E, A_it.Es, A_it.Tt, A_it.P, A_it.I, A_it.S, A_it.Ss, A_it.Hh, A_cd.E, A_cd.Es, A_cd.Tt, A_cd.P, A_cd.I, A_cd.S, A_cd.Ss, A_cd.Hh, A_el.E, A_el.Es, A_el.Tt, A_el.P, A_el.I, A_el.S, A_el.Ss, A_el.Hh] <;> first | rfl | done)
  | lcq own_ tg_ it_ cd_ el_ ih_tg ih_it ih_cd ih_el =>
    intro hl Δ Δ' hg
    have hc : Δ'.cst = Δ.cst := by rw [hg.e]
    have hx : Δ'.exf = Δ.exf := by rw [hg.e]
    have hs : Δ'.sub = Δ.sub := by rw [hg.e]
    have hf : Δ'.flds = Δ.flds := by rw [hg.e]
    have hv : Δ'.lv = Δ.lv := by rw [hg.e]
    have hn : Δ'.xn = Δ.xn := by rw [hg.e]
    simp only [low, Bool.and_eq_true, decide_eq_true_eq] at hl
    have A_tg := ih_tg hl.1.1.1 Δ Δ' hg
    have A_it := ih_it hl.1.1.2 Δ Δ' hg
    have A_cd := ih_cd hl.1.2 Δ Δ' hg
    have A_el := ih_el hl.2 Δ Δ' hg
    refine ⟨?_, ?_, ?_, ?_, ?_, ?_, ?_, ?_, fun _ _ _ h => by cases h⟩ <;> (intros; simp only [evE, evEs, evT, evP, evI, exS, exSs, exH, hc, hx, hs, hf, hv, hn, A_tg.E, A_tg.Es, A_tg.Tt, A_tg.P, A_tg.I, A_tg.S, A_tg.Ss, A_tg.Hh, A_it.E, A_it.Es, A_it.Tt, A_it.P, A_it.I, A_it.S, A_it.Ss, A_it.Hh, A_cd.E, A_cd.Es, A_cd.Tt, A_cd.P, A_cd.I, A_cd.S, A_cd.Ss, A_cd.Hh, A_el.E, A_el.Es, A_el.Tt, A_el.P, A_el.I, A_el.S, A_el.Ss, A_el.Hh] <;> first | rfl | done)
  | lc2 own_ tg_ it_ cd_ tg2_ it2_ cd2_ el_ ih_tg ih_it ih_cd ih_tg2 ih_it2 ih_cd2 ih_el =>
    intro hl Δ Δ' hg
    have hc : Δ'.cst = Δ.cst := by rw [hg.e]
    have hx : Δ'.exf = Δ.exf := by rw [hg.e]
    have hs : Δ'.sub = Δ.sub := by rw [hg.e]
    have hf : Δ'.flds = Δ.flds := by rw [hg.e]
    have hv : Δ'.lv = Δ.lv := by rw [hg.e]
    have hn : Δ'.xn = Δ.xn := by rw [hg.e]
    simp only [low, Bool.and_eq_true, decide_eq_true_eq] at hl
    have A_tg := ih_tg hl.1.1.1.1.1.1 Δ Δ' hg
    have A_it := ih_it hl.1.1.1.1.1.2 Δ Δ' hg
    have A_cd := ih_cd hl.1.1.1.1.2 Δ Δ' hg
    have A_tg2 := ih_tg2 hl.1.1.1.2 Δ Δ' hg
    have A_it2 := ih_it2 hl.1.1.2 Δ Δ' hg
    have A_cd2 := ih_cd2 hl.1.2 Δ Δ' hg
    have A_el := ih_el hl.2 Δ Δ' hg
    refine ⟨?_, ?_, ?_, ?_, ?_, ?_, ?_, ?_, fun _ _ _ h => by cases h⟩ <;> (intros; simp only [evE, evEs, evT, evP, evI, exS, exSs, exH, hc, hx, hs, hf, hv, hn, A_tg.E, A_tg.Es, A_tg.Tt, A_tg.P, A_tg.I, A_tg.S, A_tg.Ss, A_tg.Hh, A_it.E, A_it.Es, A_it.Tt, A_it.P, A_it.I, A_it.S, A_it.Ss, A_it.Hh, A_cd.E, A_cd.Es, A_cd.Tt, A_cd.P, A_cd.I, A_cd.S, A_cd.Ss, A_cd.Hh, A_tg2.E, A_tg2.Es, A_tg2.Tt, A_tg2.P, A_tg2.I, A_tg2.S, A_tg2.Ss, A_tg2.Hh, A_it2.E, A_it2.Es, A_it2.Tt, A_it2.P, A_it2.I, A_it2.S, A_it2.Ss, A_it2.Hh, A_cd2.E, A_cd2.Es, A_cd2.Tt, A_cd2.P, A_cd2.I, A_cd2.S, A_cd2.Ss, A_cd2.Hh, A_el.E, A_el.Es, A_el.Tt, A_el.P, A_el.I, A_el.S, A_el.Ss, A_el.Hh] <;> first | rfl | done)
  | alloc e_ ih_e =>
    intro hl Δ Δ' hg
    have hc : Δ'.cst = Δ.cst := by rw [hg.e]
    have hx : Δ'.exf = Δ.exf := by rw [hg.e]
    have hs : Δ'.sub = Δ.sub := by rw [hg.e]
    have hf : Δ'.flds = Δ.flds := by rw [hg.e]
    have hv : Δ'.lv = Δ.lv := by rw [hg.e]
    have hn : Δ'.xn = Δ.xn := by rw [hg.e]
    simp only [low, Bool.and_eq_true, decide_eq_true_eq] at hl
    have A_e := ih_e hl Δ Δ' hg
    refine ⟨?_, ?_, ?_, ?_, ?_, ?_, ?_, ?_, fun _ _ _ h => by cases h⟩ <;> (intros; simp only [evE, evEs, evT, evP, evI, exS, exSs, exH, hc, hx, hs, hf, hv, hn, A_e.E, A_e.Es, A_e.Tt, A_e.P, A_e.I, A_e.S, A_e.Ss, A_e.Hh] <;> first | rfl | done)
  | dnew   =>
    intro hl Δ Δ' hg
    have hc : Δ'.cst = Δ.cst := by rw [hg.e]
    have hx : Δ'.exf = Δ.exf := by rw [hg.e]
    have hs : Δ'.sub = Δ.sub := by rw [hg.e]
    have hf : Δ'.flds = Δ.flds := by rw [hg.e]
    have hv : Δ'.lv = Δ.lv := by rw [hg.e]
    have hn : Δ'.xn = Δ.xn := by rw [hg.e]
    refine ⟨?_, ?_, ?_, ?_, ?_, ?_, ?_, ?_, fun _ _ _ h => by cases h⟩ <;> (intros; simp only [evE, evEs, evT, evP, evI, exS, exSs, exH, hc, hx, hs, hf, hv, hn] <;> first | rfl | done)
  | dget o_ k_ x_ ih_o ih_k ih_x =>
    intro hl Δ Δ' hg
    have hc : Δ'.cst = Δ.cst := by rw [hg.e]
    have hx : Δ'.exf = Δ.exf := by rw [hg.e]
    have hs : Δ'.sub = Δ.sub := by rw [hg.e]
    have hf : Δ'.flds = Δ.flds := by rw [hg.e]
    have hv : Δ'.lv = Δ.lv := by rw [hg.e]
    have hn : Δ'.xn = Δ.xn := by rw [hg.e]
    simp only [low, Bool.and_eq_true, decide_eq_true_eq] at hl
    have A_o := ih_o hl.1.1 Δ Δ' hg
    have A_k := ih_k hl.1.2 Δ Δ' hg
    have A_x := ih_x hl.2 Δ Δ' hg
    refine ⟨?_, ?_, ?_, ?_, ?_, ?_, ?_, ?_, fun _ _ _ h => by cases h⟩ <;> (intros; simp only [evE, evEs, evT, evP, evI, exS, exSs, exH, hc, hx, hs, hf, hv, hn, A_o.E, A_o.Es, A_o.Tt, A_o.P, A_o.I, A_o.S, A_o.Ss, A_o.Hh, A_k.E, A_k.Es, A_k.Tt, A_k.P, A_k.I, A_k.S, A_k.Ss, A_k.Hh, A_x.E, A_x.Es, A_x.Tt, A_x.P, A_x.I, A_x.S, A_x.Ss, A_x.Hh] <;> first | rfl | done)
  | dset o_ k_ x_ ih_o ih_k ih_x =>
    intro hl Δ Δ' hg
    have hc : Δ'.cst = Δ.cst := by rw [hg.e]
    have hx : Δ'.exf = Δ.exf := by rw [hg.e]
    have hs : Δ'.sub = Δ.sub := by rw [hg.e]
    have hf : Δ'.flds = Δ.flds := by rw [hg.e]
    have hv : Δ'.lv = Δ.lv := by rw [hg.e]
    have hn : Δ'.xn = Δ.xn := by rw [hg.e]
    simp only [low, Bool.and_eq_true, decide_eq_true_eq] at hl
    have A_o := ih_o hl.1.1 Δ Δ' hg
    have A_k := ih_k hl.1.2 Δ Δ' hg
    have A_x := ih_x hl.2 Δ Δ' hg
    refine ⟨?_, ?_, ?_, ?_, ?_, ?_, ?_, ?_, fun _ _ _ h => by cases h⟩ <;> (intros; simp only [evE, evEs, evT, evP, evI, exS, exSs, exH, hc, hx, hs, hf, hv, hn, A_o.E, A_o.Es, A_o.Tt, A_o.P, A_o.I, A_o.S, A_o.Ss, A_o.Hh, A_k.E, A_k.Es, A_k.Tt, A_k.P, A_k.I, A_k.S, A_k.Ss, A_k.Hh, A_x.E, A_x.Es, A_x.Tt, A_x.P, A_x.I, A_x.S, A_x.Ss, A_x.Hh] <;> first | rfl | done)
  | lcL own_ tg_ i_ cd_ el_ ih_tg ih_cd ih_el =>
    intro hl Δ Δ' hg
    have hc : Δ'.cst = Δ.cst := by rw [hg.e]
    have hx : Δ'.exf = Δ.exf := by rw [hg.e]
    have hs : Δ'.sub = Δ.sub := by rw [hg.e]
    have hf : Δ'.flds = Δ.flds := by rw [hg.e]
    have hv : Δ'.lv = Δ.lv := by rw [hg.e]
    have hn : Δ'.xn = Δ.xn := by rw [hg.e]
    simp only [low, Bool.and_eq_true, decide_eq_true_eq] at hl
    have A_tg := ih_tg hl.1.1 Δ Δ' hg
    have A_cd := ih_cd hl.1.2 Δ Δ' hg
    have A_el := ih_el hl.2 Δ Δ' hg
    refine ⟨?_, ?_, ?_, ?_, ?_, ?_, ?_, ?_, fun _ _ _ h => by cases h⟩ <;> (intros; simp only [evE, evEs, evT, evP, evI, exS, exSs, exH, hc, hx, hs, hf, hv, hn, A_tg.E, A_tg.Es, A_tg.Tt, A_tg.P, A_tg.I, A_tg.S, A_tg.Ss, A_tg.Hh, A_cd.E, A_cd.Es, A_cd.Tt, A_cd.P, A_cd.I, A_cd.S, A_cd.Ss, A_cd.Hh, A_el.E, A_el.Es, A_el.Tt, A_el.P, A_el.I, A_el.S, A_el.Ss, A_el.Hh] <;> first | rfl | done)
  | itE e_ ih_e =>
    intro hl Δ Δ' hg
    have hc : Δ'.cst = Δ.cst := by rw [hg.e]
    have hx : Δ'.exf = Δ.exf := by rw [hg.e]
    have hs : Δ'.sub = Δ.sub := by rw [hg.e]
    have hf : Δ'.flds = Δ.flds := by rw [hg.e]
    have hv : Δ'.lv = Δ.lv := by rw [hg.e]
    have hn : Δ'.xn = Δ.xn := by rw [hg.e]
    simp only [low, Bool.and_eq_true, decide_eq_true_eq] at hl
    have A_e := ih_e hl Δ Δ' hg
    refine ⟨?_, ?_, ?_, ?_, ?_, ?_, ?_, ?_, fun _ _ _ h => by cases h⟩ <;> (intros; simp only [evE, evEs, evT, evP, evI, exS, exSs, exH, hc, hx, hs, hf, hv, hn, A_e.E, A_e.Es, A_e.Tt, A_e.P, A_e.I, A_e.S, A_e.Ss, A_e.Hh] <;> first | rfl | done)
  | itR1 a_ ih_a =>
    intro hl Δ Δ' hg
    have hc : Δ'.cst = Δ.cst := by rw [hg.e]
    have hx : Δ'.exf = Δ.exf := by rw [hg.e]
    have hs : Δ'.sub = Δ.sub := by rw [hg.e]
    have hf : Δ'.flds = Δ.flds := by rw [hg.e]
    have hv : Δ'.lv = Δ.lv := by rw [hg.e]
    have hn : Δ'.xn = Δ.xn := by rw [hg.e]
    simp only [low, Bool.and_eq_true, decide_eq_true_eq] at hl
    have A_a := ih_a hl Δ Δ' hg
    refine ⟨?_, ?_, ?_, ?_, ?_, ?_, ?_, ?_, fun _ _ _ h => by cases h⟩ <;> (intros; simp only [evE, evEs, evT, evP, evI, exS, exSs, exH, hc, hx, hs, hf, hv, hn, A_a.E, A_a.Es, A_a.Tt, A_a.P, A_a.I, A_a.S, A_a.Ss, A_a.Hh] <;> first | rfl | done)
  | itR2 a_ b_ ih_a ih_b =>
    intro hl Δ Δ' hg
    have hc : Δ'.cst = Δ.cst := by rw [hg.e]
    have hx : Δ'.exf = Δ.exf := by rw [hg.e]
    have hs : Δ'.sub = Δ.sub := by rw [hg.e]
    have hf : Δ'.flds = Δ.flds := by rw [hg.e]
    have hv : Δ'.lv = Δ.lv := by rw [hg.e]
    have hn : Δ'.xn = Δ.xn := by rw [hg.e]
    simp only [low, Bool.and_eq_true, decide_eq_true_eq] at hl
    have A_a := ih_a hl.1 Δ Δ' hg
    have A_b := ih_b hl.2 Δ Δ' hg
    refine ⟨?_, ?_, ?_, ?_, ?_, ?_, ?_, ?_, fun _ _ _ h => by cases h⟩ <;> (intros; simp only [evE, evEs, evT, evP, evI, exS, exSs, exH, hc, hx, hs, hf, hv, hn, A_a.E, A_a.Es, A_a.Tt, A_a.P, A_a.I, A_a.S, A_a.Ss, A_a.Hh, A_b.E, A_b.Es, A_b.Tt, A_b.P, A_b.I, A_b.S, A_b.Ss, A_b.Hh] <;> first | rfl | done)
  | itR3 a_ b_ c_ ih_a ih_b ih_c =>
    intro hl Δ Δ' hg
    have hc : Δ'.cst = Δ.cst := by rw [hg.e]
    have hx : Δ'.exf = Δ.exf := by rw [hg.e]
    have hs : Δ'.sub = Δ.sub := by rw [hg.e]
    have hf : Δ'.flds = Δ.flds := by rw [hg.e]
    have hv : Δ'.lv = Δ.lv := by rw [hg.e]
    have hn : Δ'.xn = Δ.xn := by rw [hg.e]
    simp only [low, Bool.and_eq_true, decide_eq_true_eq] at hl
    have A_a := ih_a hl.1.1 Δ Δ' hg
    have A_b := ih_b hl.1.2 Δ Δ' hg
    have A_c := ih_c hl.2 Δ Δ' hg
    refine ⟨?_, ?_, ?_, ?_, ?_, ?_, ?_, ?_, fun _ _ _ h => by cases h⟩ <;> (intros; simp only [evE, evEs, evT, evP, evI, exS, exSs, exH, hc, hx, hs, hf, hv, hn, A_a.E, A_a.Es, A_a.Tt, A_a.P, A_a.I, A_a.S, A_a.Ss, A_a.Hh, A_b.E, A_b.Es, A_b.Tt, A_b.P, A_b.I, A_b.S, A_b.Ss, A_b.Hh, A_c.E, A_c.Es, A_c.Tt, A_c.P, A_c.I, A_c.S, A_c.Ss, A_c.Hh] <;> first | rfl | done)
  | itZ a_ b_ ih_a ih_b =>
    intro hl Δ Δ' hg
    have hc : Δ'.cst = Δ.cst := by rw [hg.e]
    have hx : Δ'.exf = Δ.exf := by rw [hg.e]
    have hs : Δ'.sub = Δ.sub := by rw [hg.e]
    have hf : Δ'.flds = Δ.flds := by rw [hg.e]
    have hv : Δ'.lv = Δ.lv := by rw [hg.e]
    have hn : Δ'.xn = Δ.xn := by rw [hg.e]
    simp only [low, Bool.and_eq_true, decide_eq_true_eq] at hl
    have A_a := ih_a hl.1 Δ Δ' hg
    have A_b := ih_b hl.2 Δ Δ' hg
    refine ⟨?_, ?_, ?_, ?_, ?_, ?_, ?_, ?_, fun _ _ _ h => by cases h⟩ <;> (intros; simp only [evE, evEs, evT, evP, evI, exS, exSs, exH, hc, hx, hs, hf, hv, hn, A_a.E, A_a.Es, A_a.Tt, A_a.P, A_a.I, A_a.S, A_a.Ss, A_a.Hh, A_b.E, A_b.Es, A_b.Tt, A_b.P, A_b.I, A_b.S, A_b.Ss, A_b.Hh] <;> first | rfl | done)
  | itN a_ ih_a =>
    intro hl Δ Δ' hg
    have hc : Δ'.cst = Δ.cst := by rw [hg.e]
    have hx : Δ'.exf = Δ.exf := by rw [hg.e]
    have hs : Δ'.sub = Δ.sub := by rw [hg.e]
    have hf : Δ'.flds = Δ.flds := by rw [hg.e]
    have hv : Δ'.lv = Δ.lv := by rw [hg.e]
    have hn : Δ'.xn = Δ.xn := by rw [hg.e]
    simp only [low, Bool.and_eq_true, decide_eq_true_eq] at hl
    have A_a := ih_a hl Δ Δ' hg
    refine ⟨?_, ?_, ?_, ?_, ?_, ?_, ?_, ?_, fun _ _ _ h => by cases h⟩ <;> (intros; simp only [evE, evEs, evT, evP, evI, exS, exSs, exH, hc, hx, hs, hf, hv, hn, A_a.E, A_a.Es, A_a.Tt, A_a.P, A_a.I, A_a.S, A_a.Ss, A_a.Hh] <;> first | rfl | done)
  | itEn e_ ih_e =>
    intro hl Δ Δ' hg
    have hc : Δ'.cst = Δ.cst := by rw [hg.e]
    have hx : Δ'.exf = Δ.exf := by rw [hg.e]
    have hs : Δ'.sub = Δ.sub := by rw [hg.e]
    have hf : Δ'.flds = Δ.flds := by rw [hg.e]
    have hv : Δ'.lv = Δ.lv := by rw [hg.e]
    have hn : Δ'.xn = Δ.xn := by rw [hg.e]
    simp only [low, Bool.and_eq_true, decide_eq_true_eq] at hl
    have A_e := ih_e hl Δ Δ' hg
    refine ⟨?_, ?_, ?_, ?_, ?_, ?_, ?_, ?_, fun _ _ _ h => by cases h⟩ <;> (intros; simp only [evE, evEs, evT, evP, evI, exS, exSs, exH, hc, hx, hs, hf, hv, hn, A_e.E, A_e.Es, A_e.Tt, A_e.P, A_e.I, A_e.S, A_e.Ss, A_e.Hh] <;> first | rfl | done)
  | sit o_ ih_o =>
    intro hl Δ Δ' hg
    have hc : Δ'.cst = Δ.cst := by rw [hg.e]
    have hx : Δ'.exf = Δ.exf := by rw [hg.e]
    have hs : Δ'.sub = Δ.sub := by rw [hg.e]
    have hf : Δ'.flds = Δ.flds := by rw [hg.e]
    have hv : Δ'.lv = Δ.lv := by rw [hg.e]
    have hn : Δ'.xn = Δ.xn := by rw [hg.e]
    simp only [low, Bool.and_eq_true, decide_eq_true_eq] at hl
    have A_o := ih_o hl Δ Δ' hg
    refine ⟨?_, ?_, ?_, ?_, ?_, ?_, ?_, ?_, fun _ _ _ h => by cases h⟩ <;> (intros; simp only [evE, evEs, evT, evP, evI, exS, exSs, exH, hc, hx, hs, hf, hv, hn, A_o.E, A_o.Es, A_o.Tt, A_o.P, A_o.I, A_o.S, A_o.Ss, A_o.Hh] <;> first | rfl | done)
  | tgN i_  =>
    intro hl Δ Δ' hg
    have hc : Δ'.cst = Δ.cst := by rw [hg.e]
    have hx : Δ'.exf = Δ.exf := by rw [hg.e]
    have hs : Δ'.sub = Δ.sub := by rw [hg.e]
    have hf : Δ'.flds = Δ.flds := by rw [hg.e]
    have hv : Δ'.lv = Δ.lv := by rw [hg.e]
    have hn : Δ'.xn = Δ.xn := by rw [hg.e]
    refine ⟨?_, ?_, ?_, ?_, ?_, ?_, ?_, ?_, fun _ _ _ h => by cases h⟩ <;> (intros; simp only [evE, evEs, evT, evP, evI, exS, exSs, exH, hc, hx, hs, hf, hv, hn] <;> first | rfl | done)
  | tgT is_  =>
    intro hl Δ Δ' hg
    have hc : Δ'.cst = Δ.cst := by rw [hg.e]
    have hx : Δ'.exf = Δ.exf := by rw [hg.e]
    have hs : Δ'.sub = Δ.sub := by rw [hg.e]
    have hf : Δ'.flds = Δ.flds := by rw [hg.e]
    have hv : Δ'.lv = Δ.lv := by rw [hg.e]
    have hn : Δ'.xn = Δ.xn := by rw [hg.e]
    refine ⟨?_, ?_, ?_, ?_, ?_, ?_, ?_, ?_, fun _ _ _ h => by cases h⟩ <;> (intros; simp only [evE, evEs, evT, evP, evI, exS, exSs, exH, hc, hx, hs, hf, hv, hn] <;> first | rfl | done)
  | set i_ e_ ih_e =>
    intro hl Δ Δ' hg
    have hc : Δ'.cst = Δ.cst := by rw [hg.e]
    have hx : Δ'.exf = Δ.exf := by rw [hg.e]
    have hs : Δ'.sub = Δ.sub := by rw [hg.e]
    have hf : Δ'.flds = Δ.flds := by rw [hg.e]
    have hv : Δ'.lv = Δ.lv := by rw [hg.e]
    have hn : Δ'.xn = Δ.xn := by rw [hg.e]
    simp only [low, Bool.and_eq_true, decide_eq_true_eq] at hl
    have A_e := ih_e hl Δ Δ' hg
    refine ⟨?_, ?_, ?_, ?_, ?_, ?_, ?_, ?_, fun _ _ _ h => by cases h⟩ <;> (intros; simp only [evE, evEs, evT, evP, evI, exS, exSs, exH, hc, hx, hs, hf, hv, hn, A_e.E, A_e.Es, A_e.Tt, A_e.P, A_e.I, A_e.S, A_e.Ss, A_e.Hh] <;> first | rfl | done)
  | unp is_ e_ ih_e =>
    intro hl Δ Δ' hg
    have hc : Δ'.cst = Δ.cst := by rw [hg.e]
    have hx : Δ'.exf = Δ.exf := by rw [hg.e]
    have hs : Δ'.sub = Δ.sub := by rw [hg.e]
    have hf : Δ'.flds = Δ.flds := by rw [hg.e]
    have hv : Δ'.lv = Δ.lv := by rw [hg.e]
    have hn : Δ'.xn = Δ.xn := by rw [hg.e]
    simp only [low, Bool.and_eq_true, decide_eq_true_eq] at hl
    have A_e := ih_e hl Δ Δ' hg
    refine ⟨?_, ?_, ?_, ?_, ?_, ?_, ?_, ?_, fun _ _ _ h => by cases h⟩ <;> (intros; simp only [evE, evEs, evT, evP, evI, exS, exSs, exH, hc, hx, hs, hf, hv, hn, A_e.E, A_e.Es, A_e.Tt, A_e.P, A_e.I, A_e.S, A_e.Ss, A_e.Hh] <;> first | rfl | done)
  | par is_ es_ ih_es =>
    intro hl Δ Δ' hg
    have hc : Δ'.cst = Δ.cst := by rw [hg.e]
    have hx : Δ'.exf = Δ.exf := by rw [hg.e]
    have hs : Δ'.sub = Δ.sub := by rw [hg.e]
    have hf : Δ'.flds = Δ.flds := by rw [hg.e]
    have hv : Δ'.lv = Δ.lv := by rw [hg.e]
    have hn : Δ'.xn = Δ.xn := by rw [hg.e]
    simp only [low, Bool.and_eq_true, decide_eq_true_eq] at hl
    have A_es := ih_es hl Δ Δ' hg
    refine ⟨?_, ?_, ?_, ?_, ?_, ?_, ?_, ?_, fun _ _ _ h => by cases h⟩ <;> (intros; simp only [evE, evEs, evT, evP, evI, exS, exSs, exH, hc, hx, hs, hf, hv, hn, A_es.E, A_es.Es, A_es.Tt, A_es.P, A_es.I, A_es.S, A_es.Ss, A_es.Hh] <;> first | rfl | done)
  | unpF f_ k_ o_ x_ e_ ih_o ih_x ih_e =>
    intro hl Δ Δ' hg
    have hc : Δ'.cst = Δ.cst := by rw [hg.e]
    have hx : Δ'.exf = Δ.exf := by rw [hg.e]
    have hs : Δ'.sub = Δ.sub := by rw [hg.e]
    have hf : Δ'.flds = Δ.flds := by rw [hg.e]
    have hv : Δ'.lv = Δ.lv := by rw [hg.e]
    have hn : Δ'.xn = Δ.xn := by rw [hg.e]
    simp only [low, Bool.and_eq_true, decide_eq_true_eq] at hl
    have A_o := ih_o hl.1.1 Δ Δ' hg
    have A_x := ih_x hl.1.2 Δ Δ' hg
    have A_e := ih_e hl.2 Δ Δ' hg
    refine ⟨?_, ?_, ?_, ?_, ?_, ?_, ?_, ?_, fun _ _ _ h => by cases h⟩ <;> (intros; simp only [evE, evEs, evT, evP, evI, exS, exSs, exH, hc, hx, hs, hf, hv, hn, A_o.E, A_o.Es, A_o.Tt, A_o.P, A_o.I, A_o.S, A_o.Ss, A_o.Hh, A_x.E, A_x.Es, A_x.Tt, A_x.P, A_x.I, A_x.S, A_x.Ss, A_x.Hh, A_e.E, A_e.Es, A_e.Tt, A_e.P, A_e.I, A_e.S, A_e.Ss, A_e.Hh] <;> first | rfl | done)
  | fset f_ o_ e_ ih_o ih_e =>
    intro hl Δ Δ' hg
    have hc : Δ'.cst = Δ.cst := by rw [hg.e]
    have hx : Δ'.exf = Δ.exf := by rw [hg.e]
    have hs : Δ'.sub = Δ.sub := by rw [hg.e]
    have hf : Δ'.flds = Δ.flds := by rw [hg.e]
    have hv : Δ'.lv = Δ.lv := by rw [hg.e]
    have hn : Δ'.xn = Δ.xn := by rw [hg.e]
    simp only [low, Bool.and_eq_true, decide_eq_true_eq] at hl
    have A_o := ih_o hl.1 Δ Δ' hg
    have A_e := ih_e hl.2 Δ Δ' hg
    refine ⟨?_, ?_, ?_, ?_, ?_, ?_, ?_, ?_, fun _ _ _ h => by cases h⟩ <;> (intros; simp only [evE, evEs, evT, evP, evI, exS, exSs, exH, hc, hx, hs, hf, hv, hn, A_o.E, A_o.Es, A_o.Tt, A_o.P, A_o.I, A_o.S, A_o.Ss, A_o.Hh, A_e.E, A_e.Es, A_e.Tt, A_e.P, A_e.I, A_e.S, A_e.Ss, A_e.Hh] <;> first | rfl | done)
  | iset o_ i_ e_ ih_o ih_i ih_e =>
    intro hl Δ Δ' hg
    have hc : Δ'.cst = Δ.cst := by rw [hg.e]
    have hx : Δ'.exf = Δ.exf := by rw [hg.e]
    have hs : Δ'.sub = Δ.sub := by rw [hg.e]
    have hf : Δ'.flds = Δ.flds := by rw [hg.e]
    have hv : Δ'.lv = Δ.lv := by rw [hg.e]
    have hn : Δ'.xn = Δ.xn := by rw [hg.e]
    simp only [low, Bool.and_eq_true, decide_eq_true_eq] at hl
    have A_o := ih_o hl.1.1 Δ Δ' hg
    have A_i := ih_i hl.1.2 Δ Δ' hg
    have A_e := ih_e hl.2 Δ Δ' hg
    refine ⟨?_, ?_, ?_, ?_, ?_, ?_, ?_, ?_, fun _ _ _ h => by cases h⟩ <;> (intros; simp only [evE, evEs, evT, evP, evI, exS, exSs, exH, hc, hx, hs, hf, hv, hn, A_o.E, A_o.Es, A_o.Tt, A_o.P, A_o.I, A_o.S, A_o.Ss, A_o.Hh, A_i.E, A_i.Es, A_i.Tt, A_i.P, A_i.I, A_i.S, A_i.Ss, A_i.Hh, A_e.E, A_e.Es, A_e.Tt, A_e.P, A_e.I, A_e.S, A_e.Ss, A_e.Hh] <;> first | rfl | done)
  | aug o_ i_ e_ ih_e =>
    intro hl Δ Δ' hg
    have hc : Δ'.cst = Δ.cst := by rw [hg.e]
    have hx : Δ'.exf = Δ.exf := by rw [hg.e]
    have hs : Δ'.sub = Δ.sub := by rw [hg.e]
    have hf : Δ'.flds = Δ.flds := by rw [hg.e]
    have hv : Δ'.lv = Δ.lv := by rw [hg.e]
    have hn : Δ'.xn = Δ.xn := by rw [hg.e]
    simp only [low, Bool.and_eq_true, decide_eq_true_eq] at hl
    have A_e := ih_e hl Δ Δ' hg
    refine ⟨?_, ?_, ?_, ?_, ?_, ?_, ?_, ?_, fun _ _ _ h => by cases h⟩ <;> (intros; simp only [evE, evEs, evT, evP, evI, exS, exSs, exH, hc, hx, hs, hf, hv, hn, A_e.E, A_e.Es, A_e.Tt, A_e.P, A_e.I, A_e.S, A_e.Ss, A_e.Hh] <;> first | rfl | done)
  | faug o_ f_ x_ e_ ih_x ih_e =>
    intro hl Δ Δ' hg
    have hc : Δ'.cst = Δ.cst := by rw [hg.e]
    have hx : Δ'.exf = Δ.exf := by rw [hg.e]
    have hs : Δ'.sub = Δ.sub := by rw [hg.e]
    have hf : Δ'.flds = Δ.flds := by rw [hg.e]
    have hv : Δ'.lv = Δ.lv := by rw [hg.e]
    have hn : Δ'.xn = Δ.xn := by rw [hg.e]
    simp only [low, Bool.and_eq_true, decide_eq_true_eq] at hl
    have A_x := ih_x hl.1 Δ Δ' hg
    have A_e := ih_e hl.2 Δ Δ' hg
    refine ⟨?_, ?_, ?_, ?_, ?_, ?_, ?_, ?_, fun _ _ _ h => by cases h⟩ <;> (intros; simp only [evE, evEs, evT, evP, evI, exS, exSs, exH, hc, hx, hs, hf, hv, hn, A_x.E, A_x.Es, A_x.Tt, A_x.P, A_x.I, A_x.S, A_x.Ss, A_x.Hh, A_e.E, A_e.Es, A_e.Tt, A_e.P, A_e.I, A_e.S, A_e.Ss, A_e.Hh] <;> first | rfl | done)
  | dput o_ k_ e_ ih_o ih_k ih_e =>
    intro hl Δ Δ' hg
    have hc : Δ'.cst = Δ.cst := by rw [hg.e]
    have hx : Δ'.exf = Δ.exf := by rw [hg.e]
    have hs : Δ'.sub = Δ.sub := by rw [hg.e]
    have hf : Δ'.flds = Δ.flds := by rw [hg.e]
    have hv : Δ'.lv = Δ.lv := by rw [hg.e]
    have hn : Δ'.xn = Δ.xn := by rw [hg.e]
    simp only [low, Bool.and_eq_true, decide_eq_true_eq] at hl
    have A_o := ih_o hl.1.1 Δ Δ' hg
    have A_k := ih_k hl.1.2 Δ Δ' hg
    have A_e := ih_e hl.2 Δ Δ' hg
    refine ⟨?_, ?_, ?_, ?_, ?_, ?_, ?_, ?_, fun _ _ _ h => by cases h⟩ <;> (intros; simp only [evE, evEs, evT, evP, evI, exS, exSs, exH, hc, hx, hs, hf, hv, hn, A_o.E, A_o.Es, A_o.Tt, A_o.P, A_o.I, A_o.S, A_o.Ss, A_o.Hh, A_k.E, A_k.Es, A_k.Tt, A_k.P, A_k.I, A_k.S, A_k.Ss, A_k.Hh, A_e.E, A_e.Es, A_e.Tt, A_e.P, A_e.I, A_e.S, A_e.Ss, A_e.Hh] <;> first | rfl | done)
  | iaug o_ a_ i_ e_ ih_a ih_i ih_e =>
    intro hl Δ Δ' hg
    have hc : Δ'.cst = Δ.cst := by rw [hg.e]
    have hx : Δ'.exf = Δ.exf := by rw [hg.e]
    have hs : Δ'.sub = Δ.sub := by rw [hg.e]
    have hf : Δ'.flds = Δ.flds := by rw [hg.e]
    have hv : Δ'.lv = Δ.lv := by rw [hg.e]
    have hn : Δ'.xn = Δ.xn := by rw [hg.e]
    simp only [low, Bool.and_eq_true, decide_eq_true_eq] at hl
    have A_a := ih_a hl.1.1 Δ Δ' hg
    have A_i := ih_i hl.1.2 Δ Δ' hg
    have A_e := ih_e hl.2 Δ Δ' hg
    refine ⟨?_, ?_, ?_, ?_, ?_, ?_, ?_, ?_, fun _ _ _ h => by cases h⟩ <;> (intros; simp only [evE, evEs, evT, evP, evI, exS, exSs, exH, hc, hx, hs, hf, hv, hn, A_a.E, A_a.Es, A_a.Tt, A_a.P, A_a.I, A_a.S, A_a.Ss, A_a.Hh, A_i.E, A_i.Es, A_i.Tt, A_i.P, A_i.I, A_i.S, A_i.Ss, A_i.Hh, A_e.E, A_e.Es, A_e.Tt, A_e.P, A_e.I, A_e.S, A_e.Ss, A_e.Hh] <;> first | rfl | done)
  | forL tg_ i_ body_ ih_tg ih_body =>
    intro hl Δ Δ' hg
    have hc : Δ'.cst = Δ.cst := by rw [hg.e]
    have hx : Δ'.exf = Δ.exf := by rw [hg.e]
    have hs : Δ'.sub = Δ.sub := by rw [hg.e]
    have hf : Δ'.flds = Δ.flds := by rw [hg.e]
    have hv : Δ'.lv = Δ.lv := by rw [hg.e]
    have hn : Δ'.xn = Δ.xn := by rw [hg.e]
    simp only [low, Bool.and_eq_true, decide_eq_true_eq] at hl
    have A_tg := ih_tg hl.1 Δ Δ' hg
    have A_body := ih_body hl.2 Δ Δ' hg
    refine ⟨?_, ?_, ?_, ?_, ?_, ?_, ?_, ?_, fun _ _ _ h => by cases h⟩ <;> (intros; simp only [evE, evEs, evT, evP, evI, exS, exSs, exH, hc, hx, hs, hf, hv, hn, A_tg.E, A_tg.Es, A_tg.Tt, A_tg.P, A_tg.I, A_tg.S, A_tg.Ss, A_tg.Hh, A_body.E, A_body.Es, A_body.Tt, A_body.P, A_body.I, A_body.S, A_body.Ss, A_body.Hh] <;> first | rfl | done)
  | ex e_ ih_e =>
    intro hl Δ Δ' hg
    have hc : Δ'.cst = Δ.cst := by rw [hg.e]
    have hx : Δ'.exf = Δ.exf := by rw [hg.e]
    have hs : Δ'.sub = Δ.sub := by rw [hg.e]
    have hf : Δ'.flds = Δ.flds := by rw [hg.e]
    have hv : Δ'.lv = Δ.lv := by rw [hg.e]
    have hn : Δ'.xn = Δ.xn := by rw [hg.e]
    simp only [low, Bool.and_eq_true, decide_eq_true_eq] at hl
    have A_e := ih_e hl Δ Δ' hg
    refine ⟨?_, ?_, ?_, ?_, ?_, ?_, ?_, ?_, fun _ _ _ h => by cases h⟩ <;> (intros; simp only [evE, evEs, evT, evP, evI, exS, exSs, exH, hc, hx, hs, hf, hv, hn, A_e.E, A_e.Es, A_e.Tt, A_e.P, A_e.I, A_e.S, A_e.Ss, A_e.Hh] <;> first | rfl | done)
  | ret e_ ih_e =>
    intro hl Δ Δ' hg
    have hc : Δ'.cst = Δ.cst := by rw [hg.e]
    have hx : Δ'.exf = Δ.exf := by rw [hg.e]
    have hs : Δ'.sub = Δ.sub := by rw [hg.e]
    have hf : Δ'.flds = Δ.flds := by rw [hg.e]
    have hv : Δ'.lv = Δ.lv := by rw [hg.e]
    have hn : Δ'.xn = Δ.xn := by rw [hg.e]
    simp only [low, Bool.and_eq_true, decide_eq_true_eq] at hl
    have A_e := ih_e hl Δ Δ' hg
    refine ⟨?_, ?_, ?_, ?_, ?_, ?_, ?_, ?_, fun _ _ _ h => by cases h⟩ <;> (intros; simp only [evE, evEs, evT, evP, evI, exS, exSs, exH, hc, hx, hs, hf, hv, hn, A_e.E, A_e.Es, A_e.Tt, A_e.P, A_e.I, A_e.S, A_e.Ss, A_e.Hh] <;> first | rfl | done)
  | retN   =>
    intro hl Δ Δ' hg
    have hc : Δ'.cst = Δ.cst := by rw [hg.e]
    have hx : Δ'.exf = Δ.exf := by rw [hg.e]
    have hs : Δ'.sub = Δ.sub := by rw [hg.e]
    have hf : Δ'.flds = Δ.flds := by rw [hg.e]
    have hv : Δ'.lv = Δ.lv := by rw [hg.e]
    have hn : Δ'.xn = Δ.xn := by rw [hg.e]
    refine ⟨?_, ?_, ?_, ?_, ?_, ?_, ?_, ?_, fun _ _ _ h => by cases h⟩ <;> (intros; simp only [evE, evEs, evT, evP, evI, exS, exSs, exH, hc, hx, hs, hf, hv, hn] <;> first | rfl | done)
  | if_ c_ a_ b_ ih_c ih_a ih_b =>
    intro hl Δ Δ' hg
    have hc : Δ'.cst = Δ.cst := by rw [hg.e]
    have hx : Δ'.exf = Δ.exf := by rw [hg.e]
    have hs : Δ'.sub = Δ.sub := by rw [hg.e]
    have hf : Δ'.flds = Δ.flds := by rw [hg.e]
    have hv : Δ'.lv = Δ.lv := by rw [hg.e]
    have hn : Δ'.xn = Δ.xn := by rw [hg.e]
    simp only [low, Bool.and_eq_true, decide_eq_true_eq] at hl
    have A_c := ih_c hl.1.1 Δ Δ' hg
    have A_a := ih_a hl.1.2 Δ Δ' hg
    have A_b := ih_b hl.2 Δ Δ' hg
    refine ⟨?_, ?_, ?_, ?_, ?_, ?_, ?_, ?_, fun _ _ _ h => by cases h⟩ <;> (intros; simp only [evE, evEs, evT, evP, evI, exS, exSs, exH, hc, hx, hs, hf, hv, hn, A_c.E, A_c.Es, A_c.Tt, A_c.P, A_c.I, A_c.S, A_c.Ss, A_c.Hh, A_a.E, A_a.Es, A_a.Tt, A_a.P, A_a.I, A_a.S, A_a.Ss, A_a.Hh, A_b.E, A_b.Es, A_b.Tt, A_b.P, A_b.I, A_b.S, A_b.Ss, A_b.Hh] <;> first | rfl | done)
  | for_ tg_ it_ body_ ih_tg ih_it ih_body =>
    intro hl Δ Δ' hg
    have hc : Δ'.cst = Δ.cst := by rw [hg.e]
    have hx : Δ'.exf = Δ.exf := by rw [hg.e]
    have hs : Δ'.sub = Δ.sub := by rw [hg.e]
    have hf : Δ'.flds = Δ.flds := by rw [hg.e]
    have hv : Δ'.lv = Δ.lv := by rw [hg.e]
    have hn : Δ'.xn = Δ.xn := by rw [hg.e]
    simp only [low, Bool.and_eq_true, decide_eq_true_eq] at hl
    have A_tg := ih_tg hl.1.1 Δ Δ' hg
    have A_it := ih_it hl.1.2 Δ Δ' hg
    have A_body := ih_body hl.2 Δ Δ' hg
    refine ⟨?_, ?_, ?_, ?_, ?_, ?_, ?_, ?_, fun _ _ _ h => by cases h⟩ <;> (intros; simp only [evE, evEs, evT, evP, evI, exS, exSs, exH, hc, hx, hs, hf, hv, hn, A_tg.E, A_tg.Es, A_tg.Tt, A_tg.P, A_tg.I, A_tg.S, A_tg.Ss, A_tg.Hh, A_it.E, A_it.Es, A_it.Tt, A_it.P, A_it.I, A_it.S, A_it.Ss, A_it.Hh, A_body.E, A_body.Es, A_body.Tt, A_body.P, A_body.I, A_body.S, A_body.Ss, A_body.Hh] <;> first | rfl | done)
  | wh c_ body_ ih_c ih_body =>
    intro hl Δ Δ' hg
    have hc : Δ'.cst = Δ.cst := by rw [hg.e]
    have hx : Δ'.exf = Δ.exf := by rw [hg.e]
    have hs : Δ'.sub = Δ.sub := by rw [hg.e]
    have hf : Δ'.flds = Δ.flds := by rw [hg.e]
    have hv : Δ'.lv = Δ.lv := by rw [hg.e]
    have hn : Δ'.xn = Δ.xn := by rw [hg.e]
    simp only [low, Bool.and_eq_true, decide_eq_true_eq] at hl
    have A_c := ih_c hl.1 Δ Δ' hg
    have A_body := ih_body hl.2 Δ Δ' hg
    refine ⟨?_, ?_, ?_, ?_, ?_, ?_, ?_, ?_, fun _ _ _ h => by cases h⟩ <;> (intros; simp only [evE, evEs, evT, evP, evI, exS, exSs, exH, hc, hx, hs, hf, hv, hn, A_c.E, A_c.Es, A_c.Tt, A_c.P, A_c.I, A_c.S, A_c.Ss, A_c.Hh, A_body.E, A_body.Es, A_body.Tt, A_body.P, A_body.I, A_body.S, A_body.Ss, A_body.Hh] <;> first | rfl | done)
  | pass   =>
    intro hl Δ Δ' hg
    have hc : Δ'.cst = Δ.cst := by rw [hg.e]
    have hx : Δ'.exf = Δ.exf := by rw [hg.e]
    have hs : Δ'.sub = Δ.sub := by rw [hg.e]
    have hf : Δ'.flds = Δ.flds := by rw [hg.e]
    have hv : Δ'.lv = Δ.lv := by rw [hg.e]
    have hn : Δ'.xn = Δ.xn := by rw [hg.e]
    refine ⟨?_, ?_, ?_, ?_, ?_, ?_, ?_, ?_, fun _ _ _ h => by cases h⟩ <;> (intros; simp only [evE, evEs, evT, evP, evI, exS, exSs, exH, hc, hx, hs, hf, hv, hn] <;> first | rfl | done)
  | brk   =>
    intro hl Δ Δ' hg
    have hc : Δ'.cst = Δ.cst := by rw [hg.e]
    have hx : Δ'.exf = Δ.exf := by rw [hg.e]
    have hs : Δ'.sub = Δ.sub := by rw [hg.e]
    have hf : Δ'.flds = Δ.flds := by rw [hg.e]
    have hv : Δ'.lv = Δ.lv := by rw [hg.e]
    have hn : Δ'.xn = Δ.xn := by rw [hg.e]
    refine ⟨?_, ?_, ?_, ?_, ?_, ?_, ?_, ?_, fun _ _ _ h => by cases h⟩ <;> (intros; simp only [evE, evEs, evT, evP, evI, exS, exSs, exH, hc, hx, hs, hf, hv, hn] <;> first | rfl | done)
  | rais c_ es_ ih_es =>
    intro hl Δ Δ' hg
    have hc : Δ'.cst = Δ.cst := by rw [hg.e]
    have hx : Δ'.exf = Δ.exf := by rw [hg.e]
    have hs : Δ'.sub = Δ.sub := by rw [hg.e]
    have hf : Δ'.flds = Δ.flds := by rw [hg.e]
    have hv : Δ'.lv = Δ.lv := by rw [hg.e]
    have hn : Δ'.xn = Δ.xn := by rw [hg.e]
    simp only [low, Bool.and_eq_true, decide_eq_true_eq] at hl
    have A_es := ih_es hl Δ Δ' hg
    refine ⟨?_, ?_, ?_, ?_, ?_, ?_, ?_, ?_, fun _ _ _ h => by cases h⟩ <;> (intros; simp only [evE, evEs, evT, evP, evI, exS, exSs, exH, hc, hx, hs, hf, hv, hn, A_es.E, A_es.Es, A_es.Tt, A_es.P, A_es.I, A_es.S, A_es.Ss, A_es.Hh] <;> first | rfl | done)
  | try_ body_ hs_ ih_body ih_hs =>
    intro hl Δ Δ' hg
    have hc : Δ'.cst = Δ.cst := by rw [hg.e]
    have hx : Δ'.exf = Δ.exf := by rw [hg.e]
    have hs : Δ'.sub = Δ.sub := by rw [hg.e]
    have hf : Δ'.flds = Δ.flds := by rw [hg.e]
    have hv : Δ'.lv = Δ.lv := by rw [hg.e]
    have hn : Δ'.xn = Δ.xn := by rw [hg.e]
    simp only [low, Bool.and_eq_true, decide_eq_true_eq] at hl
    have A_body := ih_body hl.1 Δ Δ' hg
    have A_hs := ih_hs hl.2 Δ Δ' hg
    refine ⟨?_, ?_, ?_, ?_, ?_, ?_, ?_, ?_, fun _ _ _ h => by cases h⟩ <;> (intros; simp only [evE, evEs, evT, evP, evI, exS, exSs, exH, hc, hx, hs, hf, hv, hn, A_body.E, A_body.Es, A_body.Tt, A_body.P, A_body.I, A_body.S, A_body.Ss, A_body.Hh, A_hs.E, A_hs.Es, A_hs.Tt, A_hs.P, A_hs.I, A_hs.S, A_hs.Ss, A_hs.Hh] <;> first | rfl | done)
  | hd c_ i_ suite_ ih_suite =>
    intro hl Δ Δ' hg
    have hc : Δ'.cst = Δ.cst := by rw [hg.e]
    have hx : Δ'.exf = Δ.exf := by rw [hg.e]
    have hs : Δ'.sub = Δ.sub := by rw [hg.e]
    have hf : Δ'.flds = Δ.flds := by rw [hg.e]
    have hv : Δ'.lv = Δ.lv := by rw [hg.e]
    have hn : Δ'.xn = Δ.xn := by rw [hg.e]
    simp only [low, Bool.and_eq_true, decide_eq_true_eq] at hl
    have A_suite := ih_suite hl Δ Δ' hg
    refine ⟨?_, ?_, ?_, ?_, ?_, ?_, ?_, ?_, fun k i s h x ρ st => ?_⟩
    case refine_9 => cases h; exact (ih_suite hl _ _ (hg.x x)).Ss ρ st
    all_goals (intros; simp only [evE, evEs, evT, evP, evI, exS, exSs, exH, hc, hx, hs, hf, hv, hn, A_suite.E, A_suite.Es, A_suite.Tt, A_suite.P, A_suite.I, A_suite.S, A_suite.Ss, A_suite.Hh] <;> first | rfl | done)
  | forget is_  =>
    intro hl Δ Δ' hg
    have hc : Δ'.cst = Δ.cst := by rw [hg.e]
    have hx : Δ'.exf = Δ.exf := by rw [hg.e]
    have hs : Δ'.sub = Δ.sub := by rw [hg.e]
    have hf : Δ'.flds = Δ.flds := by rw [hg.e]
    have hv : Δ'.lv = Δ.lv := by rw [hg.e]
    have hn : Δ'.xn = Δ.xn := by rw [hg.e]
    refine ⟨?_, ?_, ?_, ?_, ?_, ?_, ?_, ?_, fun _ _ _ h => by cases h⟩ <;> (intros; simp only [evE, evEs, evT, evP, evI, exS, exSs, exH, hc, hx, hs, hf, hv, hn] <;> first | rfl | done)
/-- what the defs of a text compute, by levels -/
noncomputable def Fns (Δ : Dl) (f : Nat → Fn) (i : Nat) : List D → Store → Res W :=
  runFn { Δ with fns := fun j ds st => if h : Δ.lv j < Δ.lv i then Fns Δ f j ds st else .stuck } (f i)
termination_by Δ.lv i
noncomputable def full (Δ : Dl) (f : Nat → Fn) : Dl := { Δ with fns := Fns Δ f }
theorem full_fns (Δ : Dl) (f : Nat → Fn) (i : Nat) (h : low Δ.lv (Δ.lv i) (f i).body = true) : (full Δ f).fns i = runFn (full Δ f) (f i) := by
  have e : (full Δ f).fns i = Fns Δ f i := rfl
  rw [e, Fns]
  funext ds st
  have hg : Ag Δ.lv (Δ.lv i) { Δ with fns := fun j ds st => if h : Δ.lv j < Δ.lv i then Fns Δ f j ds st else .stuck } (full Δ f) := ⟨fun j hj => by
    funext ds st
    show (if h : Δ.lv j < Δ.lv i then Fns Δ f j ds st else .stuck) = _
    rw [dif_pos hj]; rfl, rfl, rfl⟩
  unfold runFn
  rw [(cong _ _ _ h _ _ hg).Ss]
end Fw

/-! ## E00 -/
set_option Elab.async false
set_option linter.all false
set_option maxRecDepth 100000
set_option maxHeartbeats 4000000
/-! k00: what the defs compute. -/
namespace Fw.K00
open PySem L2
def fs (i : Nat) : Fn := match i with
  | 0 => f_law_raise
  | 1 => f_law_draws
  | 2 => f_law_limits_right
  | 3 => f_law_more
  | 4 => f_law_caught
  | 5 => f_law_fields
  | 6 => f_law_take
  | 7 => f_law_one
  | 8 => f_law
  | _ => ⟨0, 0, .nil⟩
noncomputable def base : Dl where
  fns := fun _ _ _ => .stuck
  cst := fun i => match i with
    | 0 => (.int 1200)
    | 1 => (.int 256)
    | 2 => (.int 34)
    | 3 => (.int 3)
    | 4 => (.int 512)
    | 5 => (.int 12)
    | 6 => (.int 300)
    | 7 => (.int 4095)
    | 8 => (.int 6000)
    | 9 => (.int 24)
    | 10 => (.int 12)
    | 11 => (.int 128)
    | 12 => (.int 200)
    | 13 => (.int 20000)
    | 14 => (.int 1020)
    | _ => .non
  exf := ev.exf
  sub := fun c k => match c, k with
    | 0, 0 => true
    | 1, 0 => true
    | 1, 1 => true
    | 2, 0 => true
    | 2, 1 => true
    | 2, 2 => true
    | 3, 0 => true
    | 3, 1 => true
    | 3, 3 => true
    | 4, 0 => true
    | 4, 1 => true
    | 4, 4 => true
    | 5, 0 => true
    | 5, 1 => true
    | 5, 5 => true
    | 6, 0 => true
    | 6, 6 => true
    | 7, 0 => true
    | 7, 7 => true
    | 8, 0 => true
    | 8, 8 => true
    | _, _ => false
  flds := fun c => match c with

    | _ => []
  lv := ev.lv
noncomputable def Δ : Dl := full base fs
theorem fn_law_raise : Δ.fns 0 = runFn Δ f_law_raise := full_fns base fs 0 (by decide +kernel)
theorem fine_law_raise : ∀ ds st, Δ.fns 0 ds st = .stuck ∨ Δ.fns 0 ds st = runFn Δ f_law_raise ds st := fun _ _ => .inr (by rw [fn_law_raise])
theorem fn_law_draws : Δ.fns 1 = runFn Δ f_law_draws := full_fns base fs 1 (by decide +kernel)
theorem fine_law_draws : ∀ ds st, Δ.fns 1 ds st = .stuck ∨ Δ.fns 1 ds st = runFn Δ f_law_draws ds st := fun _ _ => .inr (by rw [fn_law_draws])
theorem fn_law_limits_right : Δ.fns 2 = runFn Δ f_law_limits_right := full_fns base fs 2 (by decide +kernel)
theorem fine_law_limits_right : ∀ ds st, Δ.fns 2 ds st = .stuck ∨ Δ.fns 2 ds st = runFn Δ f_law_limits_right ds st := fun _ _ => .inr (by rw [fn_law_limits_right])
theorem fn_law_more : Δ.fns 3 = runFn Δ f_law_more := full_fns base fs 3 (by decide +kernel)
theorem fine_law_more : ∀ ds st, Δ.fns 3 ds st = .stuck ∨ Δ.fns 3 ds st = runFn Δ f_law_more ds st := fun _ _ => .inr (by rw [fn_law_more])
theorem fn_law_caught : Δ.fns 4 = runFn Δ f_law_caught := full_fns base fs 4 (by decide +kernel)
theorem fine_law_caught : ∀ ds st, Δ.fns 4 ds st = .stuck ∨ Δ.fns 4 ds st = runFn Δ f_law_caught ds st := fun _ _ => .inr (by rw [fn_law_caught])
theorem fn_law_fields : Δ.fns 5 = runFn Δ f_law_fields := full_fns base fs 5 (by decide +kernel)
theorem fine_law_fields : ∀ ds st, Δ.fns 5 ds st = .stuck ∨ Δ.fns 5 ds st = runFn Δ f_law_fields ds st := fun _ _ => .inr (by rw [fn_law_fields])
theorem fn_law_take : Δ.fns 6 = runFn Δ f_law_take := full_fns base fs 6 (by decide +kernel)
theorem fine_law_take : ∀ ds st, Δ.fns 6 ds st = .stuck ∨ Δ.fns 6 ds st = runFn Δ f_law_take ds st := fun _ _ => .inr (by rw [fn_law_take])
theorem fn_law_one : Δ.fns 7 = runFn Δ f_law_one := full_fns base fs 7 (by decide +kernel)
theorem fine_law_one : ∀ ds st, Δ.fns 7 ds st = .stuck ∨ Δ.fns 7 ds st = runFn Δ f_law_one ds st := fun _ _ => .inr (by rw [fn_law_one])
theorem fn_law : Δ.fns 8 = runFn Δ f_law := full_fns base fs 8 (by decide +kernel)
theorem fine_law : ∀ ds st, Δ.fns 8 ds st = .stuck ∨ Δ.fns 8 ds st = runFn Δ f_law ds st := fun _ _ => .inr (by rw [fn_law])
theorem cst_0 : Δ.cst 0 = (.int 1200) := rfl
theorem cst_1 : Δ.cst 1 = (.int 256) := rfl
theorem cst_2 : Δ.cst 2 = (.int 34) := rfl
theorem cst_3 : Δ.cst 3 = (.int 3) := rfl
theorem cst_4 : Δ.cst 4 = (.int 512) := rfl
theorem cst_5 : Δ.cst 5 = (.int 12) := rfl
theorem cst_6 : Δ.cst 6 = (.int 300) := rfl
theorem cst_7 : Δ.cst 7 = (.int 4095) := rfl
theorem cst_8 : Δ.cst 8 = (.int 6000) := rfl
theorem cst_9 : Δ.cst 9 = (.int 24) := rfl
theorem cst_10 : Δ.cst 10 = (.int 12) := rfl
theorem cst_11 : Δ.cst 11 = (.int 128) := rfl
theorem cst_12 : Δ.cst 12 = (.int 200) := rfl
theorem cst_13 : Δ.cst 13 = (.int 20000) := rfl
theorem cst_14 : Δ.cst 14 = (.int 1020) := rfl
end Fw.K00

/-! ## W1 -/
set_option Elab.async false
set_option linter.all false
set_option maxRecDepth 100000
set_option maxHeartbeats 4000000
/-! What holds behind a term: conditions instead of values. -/
namespace Fw
open PySem L2
def Res.sat {α : Type} (r : Res α) (Q : α → Store → Prop) (X : Nat → List (Nat × D) → Store → Prop) : Prop := match r with
  | .ok a st => Q a st
  | .exc c fs st => X c fs st
  | .stuck => False
structure Post where
  nx : Lc → Store → Prop
  ret : W → Store → Prop
  bk : Lc → Store → Prop
  exc : Nat → List (Nat × D) → Lc → Store → Prop
def Out.sat (o : Out) (P : Post) : Prop := match o with
  | .nx ρ st => P.nx ρ st
  | .ret w st => P.ret w st
  | .bk ρ st => P.bk ρ st
  | .exc c fs ρ st => P.exc c fs ρ st
  | .stuck => False
abbrev noE : Nat → List (Nat × D) → Store → Prop := fun _ _ _ => False
def satK {α β : Type} (k : α → Store → Res β) (Q : β → Store → Prop) (X : Nat → List (Nat × D) → Store → Prop) (a : α) (st : Store) : Prop := (k a st).sat Q X
def satO {α : Type} (k : α → Store → Out) (P : Post) (a : α) (st : Store) : Prop := (k a st).sat P
def seqN (k : Lc → Store → Out) (P : Post) (ρ : Lc) (st : Store) : Prop := (k ρ st).sat P
def excO (ρ : Lc) (P : Post) (c : Nat) (fs : List (Nat × D)) (st : Store) : Prop := P.exc c fs ρ st
section
variable {α β : Type} {Q : α → Store → Prop} {Q2 : β → Store → Prop} {X : Nat → List (Nat × D) → Store → Prop} {P : Post} (st : Store) (ρ : Lc)
theorem sat_ok (a : α) : (Res.ok a st).sat Q X = Q a st := rfl
theorem sat_exc (c : Nat) (fs : List (Nat × D)) : (Res.exc (α := α) c fs st).sat Q X = X c fs st := rfl
theorem sat_bind (r : Res α) (k : α → Store → Res β) : (r.bind k).sat Q2 X = r.sat (satK k Q2 X) X := by cases r <;> rfl
theorem osat_nx : (Out.nx ρ st).sat P = P.nx ρ st := rfl
theorem osat_ret (w : W) : (Out.ret w st).sat P = P.ret w st := rfl
theorem osat_bk : (Out.bk ρ st).sat P = P.bk ρ st := rfl
theorem osat_exc (c : Nat) (fs : List (Nat × D)) : (Out.exc c fs ρ st).sat P = P.exc c fs ρ st := rfl
theorem osat_stp (r : Res α) (k : α → Store → Out) : (stp r ρ k).sat P = r.sat (satO k P) (excO ρ P) := by cases r <;> rfl
theorem osat_seq (o : Out) (k : Lc → Store → Out) : (seqO o k).sat P = o.sat ⟨seqN k P, P.ret, P.bk, P.exc⟩ := by cases o <;> rfl
theorem sat_eq {r : Res α} {a : α} {st : Store} (h : r.sat (fun w s => w = a ∧ s = st) noE) : r = .ok a st := by
  cases r with
  | ok w s => obtain ⟨rfl, rfl⟩ := h; rfl
  | exc c fs s => exact h.elim
  | stuck => exact h.elim
theorem sat_eqX {r : Res α} {c : Nat} {fs : List (Nat × D)} {st : Store} (h : r.sat (fun _ _ => False) (fun c' fs' s => c' = c ∧ fs' = fs ∧ s = st)) : r = .exc c fs st := by
  cases r with
  | ok w s => exact h.elim
  | exc c fs s => obtain ⟨rfl, rfl, rfl⟩ := h; rfl
  | stuck => exact h.elim
theorem sat_imp {r : Res α} {Q Q' : α → Store → Prop} {X X' : Nat → List (Nat × D) → Store → Prop} (h : r.sat Q X) (f : ∀ a st, Q a st → Q' a st) (f2 : ∀ c fs st, X c fs st → X' c fs st) : r.sat Q' X' := by
  cases r with
  | ok w s => exact f _ _ h
  | exc c fs s => exact f2 _ _ _ h
  | stuck => exact h.elim
theorem osat_imp {o : Out} {P P' : Post} (h : o.sat P) (f : ∀ ρ st, P.nx ρ st → P'.nx ρ st) (f2 : ∀ w st, P.ret w st → P'.ret w st) (f3 : ∀ ρ st, P.bk ρ st → P'.bk ρ st) (f4 : ∀ c fs ρ st, P.exc c fs ρ st → P'.exc c fs ρ st) : o.sat P' := by
  cases o with
  | nx ρ st => exact f _ _ h
  | ret w st => exact f2 _ _ h
  | bk ρ st => exact f3 _ _ h
  | exc c fs ρ st => exact f4 _ _ _ _ h
  | stuck => exact h.elim
theorem satK_eq (k : α → Store → Res β) (a : α) : satK k Q2 X a st = (k a st).sat Q2 X := rfl
theorem satO_eq (k : α → Store → Out) (a : α) : satO k P a st = (k a st).sat P := rfl
theorem seqN_eq (k : Lc → Store → Out) : seqN k P ρ st = (k ρ st).sat P := rfl
theorem excO_eq (c : Nat) (fs : List (Nat × D)) : excO ρ P c fs st = P.exc c fs ρ st := rfl
theorem post_nx (a : Lc → Store → Prop) (b c d) : (Post.mk a b c d).nx = a := rfl
theorem post_ret (a b c d) : (Post.mk a b c d).ret = b := rfl
theorem post_bk (a b c d) : (Post.mk a b c d).bk = c := rfl
theorem post_exc (a b c d) : (Post.mk a b c d).exc = d := rfl
/-- a stop between two parts -/
theorem seq_sat {o : Out} {k : Lc → Store → Out} (I : Lc → Store → Prop) (h : o.sat ⟨I, P.ret, P.bk, P.exc⟩) (h2 : ∀ ρ st, I ρ st → (k ρ st).sat P) : (seqO o k).sat P := by
  rw [osat_seq]; exact osat_imp h h2 (fun _ _ h => h) (fun _ _ h => h) (fun _ _ _ _ h => h)
theorem mid_sat {o : Out} (I : Lc → Store → Prop) {N : Lc → Store → Prop} {R : W → Store → Prop} {B : Lc → Store → Prop} {E : Nat → List (Nat × D) → Lc → Store → Prop} (h : o.sat ⟨I, R, B, E⟩) (h2 : ∀ ρ st, I ρ st → N ρ st) : o.sat ⟨N, R, B, E⟩ :=
  osat_imp h h2 (fun _ _ h => h) (fun _ _ h => h) (fun _ _ _ _ h => h)
end
/-! choices -/
def andR (k : Bool) (r : Res Bool) (st : Store) : Res Bool := if k = true then r else .ok false st
def orR (k : Bool) (r : Res Bool) (st : Store) : Res Bool := if k = true then .ok true st else r
theorem andR_t (r : Res Bool) (st : Store) : andR true r st = r := rfl
theorem andR_f (r : Res Bool) (st : Store) : andR false r st = .ok false st := rfl
theorem andR_ok (k b : Bool) (st : Store) : andR k (.ok b st) st = .ok (k && b) st := by cases k <;> rfl
theorem orR_t (r : Res Bool) (st : Store) : orR true r st = .ok true st := rfl
theorem orR_f (r : Res Bool) (st : Store) : orR false r st = r := rfl
theorem orR_ok (k b : Bool) (st : Store) : orR k (.ok b st) st = .ok (k || b) st := by cases k <;> rfl
theorem andR_sat {Q : Bool → Store → Prop} {X} {k : Bool} {r : Res Bool} {st : Store} (h : k = true → r.sat Q X) (h2 : k = false → Q false st) : (andR k r st).sat Q X := by cases k; exact h2 rfl; exact h rfl
theorem orR_sat {Q : Bool → Store → Prop} {X} {k : Bool} {r : Res Bool} {st : Store} (h : k = false → r.sat Q X) (h2 : k = true → Q true st) : (orR k r st).sat Q X := by cases k; exact h rfl; exact h2 rfl
/-- the truth of a value -/
def truR (d : D) (st : Store) : Res Bool := match truth st d with
  | some k => .ok k st
  | none => .stuck
section
variable (st : Store)
theorem truR_bl (b : Bool) : truR (.bl b) st = .ok b st := rfl
theorem truR_non : truR .non st = .ok false st := rfl
theorem truR_int (i : Int) : truR (.int i) st = .ok (i != 0) st := rfl
theorem truR_tup (ds : List D) : truR (.tup ds) st = .ok (!ds.isEmpty) st := rfl
theorem truR_lst (ds : List D) : truR (.lst ds) st = .ok (!ds.isEmpty) st := rfl
theorem truR_str (x : Str) (h : x.length ≤ big) : truR (.str x) st = .ok (x.length != 0) st := by unfold truR; rw [show truth st (.str x) = some (x.length != 0) from if_pos h]
theorem truR_ref (n : Nat) (ds : List D) (h : st[n]? = some (.lst ds)) : truR (.ref n) st = .ok (!ds.isEmpty) st := by
  unfold truR truth seqD seqL; dsimp only; rw [h]; rfl
end
/-! the evaluator once more, each way on by its name -/
noncomputable section
variable (Δ : Dl) (ρ : Lc) (st : Store)
def kBin2 (o : Operator) (x : W) (y : W) (st : Store) : Res W := opBin o x.d y.d st
theorem kBin2_ (o : Operator) (x y : W) : kBin2 o x y st = opBin o x.d y.d st := rfl
def kBin (o : Operator) (b : T) (x : W) (st : Store) : Res W := (evE Δ b ρ st).bind (kBin2 o x)
theorem kBin_ (o : Operator) (b : T) (x : W) : kBin Δ ρ o b x st = (evE Δ b ρ st).bind (kBin2 o x) := rfl
theorem w_bin (o : Operator) (a b : T) : evE Δ (.bin o a b) ρ st = (evE Δ a ρ st).bind (kBin Δ ρ o b) := evE_bin ..
def kNeg (x : W) (st : Store) : Res W := match x.d with
  | .int i => .ok (.v (.int (-i))) st
  | _ => .stuck
theorem kNeg_ (i : Int) : kNeg (.v (.int i)) st = .ok (.v (.int (-i))) st := rfl
theorem w_neg (a : T) : evE Δ (.neg a) ρ st = (evE Δ a ρ st).bind kNeg := evE_neg ..
def kNot2 (k : Bool) (st : Store) : Res W := .ok (.v (.bl (!k))) st
theorem kNot2_ (k : Bool) : kNot2 k st = .ok (.v (.bl (!k))) st := rfl
def kNot (x : W) (st : Store) : Res W := (truR x.d st).bind kNot2
theorem kNot_ (x : W) : kNot x st = (truR x.d st).bind kNot2 := rfl
theorem w_not (a : T) : evE Δ (.not a) ρ st = (evE Δ a ρ st).bind kNot := by
  rw [evE_not]; congr 1; funext w st; unfold kNot truR; cases truth st w.d <;> rfl
def kAnd2 (b : T) (w : W) (k : Bool) (st : Store) : Res W := if k = true then evE Δ b ρ st else .ok (.v w.d) st
theorem kAnd2_t (b : T) (w : W) : kAnd2 Δ ρ b w true st = evE Δ b ρ st := rfl
theorem kAnd2_f (b : T) (w : W) : kAnd2 Δ ρ b w false st = .ok (.v w.d) st := rfl
def kAnd (b : T) (x : W) (st : Store) : Res W := (truR x.d st).bind (kAnd2 Δ ρ b x)
theorem kAnd_ (b : T) (x : W) : kAnd Δ ρ b x st = (truR x.d st).bind (kAnd2 Δ ρ b x) := rfl
theorem w_and (a b : T) : evE Δ (.and a b) ρ st = (evE Δ a ρ st).bind (kAnd Δ ρ b) := by
  rw [evE_and]; congr 1; funext w st; unfold kAnd truR; cases truth st w.d <;> rfl
def kOr2 (b : T) (w : W) (k : Bool) (st : Store) : Res W := if k = true then .ok (.v w.d) st else evE Δ b ρ st
theorem kOr2_t (b : T) (w : W) : kOr2 Δ ρ b w true st = .ok (.v w.d) st := rfl
theorem kOr2_f (b : T) (w : W) : kOr2 Δ ρ b w false st = evE Δ b ρ st := rfl
def kOr (b : T) (x : W) (st : Store) : Res W := (truR x.d st).bind (kOr2 Δ ρ b x)
theorem kOr_ (b : T) (x : W) : kOr Δ ρ b x st = (truR x.d st).bind (kOr2 Δ ρ b x) := rfl
theorem w_or (a b : T) : evE Δ (.or a b) ρ st = (evE Δ a ρ st).bind (kOr Δ ρ b) := by
  rw [evE_or]; congr 1; funext w st; unfold kOr truR; cases truth st w.d <;> rfl
def kV (d : D) (st : Store) : Res W := .ok (.v d) st
theorem kV_ (d : D) : kV d st = .ok (.v d) st := rfl
def kCmp2 (o : CmpOp) (x y : W) (st : Store) : Res W := (opCmp o x.d y.d st).bind kV
theorem kCmp2_ (o : CmpOp) (x y : W) : kCmp2 o x y st = (opCmp o x.d y.d st).bind kV := rfl
def kCmp (o : CmpOp) (b : T) (x : W) (st : Store) : Res W := (evE Δ b ρ st).bind (kCmp2 o x)
theorem kCmp_ (o : CmpOp) (b : T) (x : W) : kCmp Δ ρ o b x st = (evE Δ b ρ st).bind (kCmp2 o x) := rfl
theorem w_cmp (o : CmpOp) (a b : T) : evE Δ (.cmp o a b) ρ st = (evE Δ a ρ st).bind (kCmp Δ ρ o b) := evE_cmp ..
def kBl (k : Bool) (st : Store) : Res W := .ok (.v (.bl k)) st
theorem kBl_ (k : Bool) : kBl k st = .ok (.v (.bl k)) st := rfl
def kCB2 (o : CmpOp) (x y : W) (st : Store) : Res Bool := cmpB o x.d y.d st
theorem kCB2_ (o : CmpOp) (x y : W) : kCB2 o x y st = cmpB o x.d y.d st := rfl
def kCB (o : CmpOp) (b : T) (x : W) (st : Store) : Res Bool := (evE Δ b ρ st).bind (kCB2 o x)
theorem kCB_ (o : CmpOp) (b : T) (x : W) : kCB Δ ρ o b x st = (evE Δ b ρ st).bind (kCB2 o x) := rfl
theorem v_cmp (o : CmpOp) (a b : T) : evT Δ (.cmp o a b) ρ st = (evE Δ a ρ st).bind (kCB Δ ρ o b) := evT_cmp ..
def kCh3 (o : CmpOp) (c : T) (y : W) (k : Bool) (st : Store) : Res Bool := andR k ((evE Δ c ρ st).bind (kCB2 o y)) st
theorem kCh3_ (o : CmpOp) (c : T) (y : W) (k : Bool) : kCh3 Δ ρ o c y k st = andR k ((evE Δ c ρ st).bind (kCB2 o y)) st := rfl
def kCh2 (o o' : CmpOp) (c : T) (x y : W) (st : Store) : Res Bool := (cmpB o x.d y.d st).bind (kCh3 Δ ρ o' c y)
theorem kCh2_ (o o' : CmpOp) (c : T) (x y : W) : kCh2 Δ ρ o o' c x y st = (cmpB o x.d y.d st).bind (kCh3 Δ ρ o' c y) := rfl
def kCh (o o' : CmpOp) (b c : T) (x : W) (st : Store) : Res Bool := (evE Δ b ρ st).bind (kCh2 Δ ρ o o' c x)
theorem kCh_ (o o' : CmpOp) (b c : T) (x : W) : kCh Δ ρ o o' b c x st = (evE Δ b ρ st).bind (kCh2 Δ ρ o o' c x) := rfl
theorem v_chain (o o' : CmpOp) (a b c : T) : evT Δ (.chain o o' a b c) ρ st = (evE Δ a ρ st).bind (kCh Δ ρ o o' b c) := evT_chain ..
theorem w_chain (o o' : CmpOp) (a b c : T) : evE Δ (.chain o o' a b c) ρ st = ((evE Δ a ρ st).bind (kCh Δ ρ o o' b c)).bind kBl := by
  rw [evE_chain]
  cases evE Δ a ρ st with
  | ok x st =>
    show Res.bind (evE Δ b ρ st) _ = (Res.bind (evE Δ b ρ st) (kCh2 Δ ρ o o' c x)).bind kBl
    cases evE Δ b ρ st with
    | ok y st =>
      show Res.bind (cmpB o x.d y.d st) _ = (Res.bind (cmpB o x.d y.d st) (kCh3 Δ ρ o' c y)).bind kBl
      cases cmpB o x.d y.d st with
      | ok k st =>
        cases k
        · rfl
        · show Res.bind (evE Δ c ρ st) _ = (Res.bind (evE Δ c ρ st) (kCB2 o' y)).bind kBl
          cases evE Δ c ρ st <;> rfl
      | _ => rfl
    | _ => rfl
  | _ => rfl
def kIte (a b : T) (k : Bool) (st : Store) : Res W := if k = true then evE Δ a ρ st else evE Δ b ρ st
theorem kIte_t (a b : T) : kIte Δ ρ a b true st = evE Δ a ρ st := rfl
theorem kIte_f (a b : T) : kIte Δ ρ a b false st = evE Δ b ρ st := rfl
theorem w_ite (c a b : T) : evE Δ (.ite c a b) ρ st = (evT Δ c ρ st).bind (kIte Δ ρ a b) := evE_ite ..
def kTup (ds : List D) (st : Store) : Res W := if ds.length ≤ big then .ok (.v (.tup ds)) st else .stuck
theorem kTup_ (ds : List D) (h : ds.length ≤ 16777216) : kTup ds st = .ok (.v (.tup ds)) st := if_pos h
def kLst (ds : List D) (st : Store) : Res W := if ds.length ≤ big then .ok (.fr ds) st else .stuck
theorem kLst_ (ds : List D) (h : ds.length ≤ 16777216) : kLst ds st = .ok (.fr ds) st := if_pos h
theorem w_tup (es : T) : evE Δ (.tup es) ρ st = (evEs Δ es ρ st).bind kTup := evE_tup ..
theorem w_lst (es : T) : evE Δ (.lst es) ρ st = (evEs Δ es ρ st).bind kLst := evE_lst ..
theorem w_itN (a : T) : evE Δ (.itN a) ρ st = (evI Δ a ρ st).bind kTup := evE_itN ..
theorem w_call (f : Nat) (es : T) : evE Δ (.call f es) ρ st = (evEs Δ es ρ st).bind (Δ.fns f) := evE_call ..
def kCv (n : Nat) (es : T) (x : W) (st : Store) : Res W := match x.d with
  | .fn f => if Δ.lv f < n then (evEs Δ es ρ st).bind fun ds st => Δ.fns f ds st else .stuck
  | _ => .stuck
theorem kCv_ (n f : Nat) (es : T) (h : Δ.lv f < n) : kCv Δ ρ n es (.v (.fn f)) st = (evEs Δ es ρ st).bind (Δ.fns f) := if_pos h
theorem w_callv (n : Nat) (f es : T) : evE Δ (.callv n f es) ρ st = (evE Δ f ρ st).bind (kCv Δ ρ n es) := evE_callv ..
def kRev (x : W) (st : Store) : Res W := opRev x.d st
theorem kRev_ (x : W) : kRev x st = opRev x.d st := rfl
theorem w_rev (a : T) : evE Δ (.rev a) ρ st = (evE Δ a ρ st).bind kRev := evE_rev ..
def newR (n : Nat) (w : W) (st : Store) : Res W := match w with
  | .v .non => .ok (.v (.ref n)) st
  | _ => .stuck
theorem newR_ (n : Nat) : newR n (.v .non) st = .ok (.v (.ref n)) st := rfl
def kNew (c f : Nat) (ds : List D) (st : Store) : Res W := (Δ.fns f (.ref st.length :: ds) (st ++ [.ins c []])).bind (newR st.length)
theorem kNew_ (c f : Nat) (ds : List D) : kNew Δ c f ds st = (Δ.fns f (.ref st.length :: ds) (st ++ [.ins c []])).bind (newR st.length) := rfl
theorem w_new (c f : Nat) (es : T) : evE Δ (.new c f es) ρ st = (evEs Δ es ρ st).bind (kNew Δ c f) := evE_new ..
def kMe2 (f n : Nat) (ds : List D) (st : Store) : Res W := Δ.fns f (.ref n :: ds) st
theorem kMe2_ (f n : Nat) (ds : List D) : kMe2 Δ f n ds st = Δ.fns f (.ref n :: ds) st := rfl
def kMe (c m f : Nat) (es : T) (x : W) (st : Store) : Res W := match x.d with
  | .ref n => match st[n]? with
    | some (.ins c' fs) => if c' = c ∧ fs.lookup m = none then (evEs Δ es ρ st).bind fun ds st => Δ.fns f (.ref n :: ds) st else .stuck
    | _ => .stuck
  | _ => .stuck
theorem kMe_ (c m f n : Nat) (es : T) (fs : List (Nat × D)) (h : st[n]? = some (.ins c fs)) (h2 : fs.lookup m = none) : kMe Δ ρ c m f es (.v (.ref n)) st = (evEs Δ es ρ st).bind (kMe2 Δ f n) := by
  unfold kMe; dsimp only [W.d_v]; rw [h]; dsimp only; rw [if_pos ⟨rfl, h2⟩]; rfl
theorem w_meth (c m f : Nat) (o es : T) : evE Δ (.meth c m f o es) ρ st = (evE Δ o ρ st).bind (kMe Δ ρ c m f es) := evE_meth ..
theorem w_blt (b : B) (es : T) : evE Δ (.blt b es) ρ st = (evEs Δ es ρ st).bind (opB b) := evE_blt ..
def kTy (k : Ty) (x : W) (st : Store) : Res W := match isTy k x.d with
  | some b => .ok (.v (.bl b)) st
  | none => .stuck
theorem kTy_tt (ds : List D) : kTy .tuple (.v (.tup ds)) st = .ok (.v (.bl true)) st := rfl
theorem kTy_ti (i : Int) : kTy .tuple (.v (.int i)) st = .ok (.v (.bl false)) st := rfl
theorem kTy_tl (ds : List D) : kTy .tuple (.v (.lst ds)) st = .ok (.v (.bl false)) st := rfl
theorem kTy_tn : kTy .tuple (.v .non) st = .ok (.v (.bl false)) st := rfl
theorem kTy_tb (b : Bool) : kTy .tuple (.v (.bl b)) st = .ok (.v (.bl false)) st := rfl
theorem kTy_ts (x : Str) : kTy .tuple (.v (.str x)) st = .ok (.v (.bl false)) st := rfl
theorem kTy_ii (i : Int) : kTy .int (.v (.int i)) st = .ok (.v (.bl true)) st := rfl
theorem kTy_ib (b : Bool) : kTy .int (.v (.bl b)) st = .ok (.v (.bl true)) st := rfl
theorem kTy_in_ : kTy .int (.v .non) st = .ok (.v (.bl false)) st := rfl
theorem kTy_it (ds : List D) : kTy .int (.v (.tup ds)) st = .ok (.v (.bl false)) st := rfl
theorem kTy_il (ds : List D) : kTy .int (.v (.lst ds)) st = .ok (.v (.bl false)) st := rfl
theorem kTy_is_ (x : Str) : kTy .int (.v (.str x)) st = .ok (.v (.bl false)) st := rfl
theorem kTy_bi (i : Int) : kTy .bool (.v (.int i)) st = .ok (.v (.bl false)) st := rfl
theorem kTy_bb (b : Bool) : kTy .bool (.v (.bl b)) st = .ok (.v (.bl true)) st := rfl
theorem kTy_bn : kTy .bool (.v .non) st = .ok (.v (.bl false)) st := rfl
theorem kTy_bt (ds : List D) : kTy .bool (.v (.tup ds)) st = .ok (.v (.bl false)) st := rfl
theorem kTy_bl_ (ds : List D) : kTy .bool (.v (.lst ds)) st = .ok (.v (.bl false)) st := rfl
theorem kTy_bs (x : Str) : kTy .bool (.v (.str x)) st = .ok (.v (.bl false)) st := rfl
theorem kTy_ss (x : Str) : kTy .str (.v (.str x)) st = .ok (.v (.bl true)) st := rfl
theorem kTy_si (i : Int) : kTy .str (.v (.int i)) st = .ok (.v (.bl false)) st := rfl
theorem kTy_sn : kTy .str (.v .non) st = .ok (.v (.bl false)) st := rfl
theorem kTy_st_ (ds : List D) : kTy .str (.v (.tup ds)) st = .ok (.v (.bl false)) st := rfl
theorem kTy_sl_ (ds : List D) : kTy .str (.v (.lst ds)) st = .ok (.v (.bl false)) st := rfl
theorem kTy_sb (b : Bool) : kTy .str (.v (.bl b)) st = .ok (.v (.bl false)) st := rfl
theorem w_isi (k : Ty) (e : T) : evE Δ (.isi k e) ρ st = (evE Δ e ρ st).bind (kTy k) := evE_isi ..
def kBm (m : BM) (es : T) (x : W) (st : Store) : Res W := if bmOk m x.d st then (evEs Δ es ρ st).bind fun ds st => opBM m x.d ds st else .stuck
theorem kBm_ (m : BM) (es : T) (x : W) (h : bmOk m x.d st = true) : kBm Δ ρ m es x st = (evEs Δ es ρ st).bind (opBM m x.d) := if_pos h
theorem w_bm (m : BM) (o es : T) : evE Δ (.bm m o es) ρ st = (evE Δ o ρ st).bind (kBm Δ ρ m es) := evE_bm ..
def kIx2 (x y : W) (st : Store) : Res W := opIx x.d y.d st
theorem kIx2_ (x y : W) : kIx2 x y st = opIx x.d y.d st := rfl
def kIx (i : T) (x : W) (st : Store) : Res W := (evE Δ i ρ st).bind (kIx2 x)
theorem kIx_ (i : T) (x : W) : kIx Δ ρ i x st = (evE Δ i ρ st).bind (kIx2 x) := rfl
theorem w_idx (a i : T) : evE Δ (.idx a i) ρ st = (evE Δ a ρ st).bind (kIx Δ ρ i) := evE_idx ..
def kSl3 (x : W) (l h : Option Int) (st : Store) : Res W := opSl x.d l h st
theorem kSl3_ (x : W) (l h : Option Int) : kSl3 x l h st = opSl x.d l h st := rfl
def kSl2 (hi : T) (x : W) (l : Option Int) (st : Store) : Res W := (evP Δ hi ρ st).bind (kSl3 x l)
theorem kSl2_ (hi : T) (x : W) (l : Option Int) : kSl2 Δ ρ hi x l st = (evP Δ hi ρ st).bind (kSl3 x l) := rfl
def kSl (lo hi : T) (x : W) (st : Store) : Res W := (evP Δ lo ρ st).bind (kSl2 Δ ρ hi x)
theorem kSl_ (lo hi : T) (x : W) : kSl Δ ρ lo hi x st = (evP Δ lo ρ st).bind (kSl2 Δ ρ hi x) := rfl
theorem w_sl (a lo hi : T) : evE Δ (.sl a lo hi) ρ st = (evE Δ a ρ st).bind (kSl Δ ρ lo hi) := evE_sl ..
def kFld (f : Nat) (x : W) (st : Store) : Res W := match getF Δ.flds st x.d f with
  | some d => .ok (.v d) st
  | none => .stuck
theorem kFld_ (f : Nat) (x : W) (d : D) (h : getF Δ.flds st x.d f = some d) : kFld Δ f x st = .ok (.v d) st := by unfold kFld; rw [h]
theorem w_fld (f : Nat) (o : T) : evE Δ (.fld f o) ρ st = (evE Δ o ρ st).bind (kFld Δ f) := evE_fld ..
def kSome (w : W) (st : Store) : Res (Option D) := .ok (some w.d) st
theorem kSome_ (w : W) : kSome w st = .ok (some w.d) st := rfl
def kLc2 (el : T) (k : Bool) (st : Store) : Res (Option D) := if k = true then (evE Δ el ρ st).bind kSome else .ok none st
theorem kLc2_t (el : T) : kLc2 Δ ρ el true st = (evE Δ el ρ st).bind kSome := rfl
theorem kLc2_f (el : T) : kLc2 Δ ρ el false st = .ok none st := rfl
def lcS (tg : T) (own : List Nat) (cd el : T) (d : D) (st : Store) : Res (Option D) := match tgt tg d (ρ.wipe own) with
  | none => .stuck
  | some ρ' => (evT Δ cd ρ' st).bind (kLc2 Δ ρ' el)
theorem lcS_N (i : Nat) (own : List Nat) (cd el : T) (d : D) : lcS Δ ρ (.tgN i) own cd el d st = (evT Δ cd ((ρ.wipe own).put i d) st).bind (kLc2 Δ ((ρ.wipe own).put i d) el) := rfl
theorem lcS_T (is : List Nat) (own : List Nat) (cd el : T) (ds : List D) (h : ds.length = is.length) : lcS Δ ρ (.tgT is) own cd el (.tup ds) st = (evT Δ cd ((ρ.wipe own).puts is ds) st).bind (kLc2 Δ ((ρ.wipe own).puts is ds) el) := by
  unfold lcS tgt; dsimp only; rw [if_pos h]
def lcqS (tg : T) (own : List Nat) (cd el : T) (d : D) (st : Store) : Res (Option D) := noX (lcS Δ ρ tg own cd el d st)
def kFr (ds : List D) (st : Store) : Res W := .ok (.fr ds) st
theorem kFr_ (ds : List D) : kFr ds st = .ok (.fr ds) st := rfl
def kLc (f : D → Store → Res (Option D)) (ds : List D) (st : Store) : Res W := if ds.length ≤ big then (lcM f ds st).bind kFr else .stuck
theorem kLc_ (f : D → Store → Res (Option D)) (ds : List D) (h : ds.length ≤ 16777216) : kLc f ds st = (lcM f ds st).bind kFr := if_pos h
theorem w_lc (own : List Nat) (tg it cd el : T) : evE Δ (.lc own tg it cd el) ρ st = (evI Δ it ρ st).bind (kLc (lcS Δ ρ tg own cd el)) := evE_lc ..
theorem w_lcq (own : List Nat) (tg it cd el : T) : evE Δ (.lcq own tg it cd el) ρ st = (evI Δ it ρ st).bind (kLc (lcqS Δ ρ tg own cd el)) := by
  rw [evE_lcq]; congr 1; funext ds st; unfold kLc; congr 3; funext d st; unfold lcqS lcS
  cases tgt tg d (ρ.wipe own) <;> rfl
def kLG (n : Nat) (f : D → Store → Res (Option D)) (ds : List D) (st : Store) : Res W := (lcG (gdL n ds) f ds st).bind kFr
theorem w_lcL (own : List Nat) (tg : T) (i n : Nat) (cd el : T) (ds : List D) (h : listAt (ρ.get i) st = some (n, ds)) (hl : ds.length ≤ 16777216) : evE Δ (.lcL own tg i cd el) ρ st = (lcG (gdL n ds) (lcqS Δ ρ tg own cd el) ds st).bind kFr := by
  rw [evE_lcL, h]; dsimp only; rw [if_pos hl]
  show _ = (lcG (gdL n ds) (lcqS Δ ρ tg own cd el) ds st).bind kFr
  congr 2
  funext d st; unfold lcqS lcS; cases tgt tg d (ρ.wipe own) <;> rfl
def allR (w : W) (st : Store) : Res W := match w with
  | .fr ds => .ok (.v (.ref st.length)) (st ++ [.lst ds])
  | _ => .stuck
theorem allR_ (ds : List D) : allR (.fr ds) st = .ok (.v (.ref st.length)) (st ++ [.lst ds]) := rfl
theorem w_alloc (e : T) : evE Δ (.alloc e) ρ st = (evE Δ e ρ st).bind allR := evE_alloc ..
def kDg3 (a y z : W) (st : Store) : Res W := opDget a.d y.d z.d st
theorem kDg3_ (a y z : W) : kDg3 a y z st = opDget a.d y.d z.d st := rfl
def kDg2 (x : T) (a y : W) (st : Store) : Res W := (evE Δ x ρ st).bind (kDg3 a y)
theorem kDg2_ (x : T) (a y : W) : kDg2 Δ ρ x a y st = (evE Δ x ρ st).bind (kDg3 a y) := rfl
def kDg (k x : T) (a : W) (st : Store) : Res W := if (dicD st a.d).isSome then (evE Δ k ρ st).bind (kDg2 Δ ρ x a) else .stuck
theorem kDg_ (k x : T) (a : W) (h : (dicD st a.d).isSome = true) : kDg Δ ρ k x a st = (evE Δ k ρ st).bind (kDg2 Δ ρ x a) := if_pos h
theorem w_dget (o k x : T) : evE Δ (.dget o k x) ρ st = (evE Δ o ρ st).bind (kDg Δ ρ k x) := evE_dget ..
def kDs3 (a y z : W) (st : Store) : Res W := opDset a.d y.d z.d st
theorem kDs3_ (a y z : W) : kDs3 a y z st = opDset a.d y.d z.d st := rfl
def kDs2 (x : T) (a y : W) (st : Store) : Res W := (evE Δ x ρ st).bind (kDs3 a y)
theorem kDs2_ (x : T) (a y : W) : kDs2 Δ ρ x a y st = (evE Δ x ρ st).bind (kDs3 a y) := rfl
def kDs (k x : T) (a : W) (st : Store) : Res W := if (dicD st a.d).isSome then (evE Δ k ρ st).bind (kDs2 Δ ρ x a) else .stuck
theorem kDs_ (k x : T) (a : W) (h : (dicD st a.d).isSome = true) : kDs Δ ρ k x a st = (evE Δ k ρ st).bind (kDs2 Δ ρ x a) := if_pos h
theorem w_dset (o k x : T) : evE Δ (.dset o k x) ρ st = (evE Δ o ρ st).bind (kDs Δ ρ k x) := evE_dset ..
def kCo2 (w : W) (ds : List D) (st : Store) : Res (List D) := .ok (w.d :: ds) st
theorem kCo2_ (w : W) (ds : List D) : kCo2 w ds st = .ok (w.d :: ds) st := rfl
def kCo (t : T) (w : W) (st : Store) : Res (List D) := (evEs Δ t ρ st).bind (kCo2 w)
theorem kCo_ (t : T) (w : W) : kCo Δ ρ t w st = (evEs Δ t ρ st).bind (kCo2 w) := rfl
theorem ws_cons (h t : T) : evEs Δ (.cons h t) ρ st = (evE Δ h ρ st).bind (kCo Δ ρ t) := evEs_cons ..
def kNb (b : Bool) (st : Store) : Res Bool := .ok (!b) st
theorem kNb_ (b : Bool) : kNb b st = .ok (!b) st := rfl
theorem v_not (a : T) : evT Δ (.not a) ρ st = (evT Δ a ρ st).bind kNb := evT_not ..
def kVa (b : T) (k : Bool) (st : Store) : Res Bool := andR k (evT Δ b ρ st) st
theorem kVa_ (b : T) (k : Bool) : kVa Δ ρ b k st = andR k (evT Δ b ρ st) st := rfl
def kVo (b : T) (k : Bool) (st : Store) : Res Bool := orR k (evT Δ b ρ st) st
theorem kVo_ (b : T) (k : Bool) : kVo Δ ρ b k st = orR k (evT Δ b ρ st) st := rfl
theorem v_and (a b : T) : evT Δ (.and a b) ρ st = (evT Δ a ρ st).bind (kVa Δ ρ b) := evT_and ..
theorem v_or (a b : T) : evT Δ (.or a b) ρ st = (evT Δ a ρ st).bind (kVo Δ ρ b) := evT_or ..
def kTru (w : W) (st : Store) : Res Bool := truR w.d st
theorem kTru_ (w : W) : kTru w st = truR w.d st := rfl
theorem v_var (i : Nat) : evT Δ (.var i) ρ st = (evE Δ (.var i) ρ st).bind kTru := evT_truth _ _ rfl _ _
theorem v_int (i : Int) : evT Δ (.int i) ρ st = (evE Δ (.int i) ρ st).bind kTru := evT_truth _ _ rfl _ _
theorem v_cst (i : Nat) : evT Δ (.cst i) ρ st = (evE Δ (.cst i) ρ st).bind kTru := evT_truth _ _ rfl _ _
theorem v_idx (a b : T) : evT Δ (.idx a b) ρ st = (evE Δ (.idx a b) ρ st).bind kTru := evT_truth _ _ rfl _ _
theorem v_sl (a b c : T) : evT Δ (.sl a b c) ρ st = (evE Δ (.sl a b c) ρ st).bind kTru := evT_truth _ _ rfl _ _
theorem v_call (f : Nat) (a : T) : evT Δ (.call f a) ρ st = (evE Δ (.call f a) ρ st).bind kTru := evT_truth _ _ rfl _ _
theorem v_callv (f : Nat) (b a : T) : evT Δ (.callv f b a) ρ st = (evE Δ (.callv f b a) ρ st).bind kTru := evT_truth _ _ rfl _ _
theorem v_meth (c m f : Nat) (o es : T) : evT Δ (.meth c m f o es) ρ st = (evE Δ (.meth c m f o es) ρ st).bind kTru := evT_truth _ _ rfl _ _
theorem v_blt (b : B) (es : T) : evT Δ (.blt b es) ρ st = (evE Δ (.blt b es) ρ st).bind kTru := evT_truth _ _ rfl _ _
theorem v_isi (k : Ty) (e : T) : evT Δ (.isi k e) ρ st = (evE Δ (.isi k e) ρ st).bind kTru := evT_truth _ _ rfl _ _
theorem v_fld (f : Nat) (e : T) : evT Δ (.fld f e) ρ st = (evE Δ (.fld f e) ρ st).bind kTru := evT_truth _ _ rfl _ _
theorem v_bin (o : Operator) (a b : T) : evT Δ (.bin o a b) ρ st = (evE Δ (.bin o a b) ρ st).bind kTru := evT_truth _ _ rfl _ _
theorem v_eisi (c : Nat) : evT Δ (.eisi c) ρ st = (evE Δ (.eisi c) ρ st).bind kTru := evT_truth _ _ rfl _ _
theorem v_ite (c a b : T) : evT Δ (.ite c a b) ρ st = (evE Δ (.ite c a b) ρ st).bind kTru := evT_truth _ _ rfl _ _
theorem v_dget (c a b : T) : evT Δ (.dget c a b) ρ st = (evE Δ (.dget c a b) ρ st).bind kTru := evT_truth _ _ rfl _ _
theorem v_efld (c : Nat) : evT Δ (.efld c) ρ st = (evE Δ (.efld c) ρ st).bind kTru := evT_truth _ _ rfl _ _
theorem v_tup (a : T) : evT Δ (.tup a) ρ st = (evE Δ (.tup a) ρ st).bind kTru := evT_truth _ _ rfl _ _
theorem v_lst (a : T) : evT Δ (.lst a) ρ st = (evE Δ (.lst a) ρ st).bind kTru := evT_truth _ _ rfl _ _
def kInt (w : W) (st : Store) : Res (Option Int) := match w.d with
  | .int i => .ok (some i) st
  | _ => .stuck
theorem kInt_ (i : Int) : kInt (.v (.int i)) st = .ok (some i) st := rfl
theorem p_var (i : Nat) : evP Δ (.var i) ρ st = (evE Δ (.var i) ρ st).bind kInt := evP_some _ _ (by simp) _ _
theorem p_int (i : Int) : evP Δ (.int i) ρ st = (evE Δ (.int i) ρ st).bind kInt := evP_some _ _ (by simp) _ _
theorem p_cst (i : Nat) : evP Δ (.cst i) ρ st = (evE Δ (.cst i) ρ st).bind kInt := evP_some _ _ (by simp) _ _
theorem p_idx (a b : T) : evP Δ (.idx a b) ρ st = (evE Δ (.idx a b) ρ st).bind kInt := evP_some _ _ (by simp) _ _
theorem p_call (f : Nat) (a : T) : evP Δ (.call f a) ρ st = (evE Δ (.call f a) ρ st).bind kInt := evP_some _ _ (by simp) _ _
theorem p_meth (c m f : Nat) (o es : T) : evP Δ (.meth c m f o es) ρ st = (evE Δ (.meth c m f o es) ρ st).bind kInt := evP_some _ _ (by simp) _ _
theorem p_blt (b : B) (es : T) : evP Δ (.blt b es) ρ st = (evE Δ (.blt b es) ρ st).bind kInt := evP_some _ _ (by simp) _ _
theorem p_fld (f : Nat) (e : T) : evP Δ (.fld f e) ρ st = (evE Δ (.fld f e) ρ st).bind kInt := evP_some _ _ (by simp) _ _
theorem p_bin (o : Operator) (a b : T) : evP Δ (.bin o a b) ρ st = (evE Δ (.bin o a b) ρ st).bind kInt := evP_some _ _ (by simp) _ _
theorem p_neg (a : T) : evP Δ (.neg a) ρ st = (evE Δ (.neg a) ρ st).bind kInt := evP_some _ _ (by simp) _ _
theorem p_ite (c a b : T) : evP Δ (.ite c a b) ρ st = (evE Δ (.ite c a b) ρ st).bind kInt := evP_some _ _ (by simp) _ _
def kIt (w : W) (st : Store) : Res (List D) := match w.d with
  | .tup ds => .ok ds st
  | .lst ds => .ok ds st
  | _ => .stuck
theorem kIt_t (ds : List D) : kIt (.v (.tup ds)) st = .ok ds st := rfl
theorem kIt_l (ds : List D) : kIt (.v (.lst ds)) st = .ok ds st := rfl
theorem kIt_f (ds : List D) : kIt (.fr ds) st = .ok ds st := rfl
theorem i_itE (e : T) : evI Δ (.itE e) ρ st = (evE Δ e ρ st).bind kIt := evI_itE ..
def kZi2 (x y : W) (st : Store) : Res (List D) := opZip x.d y.d st
theorem kZi2_ (x y : W) : kZi2 x y st = opZip x.d y.d st := rfl
def kZi (b : T) (x : W) (st : Store) : Res (List D) := (evE Δ b ρ st).bind (kZi2 x)
theorem kZi_ (b : T) (x : W) : kZi Δ ρ b x st = (evE Δ b ρ st).bind (kZi2 x) := rfl
theorem i_itZ (a b : T) : evI Δ (.itZ a b) ρ st = (evE Δ a ρ st).bind (kZi Δ ρ b) := evI_itZ ..
def kR1 (w : W) (st : Store) : Res (List D) := match w.d with
  | .int n => if -(2 ^ 62) ≤ n ∧ n < 2 ^ 62 then .ok (rng 0 n.toNat) st else .stuck
  | _ => .stuck
theorem kR1_ (n : Int) (h : -4611686018427387904 ≤ n ∧ n < 4611686018427387904) : kR1 (.v (.int n)) st = .ok (rng 0 n.toNat) st := if_pos h
theorem i_itR1 (a : T) : evI Δ (.itR1 a) ρ st = (evE Δ a ρ st).bind kR1 := evI_itR1 ..
def kR22 (x y : W) (st : Store) : Res (List D) := match x.d, y.d with
  | .int i, .int j => if -(2 ^ 62) ≤ i ∧ i < 2 ^ 62 ∧ -(2 ^ 62) ≤ j ∧ j < 2 ^ 62 then .ok (rng i (j - i).toNat) st else .stuck
  | _, _ => .stuck
theorem kR22_ (i j : Int) (h : -4611686018427387904 ≤ i ∧ i < 4611686018427387904 ∧ -4611686018427387904 ≤ j ∧ j < 4611686018427387904) : kR22 (.v (.int i)) (.v (.int j)) st = .ok (rng i (j - i).toNat) st := if_pos h
def kR2 (b : T) (x : W) (st : Store) : Res (List D) := (evE Δ b ρ st).bind (kR22 x)
theorem kR2_ (b : T) (x : W) : kR2 Δ ρ b x st = (evE Δ b ρ st).bind (kR22 x) := rfl
theorem i_itR2 (a b : T) : evI Δ (.itR2 a b) ρ st = (evE Δ a ρ st).bind (kR2 Δ ρ b) := evI_itR2 ..
def kR33 (x y z : W) (st : Store) : Res (List D) := match x.d, y.d, z.d with
  | .int i, .int j, .int c => if -(2 ^ 40) ≤ i ∧ i < 2 ^ 40 ∧ -(2 ^ 40) ≤ j ∧ j < 2 ^ 40 ∧ c ≠ 0 ∧ -1000000 ≤ c ∧ c ≤ 1000000 then .ok (rngC i c (turns i j c)) st else .stuck
  | _, _, _ => .stuck
theorem kR33_ (i j c : Int) (h : -1099511627776 ≤ i ∧ i < 1099511627776 ∧ -1099511627776 ≤ j ∧ j < 1099511627776 ∧ c ≠ 0 ∧ -1000000 ≤ c ∧ c ≤ 1000000) : kR33 (.v (.int i)) (.v (.int j)) (.v (.int c)) st = .ok (rngC i c (turns i j c)) st := if_pos h
def kR32 (c : T) (x y : W) (st : Store) : Res (List D) := (evE Δ c ρ st).bind (kR33 x y)
theorem kR32_ (c : T) (x y : W) : kR32 Δ ρ c x y st = (evE Δ c ρ st).bind (kR33 x y) := rfl
def kR3 (b c : T) (x : W) (st : Store) : Res (List D) := (evE Δ b ρ st).bind (kR32 Δ ρ c x)
theorem kR3_ (b c : T) (x : W) : kR3 Δ ρ b c x st = (evE Δ b ρ st).bind (kR32 Δ ρ c x) := rfl
theorem i_itR3 (a b c : T) : evI Δ (.itR3 a b c) ρ st = (evE Δ a ρ st).bind (kR3 Δ ρ b c) := evI_itR3 ..
variable (t : T)
def kSet (i : Nat) (w : W) (st : Store) : Out := exSs Δ t (ρ.put i w.d) st
theorem kSet_ (i : Nat) (w : W) : kSet Δ ρ t i w st = exSs Δ t (ρ.put i w.d) st := rfl
theorem z_set (i : Nat) (e : T) : exSs Δ (.cons (.set i e) t) ρ st = stp (evE Δ e ρ st) ρ (kSet Δ ρ t i) := ss_set ..
def kPar (is : List Nat) (ds : List D) (st : Store) : Out := if ds.length = is.length then exSs Δ t (ρ.puts is ds) st else .stuck
theorem kPar_ (is : List Nat) (ds : List D) (h : ds.length = is.length) : kPar Δ ρ t is ds st = exSs Δ t (ρ.puts is ds) st := if_pos h
theorem z_par (is : List Nat) (es : T) : exSs Δ (.cons (.par is es) t) ρ st = stp (evEs Δ es ρ st) ρ (kPar Δ ρ t is) := ss_par ..
def kUnp (is : List Nat) (w : W) (st : Store) : Out := match tgt (.tgT is) w.d ρ with
  | some ρ => exSs Δ t ρ st
  | none => .stuck
theorem kUnp_ (is : List Nat) (ds : List D) (h : ds.length = is.length) : kUnp Δ ρ t is (.v (.tup ds)) st = exSs Δ t (ρ.puts is ds) st := by
  unfold kUnp tgt; dsimp only [W.d_v]; rw [if_pos h]
theorem z_unp (is : List Nat) (e : T) : exSs Δ (.cons (.unp is e) t) ρ st = stp (evE Δ e ρ st) ρ (kUnp Δ ρ t is) := ss_unp ..
def kNx {α : Type} (_ : α) (st : Store) : Out := exSs Δ t ρ st
theorem kNx_ {α : Type} (a : α) : kNx Δ ρ t a st = exSs Δ t ρ st := rfl
def kFs2 (f : Nat) (y x : W) (st : Store) : Res Unit := setF Δ.flds x.d f y.d st
theorem kFs2_ (f : Nat) (y x : W) : kFs2 Δ f y x st = setF Δ.flds x.d f y.d st := rfl
def kFs (f : Nat) (o : T) (y : W) (st : Store) : Res Unit := (evE Δ o ρ st).bind (kFs2 Δ f y)
theorem kFs_ (f : Nat) (o : T) (y : W) : kFs Δ ρ f o y st = (evE Δ o ρ st).bind (kFs2 Δ f y) := rfl
theorem z_fset (f : Nat) (o e : T) : exSs Δ (.cons (.fset f o e) t) ρ st = stp ((evE Δ e ρ st).bind (kFs Δ ρ f o)) ρ (kNx Δ ρ t) := ss_fset ..
def kUF4 (k : Nat) (b : D) (u : W) (st : Store) : Res Unit := setF Δ.flds u.d k b st
theorem kUF4_ (k : Nat) (b : D) (u : W) : kUF4 Δ k b u st = setF Δ.flds u.d k b st := rfl
def kUF3 (k : Nat) (x : T) (b : D) (_ : Unit) (st : Store) : Res Unit := (evE Δ x ρ st).bind (kUF4 Δ k b)
theorem kUF3_ (k : Nat) (x : T) (b : D) (u : Unit) : kUF3 Δ ρ k x b u st = (evE Δ x ρ st).bind (kUF4 Δ k b) := rfl
def kUF2 (f k : Nat) (x : T) (a b : D) (u : W) (st : Store) : Res Unit := (setF Δ.flds u.d f a st).bind (kUF3 Δ ρ k x b)
theorem kUF2_ (f k : Nat) (x : T) (a b : D) (u : W) : kUF2 Δ ρ f k x a b u st = (setF Δ.flds u.d f a st).bind (kUF3 Δ ρ k x b) := rfl
def kUF (f k : Nat) (o x : T) (w : W) (st : Store) : Res Unit := pairF w.d fun a b => (evE Δ o ρ st).bind (kUF2 Δ ρ f k x a b)
theorem kUF_ (f k : Nat) (o x : T) (a b : D) : kUF Δ ρ f k o x (.v (.tup [a, b])) st = (evE Δ o ρ st).bind (kUF2 Δ ρ f k x a b) := rfl
theorem z_unpF (f k : Nat) (o x e : T) : exSs Δ (.cons (.unpF f k o x e) t) ρ st = stp ((evE Δ e ρ st).bind (kUF Δ ρ f k o x)) ρ (kNx Δ ρ t) := ss_unpF ..
def kIs3 (y x z : W) (st : Store) : Res Unit := opSet x.d z.d y.d st
theorem kIs3_ (y x z : W) : kIs3 y x z st = opSet x.d z.d y.d st := rfl
def kIs2 (i : T) (y x : W) (st : Store) : Res Unit := (evE Δ i ρ st).bind (kIs3 y x)
theorem kIs2_ (i : T) (y x : W) : kIs2 Δ ρ i y x st = (evE Δ i ρ st).bind (kIs3 y x) := rfl
def kIs (o i : T) (y : W) (st : Store) : Res Unit := (evE Δ o ρ st).bind (kIs2 Δ ρ i y)
theorem kIs_ (o i : T) (y : W) : kIs Δ ρ o i y st = (evE Δ o ρ st).bind (kIs2 Δ ρ i y) := rfl
theorem z_iset (o i e : T) : exSs Δ (.cons (.iset o i e) t) ρ st = stp ((evE Δ e ρ st).bind (kIs Δ ρ o i)) ρ (kNx Δ ρ t) := ss_iset ..
def kDp3 (y x z : W) (st : Store) : Res Unit := opDput x.d z.d y.d st
theorem kDp3_ (y x z : W) : kDp3 y x z st = opDput x.d z.d y.d st := rfl
def kDp2 (i : T) (y x : W) (st : Store) : Res Unit := (evE Δ i ρ st).bind (kDp3 y x)
theorem kDp2_ (i : T) (y x : W) : kDp2 Δ ρ i y x st = (evE Δ i ρ st).bind (kDp3 y x) := rfl
def kDp (o i : T) (y : W) (st : Store) : Res Unit := (evE Δ o ρ st).bind (kDp2 Δ ρ i y)
theorem kDp_ (o i : T) (y : W) : kDp Δ ρ o i y st = (evE Δ o ρ st).bind (kDp2 Δ ρ i y) := rfl
theorem z_dput (o i e : T) : exSs Δ (.cons (.dput o i e) t) ρ st = stp ((evE Δ e ρ st).bind (kDp Δ ρ o i)) ρ (kNx Δ ρ t) := ss_dput ..
def kIa5 (x z : W) (u : D) (st : Store) : Res Unit := opSet x.d z.d u st
theorem kIa5_ (x z : W) (u : D) : kIa5 x z u st = opSet x.d z.d u st := rfl
def kIa4 (o : Operator) (x z : W) (v : D) (y : W) (st : Store) : Res Unit := (opAug o v y.d st).bind (kIa5 x z)
theorem kIa4_ (o : Operator) (x z : W) (v : D) (y : W) : kIa4 o x z v y st = (opAug o v y.d st).bind (kIa5 x z) := rfl
def kIa3 (o : Operator) (e : T) (x z : W) (v : D) (st : Store) : Res Unit := (evE Δ e ρ st).bind (kIa4 o x z v)
theorem kIa3_ (o : Operator) (e : T) (x z : W) (v : D) : kIa3 Δ ρ o e x z v st = (evE Δ e ρ st).bind (kIa4 o x z v) := rfl
def kIa2 (o : Operator) (e : T) (x z : W) (st : Store) : Res Unit := (opAt x.d z.d st).bind (kIa3 Δ ρ o e x z)
theorem kIa2_ (o : Operator) (e : T) (x z : W) : kIa2 Δ ρ o e x z st = (opAt x.d z.d st).bind (kIa3 Δ ρ o e x z) := rfl
def kIa (o : Operator) (i e : T) (x : W) (st : Store) : Res Unit := (evE Δ i ρ st).bind (kIa2 Δ ρ o e x)
theorem kIa_ (o : Operator) (i e : T) (x : W) : kIa Δ ρ o i e x st = (evE Δ i ρ st).bind (kIa2 Δ ρ o e x) := rfl
theorem z_iaug (o : Operator) (a i e : T) : exSs Δ (.cons (.iaug o a i e) t) ρ st = stp ((evE Δ a ρ st).bind (kIa Δ ρ o i e)) ρ (kNx Δ ρ t) := ss_iaug ..
def kAu2 (o : Operator) (x : D) (y : W) (st : Store) : Res D := opAug o x y.d st
theorem kAu2_ (o : Operator) (x : D) (y : W) : kAu2 o x y st = opAug o x y.d st := rfl
def kAu3 (i : Nat) (z : D) (st : Store) : Out := exSs Δ t (ρ.put i z) st
theorem kAu3_ (i : Nat) (z : D) : kAu3 Δ ρ t i z st = exSs Δ t (ρ.put i z) st := rfl
def kAu (o : Operator) (i : Nat) (e : T) (st : Store) (d : Option D) : Out := match d with
  | some x => stp ((evE Δ e ρ st).bind (kAu2 o x)) ρ (kAu3 Δ ρ t i)
  | none => .stuck
theorem kAu_ (o : Operator) (i : Nat) (e : T) (x : D) : kAu Δ ρ t o i e st (some x) = stp ((evE Δ e ρ st).bind (kAu2 o x)) ρ (kAu3 Δ ρ t i) := rfl
theorem z_aug (o : Operator) (i : Nat) (e : T) : exSs Δ (.cons (.aug o i e) t) ρ st = kAu Δ ρ t o i e st (ρ.get i) := ss_aug ..
def kFa3 (f : Nat) (x : W) (c : Option Nat) (z : D) (st : Store) : Res Unit := if c = clsId st x.d then setF Δ.flds x.d f z st else .stuck
theorem kFa3_ (f : Nat) (x : W) (c : Option Nat) (z : D) (h : c = clsId st x.d) : kFa3 Δ f x c z st = setF Δ.flds x.d f z st := if_pos h
def kFa2 (o : Operator) (f : Nat) (x : W) (v : D) (c : Option Nat) (y : W) (st : Store) : Res Unit := (opAug o v y.d st).bind (kFa3 Δ f x c)
theorem kFa2_ (o : Operator) (f : Nat) (x : W) (v : D) (c : Option Nat) (y : W) : kFa2 Δ o f x v c y st = (opAug o v y.d st).bind (kFa3 Δ f x c) := rfl
def kFa (o : Operator) (f : Nat) (e : T) (x : W) (st : Store) : Res Unit := match getF Δ.flds st x.d f with
  | some v => (evE Δ e ρ st).bind (kFa2 Δ o f x v (clsId st x.d))
  | none => .stuck
theorem kFa_ (o : Operator) (f : Nat) (e : T) (x : W) (v : D) (h : getF Δ.flds st x.d f = some v) : kFa Δ ρ o f e x st = (evE Δ e ρ st).bind (kFa2 Δ o f x v (clsId st x.d)) := by unfold kFa; rw [h]
theorem z_faug (o : Operator) (f : Nat) (x e : T) : exSs Δ (.cons (.faug o f x e) t) ρ st = stp ((evE Δ x ρ st).bind (kFa Δ ρ o f e)) ρ (kNx Δ ρ t) := ss_faug ..
theorem z_ex (e : T) : exSs Δ (.cons (.ex e) t) ρ st = stp (evE Δ e ρ st) ρ (kNx Δ ρ t) := ss_ex ..
theorem z_ret (e : T) : exSs Δ (.cons (.ret e) t) ρ st = stp (evE Δ e ρ st) ρ Out.ret := ss_ret ..
def kIf (a b : T) (k : Bool) (st : Store) : Out := if k = true then exSs Δ a ρ st else exSs Δ b ρ st
theorem kIf_t (a b : T) : kIf Δ ρ a b true st = exSs Δ a ρ st := rfl
theorem kIf_f (a b : T) : kIf Δ ρ a b false st = exSs Δ b ρ st := rfl
theorem z_if (c a b : T) : exSs Δ (.cons (.if_ c a b) t) ρ st = seqO (stp (evT Δ c ρ st) ρ (kIf Δ ρ a b)) (exSs Δ t) := by
  rw [ss_if]; cases evT Δ c ρ st with
  | ok k st => cases k <;> rfl
  | _ => rfl
def kFor (tg b : T) (ds : List D) (st : Store) : Out := seqO (forM (stepL Δ tg b) ds ρ st) (exSs Δ t)
theorem kFor_ (tg b : T) (ds : List D) : kFor Δ ρ t tg b ds st = seqO (forM (stepL Δ tg b) ds ρ st) (exSs Δ t) := rfl
theorem z_for (tg it b : T) : exSs Δ (.cons (.for_ tg it b) t) ρ st = stp (evI Δ it ρ st) ρ (kFor Δ ρ t tg b) := ss_for ..
theorem z_forL (tg : T) (i n : Nat) (b : T) (ds : List D) (h : listAt (ρ.get i) st = some (n, ds)) : exSs Δ (.cons (.forL tg i b) t) ρ st = seqO (forG (gdL n ds) (stepL Δ tg b) ds ρ st) (exSs Δ t) := by
  rw [exSs_cons _ _ _ rfl, exS_forL, h]
  show (match forG (gdL n ds) (stepL Δ tg b) ds ρ st with | .nx ρ st => exSs Δ t ρ st | o => o) = _
  unfold seqO; cases forG (gdL n ds) (stepL Δ tg b) ds ρ st <;> rfl
theorem z_wh (c b : T) : exSs Δ (.cons (.wh c b) t) ρ st = seqO (whl (evT Δ c) (exSs Δ b) ρ st) (exSs Δ t) := ss_wh ..
def kRa (c : Nat) (ds : List D) (st : Store) : Out := if ds.length = (Δ.exf c).length then .exc c ((Δ.exf c).zip ds) ρ st else .stuck
theorem kRa_ (c : Nat) (ds : List D) (is : List Nat) (h : Δ.exf c = is) (h2 : ds.length = is.length) : kRa Δ ρ c ds st = .exc c (is.zip ds) ρ st := by unfold kRa; rw [h]; exact if_pos h2
theorem z_rais (c : Nat) (es : T) : exSs Δ (.cons (.rais c es) t) ρ st = stp (evEs Δ es ρ st) ρ (kRa Δ ρ c) := ss_rais ..
def tryO (o : Out) (h : Nat → List (Nat × D) → Lc → Store → Out) : Out := match o with
  | .exc c fs ρ st => h c fs ρ st
  | o => o
theorem tryO_exc (c : Nat) (fs : List (Nat × D)) (h : Nat → List (Nat × D) → Lc → Store → Out) : tryO (.exc c fs ρ st) h = h c fs ρ st := rfl
theorem tryO_nx (h : Nat → List (Nat × D) → Lc → Store → Out) : tryO (.nx ρ st) h = .nx ρ st := rfl
theorem tryO_ret (w : W) (h : Nat → List (Nat × D) → Lc → Store → Out) : tryO (.ret w st) h = .ret w st := rfl
def satH (P : Post) (h : Nat → List (Nat × D) → Lc → Store → Out) (c : Nat) (fs : List (Nat × D)) (ρ : Lc) (st : Store) : Prop := (h c fs ρ st).sat P
theorem satH_ (P : Post) (h : Nat → List (Nat × D) → Lc → Store → Out) (c : Nat) (fs : List (Nat × D)) : satH P h c fs ρ st = (h c fs ρ st).sat P := rfl
theorem osat_try {P : Post} (o : Out) (h : Nat → List (Nat × D) → Lc → Store → Out) : (tryO o h).sat P = o.sat ⟨P.nx, P.ret, P.bk, satH P h⟩ := by cases o <;> rfl
theorem z_try (b hs : T) : exSs Δ (.cons (.try_ b hs) t) ρ st = seqO (tryO (exSs Δ b ρ st) (exH Δ hs)) (exSs Δ t) := by
  rw [ss_try]; rfl
end
/-! ways to go on when a choice is open -/
section
variable {Δ : Dl} {ρ : Lc} {st : Store} {Q : W → Store → Prop} {X : Nat → List (Nat × D) → Store → Prop} {P : Post} {k : Bool}
theorem if_sat {a b : T} (h : k = true → (exSs Δ a ρ st).sat P) (h2 : k = false → (exSs Δ b ρ st).sat P) : (kIf Δ ρ a b k st).sat P := by cases k; exact h2 rfl; exact h rfl
theorem ite_sat {a b : T} (h : k = true → (evE Δ a ρ st).sat Q X) (h2 : k = false → (evE Δ b ρ st).sat Q X) : (kIte Δ ρ a b k st).sat Q X := by cases k; exact h2 rfl; exact h rfl
theorem and_sat {b : T} {w : W} (h : k = true → (evE Δ b ρ st).sat Q X) (h2 : k = false → Q (.v w.d) st) : (kAnd2 Δ ρ b w k st).sat Q X := by cases k; exact h2 rfl; exact h rfl
theorem or_sat {b : T} {w : W} (h : k = false → (evE Δ b ρ st).sat Q X) (h2 : k = true → Q (.v w.d) st) : (kOr2 Δ ρ b w k st).sat Q X := by cases k; exact h rfl; exact h2 rfl
theorem noX_sat {α : Type} {Q : α → Store → Prop} (r : Res α) (h : r.sat Q noE) : (noX r).sat Q X := by cases r <;> first | exact h | exact h.elim
end
/-! loops -/
section
variable {P : Post} {step : D → Lc → Store → Out} {ρ : Lc} {st : Store}
theorem for_sat (I : Nat → Lc → Store → Prop) : ∀ {ds : List D} {ρ : Lc} {st : Store} {k : Nat}, I k ρ st → (∀ j d ρ st, ds[j]? = some d → I (k + j) ρ st → (step d ρ st).sat ⟨I (k + j + 1), P.ret, P.nx, P.exc⟩) → (∀ ρ st, I (k + ds.length) ρ st → P.nx ρ st) → (forM step ds ρ st).sat P
  | [], ρ, st, k, h0, _, h2 => h2 _ _ h0
  | d :: ds, ρ, st, k, h0, h1, h2 => by
    have a := h1 0 d ρ st rfl h0
    unfold forM
    cases e : step d ρ st with
    | nx ρ' st' =>
      rw [e] at a
      refine for_sat I (k := k + 1) a (fun j d ρ st hd hI => ?_) (fun ρ st hI => h2 ρ st ?_)
      · have := h1 (j + 1) d ρ st (by simpa using hd) (by rw [show k + (j + 1) = k + 1 + j by omega]; exact hI)
        rwa [show k + (j + 1) + 1 = k + 1 + j + 1 by omega] at this
      · rw [List.length_cons, show k + (ds.length + 1) = k + 1 + ds.length by omega]; exact hI
    | bk ρ' st' => rw [e] at a; exact a
    | ret w st' => rw [e] at a; exact a
    | exc c fs ρ' st' => rw [e] at a; exact a
    | stuck => rw [e] at a; exact a.elim
/-- .. the invariant begins at 0 -/
theorem for0 {ds : List D} (I : Nat → Lc → Store → Prop) (h0 : I 0 ρ st) (h1 : ∀ j d ρ st, ds[j]? = some d → I j ρ st → (step d ρ st).sat ⟨I (j + 1), P.ret, P.nx, P.exc⟩) (h2 : ∀ ρ st, I ds.length ρ st → P.nx ρ st) : (forM step ds ρ st).sat P :=
  for_sat I (k := 0) h0 (fun j d ρ st hd hI => by rw [Nat.zero_add] at hI ⊢; exact h1 j d ρ st hd hI) (fun ρ st hI => h2 ρ st (by rw [Nat.zero_add] at hI; exact hI))
/-- a loop that looks at what is left -/
theorem forL_sat (I : List D → Lc → Store → Prop) : ∀ {ds : List D} {ρ : Lc} {st : Store}, I ds ρ st → (∀ d ds ρ st, I (d :: ds) ρ st → (step d ρ st).sat ⟨I ds, P.ret, P.nx, P.exc⟩) → (∀ ρ st, I [] ρ st → P.nx ρ st) → (forM step ds ρ st).sat P
  | [], ρ, st, h0, _, h2 => h2 _ _ h0
  | d :: ds, ρ, st, h0, h1, h2 => by
    have a := h1 d ds ρ st h0
    unfold forM
    cases e : step d ρ st with
    | nx ρ' st' => rw [e] at a; exact forL_sat I a h1 h2
    | bk ρ' st' => rw [e] at a; exact a
    | ret w st' => rw [e] at a; exact a
    | exc c fs ρ' st' => rw [e] at a; exact a
    | stuck => rw [e] at a; exact a.elim
/-- a range -/
theorem forR (I : Nat → Lc → Store → Prop) {n : Nat} {lo : Int} (h0 : I 0 ρ st) (h1 : ∀ j ρ st, j < n → I j ρ st → (step (.int (lo + (j : Nat))) ρ st).sat ⟨I (j + 1), P.ret, P.nx, P.exc⟩) (h2 : ∀ ρ st, I n ρ st → P.nx ρ st) : (forM step (rng lo n) ρ st).sat P := by
  have hl : ∀ (n : Nat) (lo : Int), (rng lo n).length = n := fun n => by
    induction n with
    | zero => intro lo; rfl
    | succ n ih => intro lo; rw [rng, List.length_cons, ih]
  have hm : ∀ (n : Nat) (lo : Int) (j : Nat) (d : D), (rng lo n)[j]? = some d → d = .int (lo + (j : Nat)) ∧ j < n := fun n => by
    induction n with
    | zero => intro lo j d h; simp [rng] at h
    | succ n ih =>
      intro lo j d h
      cases j with
      | zero => simp [rng] at h; exact ⟨by rw [← h]; simp, by omega⟩
      | succ j =>
        rw [rng, List.getElem?_cons_succ] at h
        obtain ⟨a, b⟩ := ih _ _ _ h
        refine ⟨?_, by omega⟩
        rw [a]; congr 1; omega
  refine for0 I h0 (fun j d ρ st hd hI => ?_) (fun ρ st hI => h2 ρ st (by rw [hl] at hI; exact hI))
  obtain ⟨rfl, hj⟩ := hm _ _ _ _ hd
  exact h1 j ρ st hj hI
/-- while: the measure goes down -/
theorem while_sat {c : Lc → Store → Res Bool} {b : Lc → Store → Out} (I : Nat → Lc → Store → Prop) : ∀ (n : Nat) {ρ : Lc} {st : Store}, I n ρ st → (∀ n ρ st, I n ρ st → (c ρ st).sat (fun k st' => if k = true then (b ρ st').sat ⟨fun ρ st => ∃ m, m < n ∧ I m ρ st, P.ret, P.nx, P.exc⟩ else P.nx ρ st') (fun c fs st => P.exc c fs ρ st)) → (whl c b ρ st).sat P := by
  intro n
  induction n using Nat.strongRecOn with
  | ind n ih =>
    intro ρ st h0 h1
    have a := h1 n ρ st h0
    rw [whl_unfold]
    cases e : c ρ st with
    | stuck => rw [e] at a; exact a.elim
    | exc c fs st' => rw [e] at a; exact a
    | ok k st' =>
      rw [e] at a
      cases k with
      | false => exact a
      | true =>
        dsimp only
        rw [sat_ok, if_pos rfl] at a
        cases e2 : b ρ st' with
        | nx ρ' st'' => rw [e2] at a; obtain ⟨m, hm, hI⟩ := a; exact ih m hm hI h1
        | bk ρ' st'' => rw [e2] at a; exact a
        | ret w st'' => rw [e2] at a; exact a
        | exc c fs ρ' st'' => rw [e2] at a; exact a
        | stuck => rw [e2] at a; exact a.elim
/-- a comprehension -/
theorem lcM_sat {f : D → Store → Res (Option D)} {Q : List D → Store → Prop} {X} (I : Nat → List D → Store → Prop) : ∀ {ds out : List D} {st : Store} {k : Nat}, I k out st → (∀ j d out st, ds[j]? = some d → I (k + j) out st → (f d st).sat (fun o st => I (k + j + 1) (out ++ o.toList) st) X) → (∀ out' st, I (k + ds.length) (out ++ out') st → Q out' st) → (lcM f ds st).sat Q X
  | [], out, st, k, h0, _, h2 => h2 [] st (by rw [List.append_nil]; exact h0)
  | d :: ds, out, st, k, h0, h1, h2 => by
    have a := h1 0 d out st rfl h0
    unfold lcM
    rw [sat_bind]
    refine sat_imp a (fun r st' h => ?_) (fun _ _ _ h => h)
    show ((lcM f ds st').bind _).sat Q X
    rw [sat_bind]
    refine lcM_sat I (k := k + 1) (out := out ++ r.toList) h (fun j d out st hd hI => ?_) (fun out' st hI => ?_)
    · have := h1 (j + 1) d out st (by simpa using hd) (by rw [show k + (j + 1) = k + 1 + j by omega]; exact hI)
      rwa [show k + (j + 1) + 1 = k + 1 + j + 1 by omega] at this
    · rw [show k + 1 + ds.length = k + (d :: ds).length by rw [List.length_cons]; omega, List.append_assoc] at hI
      cases r with
      | none => exact h2 _ _ hI
      | some x => exact h2 _ _ hI
theorem lc0 {f : D → Store → Res (Option D)} {ds : List D} {st : Store} {Q : List D → Store → Prop} {X} (I : Nat → List D → Store → Prop) (h0 : I 0 [] st) (h1 : ∀ j d out st, ds[j]? = some d → I j out st → (f d st).sat (fun o st => I (j + 1) (out ++ o.toList) st) X) (h2 : ∀ out st, I ds.length out st → Q out st) : (lcM f ds st).sat Q X :=
  lcM_sat I (k := 0) (out := []) h0 (fun j d out st hd hI => by rw [Nat.zero_add] at hI ⊢; exact h1 j d out st hd hI) (fun out st hI => h2 out st (by rw [Nat.zero_add] at hI; exact hI))
/-- .. that keeps the store, item by item -/
theorem lc_map {α : Type} {f : D → Store → Res (Option D)} {Q : List D → Store → Prop} {X} (g h : α → D) (l : List α) (h1 : ∀ a ∈ l, (f (g a) st).sat (fun o s => o = some (h a) ∧ s = st) X) (h2 : Q (l.map h) st) : (lcM f (l.map g) st).sat Q X := by
  refine lc0 (fun j out s => s = st ∧ out = (l.take j).map h) ⟨rfl, rfl⟩ (fun j d out s hd hI => ?_) (fun out s hI => ?_)
  · obtain ⟨rfl, rfl⟩ := hI
    rw [List.getElem?_map] at hd
    cases e : l[j]? with
    | none => rw [e] at hd; cases hd
    | some a =>
      rw [e] at hd; cases hd
      refine sat_imp (h1 a (List.mem_of_getElem? e)) (fun o s h => ?_) (fun _ _ _ h => h)
      obtain ⟨rfl, rfl⟩ := h
      refine ⟨rfl, ?_⟩
      rw [List.take_add_one, e]; simp
  · obtain ⟨rfl, rfl⟩ := hI
    rw [List.length_map, List.take_of_length_le (Nat.le_refl _)]; exact h2
end
/-! defs -/
section
variable {Q : W → Store → Prop} {X : Nat → List (Nat × D) → Store → Prop} {st : Store}
/-- behind a def's body -/
def fin0 (st : Store) (Q : W → Store → Prop) (X : Nat → List (Nat × D) → Store → Prop) (_ : Lc) (st' : Store) : Prop := (finish st (.v .non) st').sat Q X
def finR (st : Store) (Q : W → Store → Prop) (X : Nat → List (Nat × D) → Store → Prop) (w : W) (st' : Store) : Prop := (finish st w st').sat Q X
def finX (X : Nat → List (Nat × D) → Store → Prop) (c : Nat) (fs : List (Nat × D)) (_ : Lc) (st : Store) : Prop := X c fs st
def finB (_ : Lc) (_ : Store) : Prop := False
theorem fin0_eq (st : Store) (Q X) (ρ : Lc) (st' : Store) : fin0 st Q X ρ st' = (finish st (.v .non) st').sat Q X := rfl
theorem finR_eq (st : Store) (Q X) (w : W) (st' : Store) : finR st Q X w st' = (finish st w st').sat Q X := rfl
theorem finX_eq (X : Nat → List (Nat × D) → Store → Prop) (c : Nat) (fs : List (Nat × D)) (ρ : Lc) (st : Store) : finX X c fs ρ st = X c fs st := rfl
theorem run_sat (Δ : Dl) (fn : Fn) (args : List D) (h : args.length = fn.np) (h1 : (exSs Δ fn.body (args.map some ++ List.replicate (fn.ns - fn.np) none) st).sat ⟨fin0 st Q X, finR st Q X, finB, finX X⟩) : (runFn Δ fn args st).sat Q X := by
  rw [runFn_eq _ _ _ _ h]
  cases e : exSs Δ fn.body (args.map some ++ List.replicate (fn.ns - fn.np) none) st <;> rw [e] at h1 <;> exact h1
theorem fin_same {d : D} (h : isData d = true) (hQ : Q (.v d) st) : (finish st (.v d) st).sat Q X := by
  have hb : ∀ d : D, isData d = true → below st.length d = true := fun d => by
    refine D.rec (motive_1 := fun d => isData d = true → below st.length d = true) (motive_2 := fun ds => isDatas ds = true → belows st.length ds = true) ?_ ?_ ?_ ?_ ?_ ?_ ?_ ?_ ?_ ?_ ?_ d
    all_goals (intros; first | rfl | (simp [isData] at *; done) | skip)
    · rename_i ih h; exact ih h
    · rename_i ih h; exact ih h
    · rename_i ih1 ih2 h
      unfold isDatas at h
      rw [Bool.and_eq_true] at h
      unfold belows
      rw [ih1 h.1, ih2 h.2]; rfl
  rw [finish_same _ _ (fun n e => by subst e; simp [isData] at h) (hb d h)]; exact hQ
theorem below_of (n : Nat) : ∀ d : D, isData d = true → below n d = true := fun d => by
  refine D.rec (motive_1 := fun d => isData d = true → below n d = true) (motive_2 := fun ds => isDatas ds = true → belows n ds = true) ?_ ?_ ?_ ?_ ?_ ?_ ?_ ?_ ?_ ?_ ?_ d
  all_goals (intros; first | rfl | (simp [isData] at *; done) | skip)
  · rename_i ih h; exact ih h
  · rename_i ih h; exact ih h
  · rename_i ih1 ih2 h
    unfold isDatas at h
    rw [Bool.and_eq_true] at h
    unfold belows
    rw [ih1 h.1, ih2 h.2]; rfl
theorem fin_d (st : Store) (d : D) (h : isData d = true) : finish st (.v d) st = .ok (.v d) st := finish_same _ _ (fun n e => by subst e; simp [isData] at h) (below_of _ d h)
/-- what came behind is taken away -/
theorem fin_ap (st os : Store) (d : D) (h : isData d = true) : finish st (.v d) (st ++ os) = .ok (.v d) st := by
  unfold finish
  rw [if_pos ⟨by rw [List.length_append]; omega, fun n o hn e => .inl (by rw [List.getElem?_append_left hn] at e; exact e)⟩]
  dsimp only
  rw [if_pos (below_of _ d h), List.take_left]
/-- one object was changed -/
theorem fin_se (st : Store) (n : Nat) (o : Ob) (d : D) (ho : belowO st.length o = true) (h : isData d = true) : finish st (.v d) (st.set n o) = .ok (.v d) (st.set n o) := by
  unfold finish
  rw [if_pos ⟨by simp, fun m o' hm e => by
    rw [List.getElem?_set] at e
    split at e
    · split at e
      · cases e; exact .inr ho
      · cases e
    · exact .inl e⟩]
  dsimp only
  rw [if_pos (below_of _ d h), List.take_of_length_le (by simp)]
end
end Fw
namespace Fw
theorem puts_cons' (ρ : Lc) (i : Nat) (is : List Nat) (d : D) (ds : List D) : Lc.puts ρ (i :: is) (d :: ds) = Lc.puts (ρ.put i d) is ds := rfl
theorem puts_nil' (ρ : Lc) (ds : List D) : Lc.puts ρ [] ds = ρ := by cases ds <;> rfl
end Fw
namespace Fw
theorem set_c0 (x y : Option D) (l : Lc) : List.set (x :: l) 0 y = y :: l := rfl
theorem set_c1 (x y : Option D) (l : Lc) (i : Nat) : List.set (x :: l) (i + 1) y = x :: List.set l i y := rfl
end Fw

/-! ## W2 -/
set_option Elab.async false
set_option linter.all false
set_option maxRecDepth 100000
set_option maxHeartbeats 4000000
/-! Operations, each with a condition that omega can hold. -/
namespace Fw
open PySem L2
section
variable (st : Store)
theorem q_add (i j : Int) : opBin .Add (.int i) (.int j) st = .ok (.v (.int (i + j))) st := rfl
theorem q_sub (i j : Int) : opBin .Sub (.int i) (.int j) st = .ok (.v (.int (i - j))) st := rfl
theorem q_mul (i j : Int) (h : (-18446744073709551616 < i ∧ i < 18446744073709551616) ∨ (-18446744073709551616 < j ∧ j < 18446744073709551616)) : opBin .Mult (.int i) (.int j) st = .ok (.v (.int (i * j))) st := by
  have : mulOk i j = true := decide_eq_true h
  simp [opBin, this]
theorem q_div (i j : Int) (h : 0 < j ∧ j < 1073741824) : opBin .FloorDiv (.int i) (.int j) st = .ok (.v (.int (i / j))) st := by simp [opBin, h]
theorem q_mod (i j : Int) (h : 0 < j) : opBin .Mod (.int i) (.int j) st = .ok (.v (.int (i % j))) st := by simp [opBin, h]
theorem q_shr (i : Int) (j : Nat) : opBin .RShift (.int i) (.int (j : Nat)) st = .ok (.v (.int (i / 2 ^ j))) st := by simp [opBin]
theorem q_and (i j : Int) : opBin .BitAnd (.int i) (.int j) st = .ok (.v (.int (PySem.Builtin.bitAnd i j))) st := rfl
theorem q_or (i j : Int) : opBin .BitOr (.int i) (.int j) st = .ok (.v (.int (PySem.Builtin.bitOr i j))) st := rfl
theorem q_xor (i j : Int) : opBin .BitXor (.int i) (.int j) st = .ok (.v (.int (PySem.Builtin.bitXor i j))) st := rfl
theorem q_addT (a b : List D) (h : a.length + b.length ≤ 16777216) : opBin .Add (.tup a) (.tup b) st = .ok (.v (.tup (a ++ b))) st := by simp [opBin, h, big]
theorem q_addS (a b : Str) (h : a.length + b.length ≤ 16777216) : opBin .Add (.str a) (.str b) st = .ok (.v (.str (a ++ b))) st := by simp [opBin, h, big]
theorem q_addL (a b : List D) (h : a.length + b.length ≤ 16777216) : opBin .Add (.lst a) (.lst b) st = .ok (.fr (a ++ b)) st := by simp [opBin, seqL, h, big]
theorem q_addRL (n : Nat) (a b : List D) (e : st[n]? = some (.lst a)) (h : a.length + b.length ≤ 16777216) : opBin .Add (.ref n) (.lst b) st = .ok (.fr (a ++ b)) st := by simp [opBin, seqL, e, h, big]
theorem q_addLR (n : Nat) (a b : List D) (e : st[n]? = some (.lst b)) (h : a.length + b.length ≤ 16777216) : opBin .Add (.lst a) (.ref n) st = .ok (.fr (a ++ b)) st := by simp [opBin, seqL, e, h, big]
theorem q_mulT (a : List D) (k : Int) (h : k ≤ 1000000 ∧ -1000000 ≤ k ∧ a.length * k.toNat ≤ 1000000) : opBin .Mult (.tup a) (.int k) st = .ok (.v (.tup (List.replicate k.toNat a).flatten)) st := by simp [opBin, h]
theorem q_mulL (a : List D) (k : Int) (h : k ≤ 1000000 ∧ -1000000 ≤ k ∧ a.length * k.toNat ≤ 1000000) : opBin .Mult (.lst a) (.int k) st = .ok (.fr (List.replicate k.toNat a).flatten) st := by simp [opBin, seqL, h]
theorem q_mulT1 (d : D) (k : Int) (h : k ≤ 1000000 ∧ -1000000 ≤ k) : opBin .Mult (.tup [d]) (.int k) st = .ok (.v (.tup (List.replicate k.toNat d))) st := by
  rw [q_mulT _ _ _ ⟨h.1, h.2, by rw [List.length_singleton]; omega⟩]
  congr 3
  generalize k.toNat = n
  induction n with
  | zero => rfl
  | succ n ih => rw [List.replicate_succ, List.flatten_cons, ih]; rfl
theorem q_mulL1 (d : D) (k : Int) (h : k ≤ 1000000 ∧ -1000000 ≤ k) : opBin .Mult (.lst [d]) (.int k) st = .ok (.fr (List.replicate k.toNat d)) st := by
  rw [q_mulL _ _ _ ⟨h.1, h.2, by rw [List.length_singleton]; omega⟩]
  congr 2
  generalize k.toNat = n
  induction n with
  | zero => rfl
  | succ n ih => rw [List.replicate_succ, List.flatten_cons, ih]; rfl
theorem q_pow (i : Int) (n : Nat) (h : n ≤ 1000000) (h2 : i.natAbs < 18446744073709551616) : opBin .Pow (.int i) (.int (n : Nat)) st = .ok (.v (.int (i ^ n))) st := by
  have : i.natAbs < 2 ^ 64 := h2
  simp [opBin]; omega
/-! tests -/
theorem t_lt (i j : Int) : cmpB .Lt (.int i) (.int j) st = .ok (decide (i < j)) st := rfl
theorem t_le (i j : Int) : cmpB .LtE (.int i) (.int j) st = .ok (decide (i ≤ j)) st := rfl
theorem t_gt (i j : Int) : cmpB .Gt (.int i) (.int j) st = .ok (decide (j < i)) st := rfl
theorem t_ge (i j : Int) : cmpB .GtE (.int i) (.int j) st = .ok (decide (j ≤ i)) st := rfl
theorem u_lt (i j : Int) : opCmp .Lt (.int i) (.int j) st = .ok (.bl (decide (i < j))) st := rfl
theorem u_le (i j : Int) : opCmp .LtE (.int i) (.int j) st = .ok (.bl (decide (i ≤ j))) st := rfl
theorem u_gt (i j : Int) : opCmp .Gt (.int i) (.int j) st = .ok (.bl (decide (j < i))) st := rfl
theorem u_ge (i j : Int) : opCmp .GtE (.int i) (.int j) st = .ok (.bl (decide (j ≤ i))) st := rfl
theorem u_is0 : opCmp .Is .non .non st = .ok (.bl true) st := rfl
theorem u_is1 (i : Int) : opCmp .Is (.int i) .non st = .ok (.bl false) st := rfl
theorem u_is2 (ds : List D) : opCmp .Is (.tup ds) .non st = .ok (.bl false) st := rfl
theorem u_is3 (ds : List D) : opCmp .Is (.lst ds) .non st = .ok (.bl false) st := rfl
theorem u_is4 (n : Nat) : opCmp .Is (.ref n) .non st = .ok (.bl false) st := rfl
theorem u_is5 (x : Str) : opCmp .Is (.str x) .non st = .ok (.bl false) st := rfl
theorem u_is6 (b : Bool) : opCmp .Is (.bl b) .non st = .ok (.bl false) st := rfl
theorem u_in0 : opCmp .IsNot .non .non st = .ok (.bl false) st := rfl
theorem u_in1 (i : Int) : opCmp .IsNot (.int i) .non st = .ok (.bl true) st := rfl
theorem u_in2 (ds : List D) : opCmp .IsNot (.tup ds) .non st = .ok (.bl true) st := rfl
theorem u_in3 (ds : List D) : opCmp .IsNot (.lst ds) .non st = .ok (.bl true) st := rfl
theorem u_in4 (n : Nat) : opCmp .IsNot (.ref n) .non st = .ok (.bl true) st := rfl
theorem u_in5 (x : Str) : opCmp .IsNot (.str x) .non st = .ok (.bl true) st := rfl
theorem u_in6 (b : Bool) : opCmp .IsNot (.bl b) .non st = .ok (.bl true) st := rfl
theorem toB_ok (b : Bool) : toB (.ok (.bl b) st) = .ok b st := rfl
theorem t_is0 : cmpB .Is .non .non st = .ok true st := rfl
theorem t_is1 (i : Int) : cmpB .Is (.int i) .non st = .ok false st := rfl
theorem t_is2 (ds : List D) : cmpB .Is (.tup ds) .non st = .ok false st := rfl
theorem t_is3 (ds : List D) : cmpB .Is (.lst ds) .non st = .ok false st := rfl
theorem t_is4 (n : Nat) : cmpB .Is (.ref n) .non st = .ok false st := rfl
theorem t_is5 (x : Str) : cmpB .Is (.str x) .non st = .ok false st := rfl
theorem t_is6 (b : Bool) : cmpB .Is (.bl b) .non st = .ok false st := rfl
theorem t_in0 : cmpB .IsNot .non .non st = .ok false st := rfl
theorem t_in1 (i : Int) : cmpB .IsNot (.int i) .non st = .ok true st := rfl
theorem t_in2 (ds : List D) : cmpB .IsNot (.tup ds) .non st = .ok true st := rfl
theorem t_in3 (ds : List D) : cmpB .IsNot (.lst ds) .non st = .ok true st := rfl
theorem t_in4 (n : Nat) : cmpB .IsNot (.ref n) .non st = .ok true st := rfl
theorem t_in5 (x : Str) : cmpB .IsNot (.str x) .non st = .ok true st := rfl
theorem t_in6 (b : Bool) : cmpB .IsNot (.bl b) .non st = .ok true st := rfl
theorem shaped_int' (i : Int) : shapedD (.int i) = true := by
  unfold shapedD isData toPy PySem.SeqAt.shaped; simp [PyData.canLay0, PyData.depth]
theorem eqD_ii (i j : Int) : eqD (.int i) (.int j) = decide (i = j) := by unfold eqD toPy; simp [PyData.eqv]; rfl
theorem u_eq (i j : Int) : opCmp .Eq (.int i) (.int j) st = .ok (.bl (decide (i = j))) st := by
  unfold opCmp look; dsimp only; rw [shaped_int', shaped_int', eqD_ii]; rfl
theorem u_ne (i j : Int) : opCmp .NotEq (.int i) (.int j) st = .ok (.bl (!decide (i = j))) st := by
  unfold opCmp look; dsimp only; rw [shaped_int', shaped_int', eqD_ii]; rfl
theorem t_eq (i j : Int) : cmpB .Eq (.int i) (.int j) st = .ok (decide (i = j)) st := by unfold cmpB; rw [u_eq]; rfl
theorem t_ne (i j : Int) : cmpB .NotEq (.int i) (.int j) st = .ok (!decide (i = j)) st := by unfold cmpB; rw [u_ne]; rfl
theorem look_d (d : D) (h : isData d = true) : look st d = d := by cases d <;> first | rfl | simp [isData] at h
/-- two data -/
theorem u_eqD (x y : D) (hx : shapedD x = true) (hy : shapedD y = true) : opCmp .Eq x y st = .ok (.bl (eqD x y)) st := by
  have a : ∀ d, shapedD d = true → look st d = d := fun d h => look_d st d (by unfold shapedD at h; rw [Bool.and_eq_true] at h; exact h.1)
  unfold opCmp; dsimp only; rw [a x hx, a y hy, hx, hy]; rfl
theorem u_neD (x y : D) (hx : shapedD x = true) (hy : shapedD y = true) : opCmp .NotEq x y st = .ok (.bl (!eqD x y)) st := by
  have a : ∀ d, shapedD d = true → look st d = d := fun d h => look_d st d (by unfold shapedD at h; rw [Bool.and_eq_true] at h; exact h.1)
  unfold opCmp; dsimp only; rw [a x hx, a y hy, hx, hy]; rfl
theorem eqD_me (d : D) (h : shapedD d = true) : eqD d d = true := by
  unfold shapedD at h
  rw [Bool.and_eq_true] at h
  exact PySem.SeqAt.eqv_refl _ (PySem.SeqAt.canLay_of_shaped h.2)
/-! builtins -/
theorem o_len1 (ds : List D) : opB .len [.tup ds] st = .ok (.v (.int (ds.length : Nat))) st := rfl
theorem o_len2 (ds : List D) : opB .len [.lst ds] st = .ok (.v (.int (ds.length : Nat))) st := rfl
theorem o_len3 (n : Nat) (ds : List D) (h : st[n]? = some (.lst ds)) : opB .len [.ref n] st = .ok (.v (.int (ds.length : Nat))) st := by simp [opB, seqD, seqL, h]
theorem o_len4 (x : Str) (h : x.length ≤ 16777216) : opB .len [.str x] st = .ok (.v (.int (x.length : Nat))) st := by simp [opB, h, big]
theorem o_tup1 (ds : List D) : opB .tuple_ [.tup ds] st = .ok (.v (.tup ds)) st := rfl
theorem o_tup2 (ds : List D) : opB .tuple_ [.lst ds] st = .ok (.v (.tup ds)) st := rfl
theorem o_tup3 (n : Nat) (ds : List D) (h : st[n]? = some (.lst ds)) : opB .tuple_ [.ref n] st = .ok (.v (.tup ds)) st := by simp [opB, seqD, seqL, h]
theorem o_lst1 (ds : List D) : opB .list_ [.tup ds] st = .ok (.fr ds) st := rfl
theorem o_lst2 (ds : List D) : opB .list_ [.lst ds] st = .ok (.fr ds) st := rfl
theorem o_lst3 (n : Nat) (ds : List D) (h : st[n]? = some (.lst ds)) : opB .list_ [.ref n] st = .ok (.fr ds) st := by simp [opB, seqD, seqL, h]
theorem o_int1 (i : Int) : opB .int_ [.int i] st = .ok (.v (.int i)) st := rfl
theorem o_int2 (b : Bool) : opB .int_ [.bl b] st = .ok (.v (.int (if b then 1 else 0))) st := rfl
theorem o_abs (i : Int) : opB .abs_ [.int i] st = .ok (.v (.int (if i < 0 then -i else i))) st := rfl
theorem o_max2 (i j : Int) : opB .max2 [.int i, .int j] st = .ok (.v (.int (if j > i then j else i))) st := rfl
theorem o_min2 (i j : Int) : opB .min2 [.int i, .int j] st = .ok (.v (.int (if j < i then j else i))) st := rfl
theorem intsD_map : ∀ l : List Int, intsD (l.map .int) = some l
  | [] => rfl
  | i :: l => by rw [List.map_cons, intsD, intsD_map l]; rfl
theorem o_sum1 (l : List Int) : opB .sum_ [.tup (l.map .int)] st = .ok (.v (.int l.sum)) st := by simp [opB, seqD, intsD_map]
theorem o_sum2 (l : List Int) : opB .sum_ [.lst (l.map .int)] st = .ok (.v (.int l.sum)) st := by simp [opB, seqD, seqL, intsD_map]
theorem blsD_map1 {α : Type} (f : α → Bool) : ∀ l : List α, blsD (l.map fun a => D.bl (f a)) = some (l.map f)
  | [] => rfl
  | a :: l => by rw [List.map_cons, blsD, blsD_map1 f l]; rfl
theorem o_all1 {α : Type} (f : α → Bool) (l : List α) : opB .all_ [.lst (l.map fun a => D.bl (f a))] st = .ok (.v (.bl (l.all f))) st := by simp [opB, seqL, blsD_map1]
theorem o_any1 {α : Type} (f : α → Bool) (l : List α) : opB .any_ [.lst (l.map fun a => D.bl (f a))] st = .ok (.v (.bl (l.any f))) st := by simp [opB, seqL, blsD_map1]
theorem s_tup (ds : List D) (lo hi : Option Int) : opSl (.tup ds) lo hi st = .ok (.v (.tup (cut ds lo hi))) st := rfl
theorem s_scr (ds : List D) (lo hi : Option Int) : opSl (.scr ds) lo hi st = .ok (.fr (cut ds lo hi)) st := rfl
theorem s_lst (ds : List D) (lo hi : Option Int) : opSl (.lst ds) lo hi st = .ok (.fr (cut ds lo hi)) st := rfl
theorem s_ref (n : Nat) (ds : List D) (lo hi : Option Int) (h : st[n]? = some (.lst ds)) : opSl (.ref n) lo hi st = .ok (.fr (cut ds lo hi)) st := by simp [opSl, seqL, h]
theorem rv_tup (ds : List D) : opRev (.tup ds) st = .ok (.v (.tup ds.reverse)) st := rfl
theorem rv_lst (ds : List D) : opRev (.lst ds) st = .ok (.fr ds.reverse) st := rfl
theorem zp_tt (a b : List D) : opZip (.tup a) (.tup b) st = .ok (zipD a b) st := rfl
theorem zp_ll (a b : List D) : opZip (.lst a) (.lst b) st = .ok (zipD a b) st := rfl
/-- an item -/
def ixR (ds : List D) (i : Int) (st : Store) : Res W := match atD ds i with
  | some d => .ok (.v d) st
  | none => .stuck
theorem x_tup (ds : List D) (i : Int) : opIx (.tup ds) (.int i) st = ixR ds i st := rfl
theorem x_lst (ds : List D) (i : Int) : opIx (.lst ds) (.int i) st = ixR ds i st := rfl
theorem x_ref (n : Nat) (ds : List D) (i : Int) (h : st[n]? = some (.lst ds)) : opIx (.ref n) (.int i) st = ixR ds i st := by simp [opIx, seqD, seqL, h]; rfl
theorem ix_ok {ds : List D} {i : Int} {d : D} (h0 : 0 ≤ i) (h : ds[i.toNat]? = some d) : ixR ds i st = .ok (.v d) st := by unfold ixR atD; rw [if_pos h0, h]
theorem ix_nat {ds : List D} {i : Nat} {d : D} (h : ds[i]? = some d) : ixR ds (i : Nat) st = .ok (.v d) st := ix_ok st (by omega) (by rw [Int.toNat_natCast]; exact h)
theorem ix_map {α : Type} {f : α → D} {l : List α} {i : Nat} {a : α} (h : l[i]? = some a) : ixR (l.map f) (i : Nat) st = .ok (.v (f a)) st := ix_nat st (by rw [List.getElem?_map, h]; rfl)
theorem ix_0 (a : D) (r : List D) : ixR (a :: r) 0 st = .ok (.v a) st := rfl
theorem ix_1 (a b : D) (r : List D) : ixR (a :: b :: r) 1 st = .ok (.v b) st := rfl
theorem ix_2 (a b c : D) (r : List D) : ixR (a :: b :: c :: r) 2 st = .ok (.v c) st := rfl
theorem ix_3 (a b c d : D) (r : List D) : ixR (a :: b :: c :: d :: r) 3 st = .ok (.v d) st := rfl
theorem ix_4 (a b c d e : D) (r : List D) : ixR (a :: b :: c :: d :: e :: r) 4 st = .ok (.v e) st := rfl
theorem ix_last (l : List D) (d : D) : ixR (l ++ [d]) (-1) st = .ok (.v d) st := by
  unfold ixR atD
  rw [if_neg (by decide), if_pos (by rw [List.length_append, List.length_singleton]; omega), List.length_append, List.length_singleton, show (-1 + ((l.length + 1 : Nat) : Int)).toNat = l.length by omega, List.getElem?_append_right (Nat.le_refl _), Nat.sub_self]
  rfl
/-! slices -/
theorem cut_all (ds : List D) : cut ds none none = ds := by unfold cut sIxN; simp
theorem cut_to' (ds : List D) (p : Nat) : cut ds none (some (p : Int)) = ds.take p := by
  unfold cut sIxN
  simp only [List.drop_zero, Nat.sub_zero]
  rw [if_neg (by omega), List.take_eq_take_iff]; omega
theorem cut_from' (ds : List D) (p : Nat) : cut ds (some (p : Int)) none = ds.drop p := by
  unfold cut sIxN
  simp only
  rw [if_neg (by omega), Int.toNat_natCast]
  by_cases c : p ≤ ds.length
  · rw [Nat.min_eq_left c, List.take_of_length_le (by simp)]
  · rw [Nat.min_eq_right (by omega), Nat.sub_self, List.take_zero, List.drop_eq_nil_of_le (by omega)]
theorem cut_nn (ds : List D) (i j : Nat) : cut ds (some (i : Int)) (some (j : Int)) = (ds.take j).drop i := by
  unfold cut sIxN
  dsimp only
  rw [if_neg (by omega), if_neg (by omega), Int.toNat_natCast, Int.toNat_natCast, List.drop_take]
  by_cases c : i ≤ ds.length
  · rw [Nat.min_eq_left c]
    by_cases c2 : j ≤ ds.length
    · rw [Nat.min_eq_left c2]
    · rw [Nat.min_eq_right (by omega), List.take_of_length_le (by simp), List.take_of_length_le (by rw [List.length_drop]; omega)]
  · rw [List.drop_eq_nil_of_le (by omega : ds.length ≤ i), List.take_nil, List.drop_eq_nil_of_le (by omega), List.take_nil]
/-! the store -/
theorem len_app (a b : Store) : (a ++ b).length = a.length + b.length := List.length_append
theorem at_last (a : Store) (o : Ob) : (a ++ [o])[a.length]? = some o := by rw [List.getElem?_append_right (Nat.le_refl _), Nat.sub_self]; rfl
theorem app_ok (n : Nat) (ds : List D) (x : D) (h : st[n]? = some (.lst ds)) (hl : ds.length < 16777216) : opBM .append (.ref n) [x] st = .ok (.v .non) (st.set n (.lst (ds ++ [x]))) := by simp [opBM, h, hl, big]
theorem bm_ok (n : Nat) (ds : List D) (h : st[n]? = some (.lst ds)) : bmOk .append (.ref n) st = true := by simp [bmOk, h]
theorem set_ok (n : Nat) (ds : List D) (i : Int) (x : D) (h : st[n]? = some (.lst ds)) (h0 : 0 ≤ i) (h1 : i < ds.length) : opSet (.ref n) (.int i) x st = .ok () (st.set n (.lst (ds.set i.toNat x))) := by simp [opSet, h, h0, h1]
theorem setF_ok (fl : Nat → List Nat) (n f c : Nat) (fs : List (Nat × D)) (x : D) (h : st[n]? = some (.ins c fs)) (h1 : (fl c).contains f = true) (h2 : fs.length < 900) : setF fl (.ref n) f x st = .ok () (st.set n (.ins c (putN f x fs))) := by
  unfold setF; dsimp only; rw [h]; dsimp only; rw [h1, decide_eq_true h2]; rfl
theorem augI (o : Operator) (ho : o ≠ .Pow) (i j r : Int) (h : opBin o (.int i) (.int j) st = .ok (.v (.int r)) st) : opAug o (.int i) (.int j) st = .ok (.int r) st := by
  unfold opAug; dsimp only; rw [if_neg ho, h]; rfl
theorem a_add (i j : Int) : opAug .Add (.int i) (.int j) st = .ok (.int (i + j)) st := rfl
theorem a_sub (i j : Int) : opAug .Sub (.int i) (.int j) st = .ok (.int (i - j)) st := rfl
theorem a_mul (i j : Int) (h : (-18446744073709551616 < i ∧ i < 18446744073709551616) ∨ (-18446744073709551616 < j ∧ j < 18446744073709551616)) : opAug .Mult (.int i) (.int j) st = .ok (.int (i * j)) st := augI st .Mult (by decide) _ _ _ (q_mul st i j h)
theorem a_div (i j : Int) (h : 0 < j ∧ j < 1073741824) : opAug .FloorDiv (.int i) (.int j) st = .ok (.int (i / j)) st := augI st .FloorDiv (by decide) _ _ _ (q_div st i j h)
theorem a_lst (n : Nat) (a b : List D) (e : st[n]? = some (.lst a)) (h : a.length + b.length ≤ 16777216) : opAug .Add (.ref n) (.lst b) st = .ok (.ref n) (st.set n (.lst (a ++ b))) := by simp [opAug, e, seqL, h, big]
theorem tof (n : Nat) : (Int.ofNat n) = ((n : Nat) : Int) := rfl
end
end Fw
namespace Fw
open PySem L2
theorem cut_ii (ds : List D) (i j : Int) (h : 0 ≤ i) (h2 : 0 ≤ j) : cut ds (some i) (some j) = (ds.take j.toNat).drop i.toNat := by
  have := cut_nn ds i.toNat j.toNat
  rwa [Int.toNat_of_nonneg h, Int.toNat_of_nonneg h2] at this
theorem cut_ni (ds : List D) (j : Int) (h2 : 0 ≤ j) : cut ds none (some j) = ds.take j.toNat := by
  have := cut_to' ds j.toNat
  rwa [Int.toNat_of_nonneg h2] at this
theorem cut_in (ds : List D) (j : Int) (h2 : 0 ≤ j) : cut ds (some j) none = ds.drop j.toNat := by
  have := cut_from' ds j.toNat
  rwa [Int.toNat_of_nonneg h2] at this
theorem shaped_ints (xs : List Int) : shapedD (.tup (xs.map .int)) = true := by
  have h1 : ∀ xs : List Int, isDatas (xs.map .int) = true := fun xs => by
    induction xs with
    | nil => rfl
    | cons x xs ih => rw [List.map_cons, isDatas, ih]; rfl
  have h2 : ∀ xs : List Int, toPys (xs.map .int) = xs.map PyData.int := fun xs => by
    induction xs with
    | nil => rfl
    | cons x xs ih => rw [List.map_cons, toPys, ih]; rfl
  unfold shapedD
  rw [isData, h1, toPy, h2]
  simp [PySem.SeqAt.shaped, PyData.canLay0, PyData.depth, PySem.W.ke_canLayAll0, PySem.W.ke_depthAll]
theorem t_neT (l : List D) (st : Store) (h : shapedD (.tup l) = true) : cmpB .NotEq (.tup l) (.tup []) st = .ok (!l.isEmpty) st := by
  unfold cmpB
  rw [u_neD _ _ _ h (show shapedD (.tup []) = true from shaped_ints [])]
  cases l <;> simp [eqD, toPy, toPys, PyData.eqv, toB, PyData.eqvAll]
theorem t_eqT (l : List D) (st : Store) (h : shapedD (.tup l) = true) : cmpB .Eq (.tup l) (.tup []) st = .ok l.isEmpty st := by
  unfold cmpB
  rw [u_eqD _ _ _ h (show shapedD (.tup []) = true from shaped_ints [])]
  cases l <;> simp [eqD, toPy, toPys, PyData.eqv, toB, PyData.eqvAll]
/-- a thing that is itself -/
theorem t_neM (d : D) (st : Store) (h : shapedD d = true) : cmpB .NotEq d d st = .ok false st := by
  unfold cmpB; rw [u_neD _ _ _ h h, eqD_me d h]; rfl
theorem u_neM (d : D) (st : Store) (h : shapedD d = true) : opCmp .NotEq d d st = .ok (.bl false) st := by
  rw [u_neD _ _ _ h h, eqD_me d h, Bool.not_true]
theorem t_eqM (d : D) (st : Store) (h : shapedD d = true) : cmpB .Eq d d st = .ok true st := by
  unfold cmpB; rw [u_eqD _ _ _ h h, eqD_me d h]; rfl
theorem u_eqM (d : D) (st : Store) (h : shapedD d = true) : opCmp .Eq d d st = .ok (.bl true) st := by
  rw [u_eqD _ _ _ h h, eqD_me d h]
end Fw
namespace Fw
theorem rng_l (lo : Int) : ∀ n, (rng lo n).length = n := fun n => by
  induction n generalizing lo with
  | zero => rfl
  | succ n ih => rw [rng, List.length_cons, ih]
theorem rngC_l (lo c : Int) : ∀ n, (rngC lo c n).length = n := fun n => by
  induction n generalizing lo with
  | zero => rfl
  | succ n ih => rw [rngC, List.length_cons, ih]
end Fw

/-! ## W4 -/
set_option Elab.async false
set_option linter.all false
set_option maxRecDepth 100000
set_option maxHeartbeats 4000000
/-! What the store holds; errors. -/
namespace Fw
open PySem L2
noncomputable section
variable (Δ : Dl) (ρ : Lc) (st : Store)
def kMe4 (f : Nat) (es : T) (n : Nat) (d : Option D) : Res W := match d with
  | none => (evEs Δ es ρ st).bind (kMe2 Δ f n)
  | some _ => .stuck
theorem kMe4_ (f : Nat) (es : T) (n : Nat) : kMe4 Δ ρ st f es n none = (evEs Δ es ρ st).bind (kMe2 Δ f n) := rfl
def kMe3 (c m f : Nat) (es : T) (n : Nat) (o : Option Ob) : Res W := match o with
  | some (.ins c' fs) => if c' = c then kMe4 Δ ρ st f es n (fs.lookup m) else .stuck
  | _ => .stuck
theorem kMe3_ (c m f : Nat) (es : T) (n : Nat) (fs : List (Nat × D)) : kMe3 Δ ρ st c m f es n (some (.ins c fs)) = kMe4 Δ ρ st f es n (fs.lookup m) := if_pos rfl
theorem kMe0_ (c m f n : Nat) (es : T) : kMe Δ ρ c m f es (.v (.ref n)) st = kMe3 Δ ρ st c m f es n st[n]? := by
  unfold kMe kMe3; dsimp only [W.d_v]
  cases st[n]? with
  | none => rfl
  | some o =>
    cases o with
    | ins c' fs =>
      dsimp only
      by_cases h1 : c' = c
      · rw [if_pos h1]
        cases h2 : fs.lookup m with
        | none => rw [if_pos ⟨h1, rfl⟩]; rfl
        | some d => rw [if_neg (fun h => by cases h.2)]; rfl
      · rw [if_neg (fun h => h1 h.1), if_neg h1]
    | _ => rfl
def gF3 (b : Bool) (d : Option D) : Option D := if b = true then d else none
theorem gF3_ (d : Option D) : gF3 true d = d := rfl
def gF2 (fl : Nat → List Nat) (f : Nat) (o : Option Ob) : Option D := match o with
  | some (.ins c fs) => gF3 ((fl c).contains f) (fs.lookup f)
  | _ => none
theorem gF2_ (fl : Nat → List Nat) (f c : Nat) (fs : List (Nat × D)) : gF2 fl f (some (.ins c fs)) = gF3 ((fl c).contains f) (fs.lookup f) := rfl
theorem getF_ (fl : Nat → List Nat) (n f : Nat) : getF fl st (.ref n) f = gF2 fl f st[n]? := by
  unfold getF gF2; dsimp only
  all_goals (rcases st[n]? with _ | o; first | done | rfl; cases o <;> rfl)
def kFld2 (d : Option D) : Res W := match d with
  | some d => .ok (.v d) st
  | none => .stuck
theorem kFld2_ (d : D) : kFld2 st (some d) = .ok (.v d) st := rfl
theorem kFld0_ (f : Nat) (x : W) : kFld Δ f x st = kFld2 st (getF Δ.flds st x.d f) := rfl
def sF3 (n f c : Nat) (x : D) (fs : List (Nat × D)) (b : Bool) : Res Unit := if b = true then .ok () (st.set n (.ins c (putN f x fs))) else .stuck
theorem sF3_ (n f c : Nat) (x : D) (fs : List (Nat × D)) : sF3 st n f c x fs true = .ok () (st.set n (.ins c (putN f x fs))) := rfl
def sF2 (fl : Nat → List Nat) (n f : Nat) (x : D) (o : Option Ob) : Res Unit := match o with
  | some (.ins c fs) => if fs.length < 900 then sF3 st n f c x fs ((fl c).contains f) else .stuck
  | _ => .stuck
theorem sF2_ (fl : Nat → List Nat) (n f c : Nat) (x : D) (fs : List (Nat × D)) (h : fs.length < 900) : sF2 st fl n f x (some (.ins c fs)) = sF3 st n f c x fs ((fl c).contains f) := if_pos h
theorem setF_ (fl : Nat → List Nat) (n f : Nat) (x : D) : setF fl (.ref n) f x st = sF2 st fl n f x st[n]? := by
  unfold setF sF2 sF3; dsimp only; cases st[n]? with
  | none => rfl
  | some o =>
    cases o with
    | ins c fs =>
      dsimp only
      cases (fl c).contains f <;> by_cases h : fs.length < 900 <;> simp [h]
    | _ => rfl
def clsO (o : Option Ob) : Option Nat := match o with
  | some (.ins c _) => some c
  | _ => none
theorem clsO_ (c : Nat) (fs : List (Nat × D)) : clsO (some (.ins c fs)) = some c := rfl
theorem clsId_ (n : Nat) : clsId st (.ref n) = clsO st[n]? := by
  unfold clsId clsO; dsimp only
  all_goals (rcases st[n]? with _ | o; first | done | rfl; cases o <;> rfl)
def kFa9 (o : Operator) (f : Nat) (e : T) (x : W) (c : Option Nat) (d : Option D) : Res Unit := match d with
  | some v => (evE Δ e ρ st).bind (kFa2 Δ o f x v c)
  | none => .stuck
theorem kFa9_ (o : Operator) (f : Nat) (e : T) (x : W) (c : Option Nat) (v : D) : kFa9 Δ ρ st o f e x c (some v) = (evE Δ e ρ st).bind (kFa2 Δ o f x v c) := rfl
theorem kFa0_ (o : Operator) (f : Nat) (e : T) (x : W) : kFa Δ ρ o f e x st = kFa9 Δ ρ st o f e x (clsId st x.d) (getF Δ.flds st x.d f) := rfl
def kFa8 (f : Nat) (x : W) (z : D) (c c2 : Option Nat) : Res Unit := if c = c2 then setF Δ.flds x.d f z st else .stuck
theorem kFa8_ (f : Nat) (x : W) (z : D) (c : Option Nat) : kFa8 Δ st f x z c c = setF Δ.flds x.d f z st := if_pos rfl
theorem kFa30_ (f : Nat) (x : W) (c : Option Nat) (z : D) : kFa3 Δ f x c z st = kFa8 Δ st f x z c (clsId st x.d) := rfl
def sqO (o : Option Ob) : Option (List D) := match o with
  | some (.lst ds) => some ds
  | _ => none
theorem sqO_ (ds : List D) : sqO (some (.lst ds)) = some ds := rfl
theorem seqL_ (n : Nat) : seqL st (.ref n) = sqO st[n]? := by
  unfold seqL sqO; dsimp only
  all_goals (rcases st[n]? with _ | o; first | done | rfl; cases o <;> rfl)
def lenO (o : Option Ob) : Res W := match o with
  | some (.lst ds) => .ok (.v (.int (ds.length : Nat))) st
  | some (.dic kvs) => .ok (.v (.int (kvs.length : Nat))) st
  | _ => .stuck
theorem lenO_ (ds : List D) : lenO st (some (.lst ds)) = .ok (.v (.int (ds.length : Nat))) st := rfl
theorem lenO_d (kvs : List (Key × D)) : lenO st (some (.dic kvs)) = .ok (.v (.int (kvs.length : Nat))) st := rfl
theorem o_lenR (n : Nat) : opB .len [.ref n] st = lenO st st[n]? := by
  unfold opB lenO dicD seqD seqL; dsimp only
  all_goals (rcases st[n]? with _ | o; first | done | rfl; cases o <;> rfl)
def tupQ (o : Option (List D)) : Res W := match o with
  | some ds => .ok (.v (.tup ds)) st
  | none => .stuck
theorem tupQ_ (ds : List D) : tupQ st (some ds) = .ok (.v (.tup ds)) st := rfl
theorem o_tupR (n : Nat) : opB .tuple_ [.ref n] st = tupQ st (sqO st[n]?) := by
  rw [← seqL_]; rfl
def lstQ (o : Option (List D)) : Res W := match o with
  | some ds => .ok (.fr ds) st
  | none => .stuck
theorem lstQ_ (ds : List D) : lstQ st (some ds) = .ok (.fr ds) st := rfl
theorem o_lstR (n : Nat) : opB .list_ [.ref n] st = lstQ st (sqO st[n]?) := by
  rw [← seqL_]; rfl
def kvI (o : Option D) : Res W := match o with
  | some d => .ok (.v d) st
  | none => .stuck
theorem kvI_ (d : D) : kvI st (some d) = .ok (.v d) st := rfl
def ixO (i : Int) (o : Option Ob) : Res W := match o with
  | some (.lst ds) => ixR ds i st
  | some (.dic kvs) => kvI st (valD kvs (.inl i))
  | _ => .stuck
theorem ixO_ (i : Int) (ds : List D) : ixO st i (some (.lst ds)) = ixR ds i st := rfl
theorem ixO_d (i : Int) (kvs : List (Key × D)) : ixO st i (some (.dic kvs)) = kvI st (valD kvs (.inl i)) := rfl
theorem x_refO (n : Nat) (i : Int) : opIx (.ref n) (.int i) st = ixO st i st[n]? := by
  unfold opIx ixO opDix dicD seqD seqL kvI; dsimp only
  all_goals (rcases st[n]? with _ | o; first | done | rfl; cases o <;> rfl)
def ixS (x : Str) (o : Option Ob) : Res W := match o with
  | some (.dic kvs) => kvI st (valD kvs (.inr x))
  | _ => .stuck
theorem ixS_ (x : Str) (kvs : List (Key × D)) : ixS st x (some (.dic kvs)) = kvI st (valD kvs (.inr x)) := rfl
theorem x_refS (n : Nat) (x : Str) : opIx (.ref n) (.str x) st = ixS st x st[n]? := by
  unfold opIx ixS opDix dicD kvI; dsimp only
  all_goals (rcases st[n]? with _ | o; first | done | rfl; cases o <;> rfl)
def slO (lo hi : Option Int) (o : Option (List D)) : Res W := match o with
  | some ds => .ok (.fr (cut ds lo hi)) st
  | none => .stuck
theorem slO_ (lo hi : Option Int) (ds : List D) : slO st lo hi (some ds) = .ok (.fr (cut ds lo hi)) st := rfl
theorem s_refO (n : Nat) (lo hi : Option Int) : opSl (.ref n) lo hi st = slO st lo hi (sqO st[n]?) := by
  rw [← seqL_]; rfl
def rvO (o : Option (List D)) : Res W := match o with
  | some ds => .ok (.fr ds.reverse) st
  | none => .stuck
theorem rvO_ (ds : List D) : rvO st (some ds) = .ok (.fr ds.reverse) st := rfl
theorem rv_refO (n : Nat) : opRev (.ref n) st = rvO st (sqO st[n]?) := by
  rw [← seqL_]; rfl
def adO (a b : Option (List D)) : Res W := match a, b with
  | some a, some b => if a.length + b.length ≤ big then .ok (.fr (a ++ b)) st else .stuck
  | _, _ => .stuck
theorem adO_ (a b : List D) (h : a.length + b.length ≤ 16777216) : adO st (some a) (some b) = .ok (.fr (a ++ b)) st := if_pos h
theorem q_addRL0 (n : Nat) (b : List D) : opBin .Add (.ref n) (.lst b) st = adO st (sqO st[n]?) (some b) := by
  rw [← seqL_]; rfl
theorem q_addLR0 (n : Nat) (a : List D) : opBin .Add (.lst a) (.ref n) st = adO st (some a) (sqO st[n]?) := by
  rw [← seqL_]; rfl
theorem q_addRR (n m : Nat) : opBin .Add (.ref n) (.ref m) st = adO st (sqO st[n]?) (sqO st[m]?) := by
  rw [← seqL_, ← seqL_]; rfl
def apO (n : Nat) (x : D) (o : Option (List D)) : Res W := match o with
  | some ds => if ds.length < big then .ok (.v .non) (st.set n (.lst (ds ++ [x]))) else .stuck
  | none => .stuck
theorem apO_ (n : Nat) (x : D) (ds : List D) (h : ds.length < 16777216) : apO st n x (some ds) = .ok (.v .non) (st.set n (.lst (ds ++ [x]))) := if_pos h
theorem o_apR (n : Nat) (x : D) : opBM .append (.ref n) [x] st = apO st n x (sqO st[n]?) := by
  unfold opBM apO sqO; dsimp only
  all_goals (rcases st[n]? with _ | o; first | done | rfl; cases o <;> rfl)
def isSo (o : Option (List D)) : Bool := o.isSome
theorem isSo_ (ds : List D) : isSo (some ds) = true := rfl
theorem bmO_ (n : Nat) : bmOk .append (.ref n) st = isSo (sqO st[n]?) := by
  unfold bmOk sqO; dsimp only
  all_goals (rcases st[n]? with _ | o; first | done | rfl; cases o <;> rfl)
def kBm2 (m : BM) (es : T) (x : W) (b : Bool) : Res W := if b = true then (evEs Δ es ρ st).bind (opBM m x.d) else .stuck
theorem kBm2_ (m : BM) (es : T) (x : W) : kBm2 Δ ρ st m es x true = (evEs Δ es ρ st).bind (opBM m x.d) := rfl
theorem kBm0_ (m : BM) (es : T) (x : W) : kBm Δ ρ m es x st = kBm2 Δ ρ st m es x (bmOk m x.d st) := rfl
theorem bmI_ (i : Int) : bmOk .bitlen (.int i) st = true := rfl
theorem o_bl (i : Int) : opBM .bitlen (.int i) [] st = .ok (.v (.int (PySem.Builtin.Int.intBits i : Nat))) st := rfl
def seO (n : Nat) (k : Int) (x : D) (o : Option (List D)) : Res Unit := match o with
  | some ds => if 0 ≤ k then (if k < ds.length then .ok () (st.set n (.lst (ds.set k.toNat x))) else .stuck)
      else if -(ds.length : Int) ≤ k then .ok () (st.set n (.lst (ds.set (k + ds.length).toNat x))) else .stuck
  | none => .stuck
theorem seO_ (n : Nat) (k : Int) (x : D) (ds : List D) (h : 0 ≤ k ∧ k < (ds.length : Nat)) : seO st n k x (some ds) = .ok () (st.set n (.lst (ds.set k.toNat x))) := by
  unfold seO; dsimp only; rw [if_pos h.1, if_pos h.2]
theorem opSet_ (n : Nat) (k : Int) (x : D) : opSet (.ref n) (.int k) x st = seO st n k x (sqO st[n]?) := by
  unfold opSet seO sqO; dsimp only
  all_goals (rcases st[n]? with _ | o; first | done | rfl; cases o <;> rfl)
def atO (i : Int) (o : Option (List D)) : Res D := match o with
  | some ds => if 0 ≤ i ∧ i < 2 ^ 62 then match ds[i.toNat]? with
      | some d => .ok d st
      | none => .stuck
    else .stuck
  | none => .stuck
def atP (o : Option D) : Res D := match o with
  | some d => .ok d st
  | none => .stuck
theorem atP_ (d : D) : atP st (some d) = .ok d st := rfl
theorem atO_ (i : Int) (ds : List D) (h : 0 ≤ i ∧ i < 4611686018427387904) : atO st i (some ds) = atP st ds[i.toNat]? := if_pos h
theorem opAt_ (n : Nat) (i : Int) : opAt (.ref n) (.int i) st = atO st i (sqO st[n]?) := by
  unfold opAt atO sqO; dsimp only
  all_goals (rcases st[n]? with _ | o; first | done | rfl; cases o <;> rfl)
def agO (n : Nat) (b : List D) (o : Option (List D)) : Res D := match o with
  | some a => if a.length + b.length ≤ big then .ok (.ref n) (st.set n (.lst (a ++ b))) else .stuck
  | none => .stuck
theorem agO_ (n : Nat) (a b : List D) (h : a.length + b.length ≤ 16777216) : agO st n b (some a) = .ok (.ref n) (st.set n (.lst (a ++ b))) := if_pos h
theorem a_lstR (n : Nat) (b : List D) : opAug .Add (.ref n) (.lst b) st = agO st n b (sqO st[n]?) := by
  unfold opAug agO sqO; dsimp only [seqL]; cases st[n]? with
  | none => rfl
  | some o => cases o <;> rfl
def suO (o : Option (List D)) : Res W := match o.bind intsD with
  | some ns => .ok (.v (.int ns.sum)) st
  | none => .stuck
theorem suO_ (l : List Int) : suO st (some (l.map .int)) = .ok (.v (.int l.sum)) st := by
  unfold suO; simp [intsD_map]
theorem o_sumR (n : Nat) : opB .sum_ [.ref n] st = suO st (sqO st[n]?) := by
  rw [← seqL_]; rfl
def dDO (n : Nat) (o : Option Ob) : Option (Nat × List (Key × D)) := match o with
  | some (.dic kvs) => some (n, kvs)
  | _ => none
theorem dDO_ (n : Nat) (kvs : List (Key × D)) : dDO n (some (.dic kvs)) = some (n, kvs) := rfl
theorem dicD_ (n : Nat) : dicD st (.ref n) = dDO n st[n]? := by
  unfold dicD dDO; dsimp only
  all_goals (rcases st[n]? with _ | o; first | done | rfl; cases o <;> rfl)
def dsQ (n : Nat) (kvs : List (Key × D)) (k : Key) (z : D) (o : Option D) : Res W := match o with
  | some d => .ok (.v d) st
  | none => .ok (.v z) (st.set n (.dic (putD kvs k z)))
theorem dsQ_s (n : Nat) (kvs : List (Key × D)) (k : Key) (z d : D) : dsQ st n kvs k z (some d) = .ok (.v d) st := rfl
theorem dsQ_n (n : Nat) (kvs : List (Key × D)) (k : Key) (z : D) : dsQ st n kvs k z none = .ok (.v z) (st.set n (.dic (putD kvs k z))) := rfl
def dsO (z : D) (o : Option (Nat × List (Key × D))) (k : Option Key) : Res W := match o, k with
  | some (n, kvs), some k => if kvs.length < big then dsQ st n kvs k z (valD kvs k) else .stuck
  | _, _ => .stuck
theorem dsO_ (z : D) (n : Nat) (kvs : List (Key × D)) (k : Key) (h : kvs.length < 16777216) : dsO st z (some (n, kvs)) (some k) = dsQ st n kvs k z (valD kvs k) := if_pos h
theorem opDset_ (x y z : D) : opDset x y z st = dsO st z (dicD st x) (keyD y) := by
  unfold opDset dsO dsQ; cases dicD st x <;> cases keyD y <;> rfl
def sitO (o : Option Ob) : Res W := match o with
  | some (.dic kvs) => if sortOk (itemsD kvs) then .ok (.fr (sortD (itemsD kvs))) st else .stuck
  | _ => .stuck
theorem sitO_ (kvs : List (Key × D)) (h : sortOk (itemsD kvs) = true) : sitO st (some (.dic kvs)) = .ok (.fr (sortD (itemsD kvs))) st := if_pos h
theorem opSit_ (n : Nat) : opSit (.ref n) st = sitO st st[n]? := by
  unfold opSit sitO dicD; dsimp only
  all_goals (rcases st[n]? with _ | o; first | done | rfl; cases o <;> rfl)
def kSit (x : W) (st : Store) : Res W := opSit x.d st
theorem kSit_ (x : W) : kSit x st = opSit x.d st := rfl
theorem w_sit (a : T) : evE Δ (.sit a) ρ st = (evE Δ a ρ st).bind kSit := evE_sit ..
def kEn (x : W) (st : Store) : Res (List D) := match x.d with
  | .tup ds => .ok (enumD 0 ds) st
  | .lst ds => .ok (enumD 0 ds) st
  | _ => .stuck
theorem kEn_t (ds : List D) : kEn (.v (.tup ds)) st = .ok (enumD 0 ds) st := rfl
theorem kEn_l (ds : List D) : kEn (.v (.lst ds)) st = .ok (enumD 0 ds) st := rfl
theorem kEn_f (ds : List D) : kEn (.fr ds) st = .ok (enumD 0 ds) st := rfl
theorem i_itEn (e : T) : evI Δ (.itEn e) ρ st = (evE Δ e ρ st).bind kEn := evI_itEn ..
def srK (o : Option (List Int)) : Res W := match o with
  | some ns => if ns.length < 64 then .ok (.fr ((sortI ns).map .int)) st else .stuck
  | none => .stuck
theorem srK_ (ns : List Int) (h : ns.length < 64) : srK st (some ns) = .ok (.fr ((sortI ns).map .int)) st := if_pos h
def srO (o : Option Ob) : Res W := match o with
  | some (.dic kvs) => srK st (intK kvs)
  | some (.lst ds) => if sortOk ds then .ok (.fr (sortD ds)) st else .stuck
  | _ => .stuck
theorem srO_d (kvs : List (Key × D)) : srO st (some (.dic kvs)) = srK st (intK kvs) := rfl
theorem srO_l (ds : List D) (h : sortOk ds = true) : srO st (some (.lst ds)) = .ok (.fr (sortD ds)) st := if_pos h
theorem o_srtR (n : Nat) : opB .sorted_ [.ref n] st = srO st st[n]? := by
  unfold opB srO dicD seqL srK; dsimp only
  all_goals (rcases st[n]? with _ | o; first | done | rfl; cases o <;> rfl)
theorem o_srtL (ds : List D) (h : sortOk ds = true) : opB .sorted_ [.lst ds] st = .ok (.fr (sortD ds)) st := by
  unfold opB dicD seqL; dsimp only; rw [h]; rfl
def gu {α : Type} (b : Bool) (r : Res α) : Res α := if b = true then r else .stuck
theorem gu_ (r : Res W) : gu true r = r := rfl
theorem kDg0_ (k x : T) (a : W) : kDg Δ ρ k x a st = gu (dicD st a.d).isSome ((evE Δ k ρ st).bind (kDg2 Δ ρ x a)) := rfl
theorem kDs0_ (k x : T) (a : W) : kDs Δ ρ k x a st = gu (dicD st a.d).isSome ((evE Δ k ρ st).bind (kDs2 Δ ρ x a)) := rfl
def orD (z : D) (o : Option D) : Res W := match o with
  | some d => .ok (.v d) st
  | none => .ok (.v z) st
theorem orD_s (z d : D) : orD st z (some d) = .ok (.v d) st := rfl
theorem orD_n (z : D) : orD st z none = .ok (.v z) st := rfl
def dgO (z : D) (o : Option (Nat × List (Key × D))) (k : Option Key) : Res W := match o, k with
  | some (_, kvs), some k => orD st z (valD kvs k)
  | _, _ => .stuck
theorem dgO_ (z : D) (n : Nat) (kvs : List (Key × D)) (k : Key) : dgO st z (some (n, kvs)) (some k) = orD st z (valD kvs k) := rfl
theorem opDget_ (x y z : D) : opDget x y z st = dgO st z (dicD st x) (keyD y) := by
  unfold opDget dgO orD; cases dicD st x <;> cases keyD y <;> rfl
theorem keyD_i (i : Int) : keyD (.int i) = some (.inl i) := rfl
theorem keyD_s (x : Str) : keyD (.str x) = some (.inr x) := rfl
def dpO (z : D) (o : Option (Nat × List (Key × D))) (k : Option Key) : Res Unit := match o, k with
  | some (n, kvs), some k => if kvs.length < big then .ok () (st.set n (.dic (putD kvs k z))) else .stuck
  | _, _ => .stuck
theorem dpO_ (z : D) (n : Nat) (kvs : List (Key × D)) (k : Key) (h : kvs.length < 16777216) : dpO st z (some (n, kvs)) (some k) = .ok () (st.set n (.dic (putD kvs k z))) := if_pos h
theorem opDput_ (x y z : D) : opDput x y z st = dpO st z (dicD st x) (keyD y) := rfl
def withX (c : Nat) (fs : List (Nat × D)) : Dl := { Δ with xn := some (c, fs) }
theorem withX_fns (c : Nat) (fs : List (Nat × D)) : (withX Δ c fs).fns = Δ.fns := rfl
theorem withX_cst (c : Nat) (fs : List (Nat × D)) : (withX Δ c fs).cst = Δ.cst := rfl
def kH2 (i : Option Nat) (b t : T) (c : Nat) (fs : List (Nat × D)) (s : Bool) : Out := if s = true then outN i (exSs (withX Δ c fs) b (ρ.wipe i.toList) st) else exH Δ t c fs ρ st
theorem kH2_t (i : Option Nat) (b t : T) (c : Nat) (fs : List (Nat × D)) : kH2 Δ ρ st i b t c fs true = outN i (exSs (withX Δ c fs) b (ρ.wipe i.toList) st) := rfl
theorem kH2_f (i : Option Nat) (b t : T) (c : Nat) (fs : List (Nat × D)) : kH2 Δ ρ st i b t c fs false = exH Δ t c fs ρ st := rfl
def kH (i : Option Nat) (b t : T) (c : Nat) (fs : List (Nat × D)) (s e : Bool) : Out := if e = true then .stuck else kH2 Δ ρ st i b t c fs s
theorem kH_ (i : Option Nat) (b t : T) (c : Nat) (fs : List (Nat × D)) (s : Bool) : kH Δ ρ st i b t c fs s false = kH2 Δ ρ st i b t c fs s := rfl
theorem h_cons (k : Nat) (i : Option Nat) (b t : T) (c : Nat) (fs : List (Nat × D)) : exH Δ (.cons (.hd k i b) t) c fs ρ st = kH Δ ρ st i b t c fs (Δ.sub c k) (Δ.exf c).isEmpty := exH_cons ..
theorem h_nil (c : Nat) (fs : List (Nat × D)) : exH Δ .nil c fs ρ st = .exc c fs ρ st := exH_nil ..
theorem outN_ret (i : Option Nat) (w : W) : outN i (.ret w st) = .ret w st := rfl
theorem outN_nx (i : Option Nat) : outN i (.nx ρ st) = .nx (ρ.wipe i.toList) st := rfl
def ef2 (b : Bool) (d : Option D) : Res W := if b = true then kFld2 st d else .stuck
theorem ef2_ (d : Option D) : ef2 st true d = kFld2 st d := rfl
theorem w_efld (f c : Nat) (fs : List (Nat × D)) : evE (withX Δ c fs) (.efld f) ρ st = ef2 st ((Δ.exf c).contains f) (fs.lookup f) := by
  rw [evE_efld]; unfold ef2 kFld2; rfl
def ei2 (s e : Bool) : Res W := if e = true then .stuck else .ok (.v (.bl s)) st
theorem ei2_ (s : Bool) : ei2 st s false = .ok (.v (.bl s)) st := rfl
theorem w_eisi (c c' : Nat) (fs : List (Nat × D)) : evE (withX Δ c' fs) (.eisi c) ρ st = ei2 st (Δ.sub c' c) (Δ.exf c').isEmpty := by
  rw [evE_eisi]; rfl
def kRa2 (c : Nat) (ds : List D) (is : List Nat) : Out := if ds.length = is.length then .exc c (is.zip ds) ρ st else .stuck
theorem kRa2_ (c : Nat) (ds : List D) (is : List Nat) (h : ds.length = is.length) : kRa2 ρ st c ds is = .exc c (is.zip ds) ρ st := if_pos h
theorem kRa0_ (c : Nat) (ds : List D) : kRa Δ ρ c ds st = kRa2 ρ st c ds (Δ.exf c) := rfl
theorem dec_t (b : Bool) : decide (b = true) = b := by cases b <;> rfl
theorem at_ap (os : Store) (i : Nat) : (st ++ os)[st.length + i]? = os[i]? := by
  rw [List.getElem?_append_right (by omega), Nat.add_sub_cancel_left]
theorem at_ap0 (os : Store) : (st ++ os)[st.length]? = os[0]? := by
  rw [List.getElem?_append_right (by omega), Nat.sub_self]
theorem set_ap (os : Store) (i : Nat) (o : Ob) : (st ++ os).set (st.length + i) o = st ++ os.set i o := by
  rw [List.set_append_right _ _ (by omega), Nat.add_sub_cancel_left]
theorem set_ap0 (os : Store) (o : Ob) : (st ++ os).set st.length o = st ++ os.set 0 o := by
  rw [List.set_append_right _ _ (by omega), Nat.sub_self]
theorem st_0 (o : Ob) : (o :: st)[0]? = some o := rfl
theorem st_1 (o : Ob) (i : Nat) : (o :: st)[i + 1]? = st[i]? := rfl
theorem ss_0 (o x : Ob) : List.set (o :: st) 0 x = x :: st := rfl
theorem ss_1 (o x : Ob) (i : Nat) : List.set (o :: st) (i + 1) x = o :: List.set st i x := rfl
theorem st_ap (a b : Store) : (st ++ a) ++ b = st ++ (a ++ b) := List.append_assoc ..
end
end Fw
namespace Fw
open PySem L2
theorem iD_int (i : Int) : isData (.int i) = true := rfl
theorem iD_str (x : Str) : isData (.str x) = true := rfl
theorem iD_bl (b : Bool) : isData (.bl b) = true := rfl
theorem iD_non : isData .non = true := rfl
theorem iD_tup (ds : List D) : isData (.tup ds) = isDatas ds := rfl
theorem iD_lst (ds : List D) : isData (.lst ds) = isDatas ds := rfl
theorem iD_nil : isDatas [] = true := rfl
theorem iD_cons (d : D) (ds : List D) : isDatas (d :: ds) = (isData d && isDatas ds) := rfl
theorem iD_ints : ∀ l : List Int, isDatas (l.map .int) = true
  | [] => rfl
  | _ :: l => by rw [List.map_cons, isDatas, iD_ints l]; rfl
theorem iD_rep (d : D) : ∀ n : Nat, isDatas (List.replicate n d) = (n == 0 || isData d)
  | 0 => rfl
  | n + 1 => by
    rw [List.replicate_succ, isDatas, iD_rep d n]
    cases isData d <;> cases n <;> rfl
theorem iD_app : ∀ a b : List D, isDatas (a ++ b) = (isDatas a && isDatas b)
  | [], b => by simp [isDatas]
  | x :: a, b => by rw [List.cons_append, isDatas, iD_app a b, isDatas, Bool.and_assoc]
end Fw

/-! ## W3 -/
set_option Elab.async false
set_option linter.all false
set_option maxRecDepth 100000
set_option maxHeartbeats 4000000
/-! Sets of rules for simp. -/
namespace Fw
theorem W_A : type_of% (And.intro @step_N (And.intro @step_T (And.intro @ss_nil (And.intro @ss_retN (And.intro @ss_pass (And.intro @ss_brk (And.intro @exSs_forget (And.intro @seqO_nx (And.intro @seqO_ret (And.intro @seqO_exc (And.intro @seqO_bk (And.intro @stp_ok (And.intro @stp_exc (And.intro @bind_ok (And.intro @bind_exc (And.intro @evE_var (And.intro @evE_int (And.intro @evE_str (And.intro @evE_bl (And.intro @evE_non (And.intro @evE_cst (And.intro @evE_fnv (And.intro @evE_dnew (And.intro @evEs_nil (And.intro @evT_bl (And.intro @evP_no (And.intro @get_zero (And.intro @get_succ (And.intro @put_zero (And.intro @put_succ (And.intro @wipe_nil (And.intro @wipe_cons (And.intro @set_c0 (And.intro @set_c1 (And.intro @W.d_v (And.intro @W.d_fr (And.intro @sat_ok (And.intro @sat_exc (And.intro @sat_bind (And.intro @osat_nx (And.intro @osat_ret (And.intro @osat_bk (And.intro @osat_exc (And.intro @osat_stp (And.intro @osat_seq (And.intro @satK_eq (And.intro @satO_eq (And.intro @seqN_eq (And.intro @excO_eq (And.intro @fin0_eq (And.intro @finR_eq (And.intro @finX_eq (And.intro @fin_d (And.intro @fin_ap (And.intro @post_nx (And.intro @post_ret (And.intro @post_bk (And.intro @post_exc (And.intro @andR_t (And.intro @andR_f (And.intro @andR_ok (And.intro @orR_t (And.intro @orR_f (And.intro @orR_ok (And.intro @truR_bl (And.intro @truR_non (And.intro @truR_int (And.intro @truR_tup (And.intro @truR_lst (And.intro @puts_cons' (And.intro @puts_nil' (And.intro @kBin2_ (And.intro @kBin_ (And.intro @w_bin (And.intro @kNeg_ (And.intro @w_neg (And.intro @kNot2_ (And.intro @kNot_ (And.intro @w_not (And.intro @kAnd2_t (And.intro @kAnd2_f (And.intro @kAnd_ (And.intro @w_and (And.intro @kOr2_t (And.intro @kOr2_f (And.intro @kOr_ (And.intro @w_or (And.intro @kV_ (And.intro @kCmp2_ (And.intro @kCmp_ (And.intro @w_cmp (And.intro @kBl_ (And.intro @kCB2_ (And.intro @kCB_ (And.intro @v_cmp (And.intro @kCh3_ (And.intro @kCh2_ (And.intro @kCh_ (And.intro @v_chain (And.intro @w_chain (And.intro @kIte_t (And.intro @kIte_f (And.intro @w_ite (And.intro @kTup_ (And.intro @kLst_ (And.intro @w_tup (And.intro @w_lst (And.intro @w_itN (And.intro @w_call (And.intro @kCv_ (And.intro @w_callv (And.intro @kRev_ (And.intro @w_rev (And.intro @newR_ (And.intro @kNew_ (And.intro @w_new (And.intro @kMe2_ (And.intro @w_meth (And.intro @w_blt (And.intro @kTy_tt (And.intro @kTy_ti (And.intro @kTy_tl (And.intro @kTy_tn (And.intro @kTy_tb (And.intro @kTy_ts (And.intro @kTy_ii (And.intro @kTy_ib (And.intro @kTy_in_ (And.intro @kTy_it (And.intro @kTy_il (And.intro @kTy_is_ (And.intro @kTy_bi (And.intro @kTy_bb (And.intro @kTy_bn (And.intro @kTy_bt (And.intro @kTy_bl_ (And.intro @kTy_bs (And.intro @kTy_ss (And.intro @kTy_si (And.intro @kTy_sn (And.intro @kTy_st_ (And.intro @kTy_sl_ (And.intro @kTy_sb (And.intro @w_isi (And.intro @w_bm (And.intro @kIx2_ (And.intro @kIx_ (And.intro @w_idx (And.intro @kSl3_ (And.intro @kSl2_ (And.intro @kSl_ (And.intro @w_sl (And.intro @w_fld (And.intro @kSome_ (And.intro @kLc2_t (And.intro @kLc2_f (And.intro @lcS_N (And.intro @lcS_T (And.intro @kFr_ (And.intro @kLc_ (And.intro @w_lc (And.intro @w_lcq (And.intro @allR_ (And.intro @w_alloc (And.intro @kDg3_ (And.intro @kDg2_ (And.intro @w_dget (And.intro @kDs3_ (And.intro @kDs2_ (And.intro @w_dset (And.intro @kCo2_ (And.intro @kCo_ (And.intro @ws_cons (And.intro @kNb_ (And.intro @v_not (And.intro @kVa_ (And.intro @kVo_ (And.intro @v_and (And.intro @v_or (And.intro @kTru_ (And.intro @v_var (And.intro @v_int (And.intro @v_cst (And.intro @v_idx (And.intro @v_sl (And.intro @v_call (And.intro @v_callv (And.intro @v_meth (And.intro @v_blt (And.intro @v_isi (And.intro @v_fld (And.intro @v_bin (And.intro @v_eisi (And.intro @v_ite (And.intro @v_dget (And.intro @v_efld (And.intro @v_tup (And.intro @v_lst (And.intro @kInt_ (And.intro @p_var (And.intro @p_int (And.intro @p_cst (And.intro @p_idx (And.intro @p_call (And.intro @p_meth (And.intro @p_blt (And.intro @p_fld (And.intro @p_bin (And.intro @p_neg (And.intro @p_ite (And.intro @kIt_t (And.intro @kIt_l (And.intro @kIt_f (And.intro @i_itE (And.intro @kZi2_ (And.intro @kZi_ (And.intro @i_itZ (And.intro @kR1_ (And.intro @i_itR1 (And.intro @kR22_ (And.intro @kR2_ (And.intro @i_itR2 (And.intro @kR33_ (And.intro @kR32_ (And.intro @kR3_ (And.intro @i_itR3 (And.intro @kSet_ (And.intro @z_set (And.intro @kPar_ (And.intro @z_par (And.intro @kUnp_ (And.intro @z_unp (And.intro @kNx_ (And.intro @kFs2_ (And.intro @kFs_ (And.intro @z_fset (And.intro @kUF4_ (And.intro @kUF3_ (And.intro @kUF2_ (And.intro @kUF_ (And.intro @z_unpF (And.intro @kIs3_ (And.intro @kIs2_ (And.intro @kIs_ (And.intro @z_iset (And.intro @kDp3_ (And.intro @kDp2_ (And.intro @kDp_ (And.intro @z_dput (And.intro @kIa5_ (And.intro @kIa4_ (And.intro @kIa3_ (And.intro @kIa2_ (And.intro @kIa_ (And.intro @z_iaug (And.intro @kAu2_ (And.intro @kAu3_ (And.intro @kAu_ (And.intro @z_aug (And.intro @kFa2_ (And.intro @z_faug (And.intro @z_ex (And.intro @z_ret (And.intro @kIf_t (And.intro @kIf_f (And.intro @z_if (And.intro @kFor_ (And.intro @z_for (And.intro @z_wh (And.intro @z_rais (And.intro @tryO_exc (And.intro @tryO_nx (And.intro @tryO_ret (And.intro @satH_ (And.intro @osat_try (And.intro @z_try (And.intro @w_sit (And.intro @kSit_ (And.intro @i_itEn (And.intro @kEn_t (And.intro @kEn_l (@kEn_f)))))))))))))))))))))))))))))))))))))))))))))))))))))))))))))))))))))))))))))))))))))))))))))))))))))))))))))))))))))))))))))))))))))))))))))))))))))))))))))))))))))))))))))))))))))))))))))))))))))))))))))))))))))))))))))))))))))))))))))))))))))))))))))))))))))))))))))))))))))))))) := And.intro @step_N (And.intro @step_T (And.intro @ss_nil (And.intro @ss_retN (And.intro @ss_pass (And.intro @ss_brk (And.intro @exSs_forget (And.intro @seqO_nx (And.intro @seqO_ret (And.intro @seqO_exc (And.intro @seqO_bk (And.intro @stp_ok (And.intro @stp_exc (And.intro @bind_ok (And.intro @bind_exc (And.intro @evE_var (And.intro @evE_int (And.intro @evE_str (And.intro @evE_bl (And.intro @evE_non (And.intro @evE_cst (And.intro @evE_fnv (And.intro @evE_dnew (And.intro @evEs_nil (And.intro @evT_bl (And.intro @evP_no (And.intro @get_zero (And.intro @get_succ (And.intro @put_zero (And.intro @put_succ (And.intro @wipe_nil (And.intro @wipe_cons (And.intro @set_c0 (And.intro @set_c1 (And.intro @W.d_v (And.intro @W.d_fr (And.intro @sat_ok (And.intro @sat_exc (And.intro @sat_bind (And.intro @osat_nx (And.intro @osat_ret (And.intro @osat_bk (And.intro @osat_exc (And.intro @osat_stp (And.intro @osat_seq (And.intro @satK_eq (And.intro @satO_eq (And.intro @seqN_eq (And.intro @excO_eq (And.intro @fin0_eq (And.intro @finR_eq (And.intro @finX_eq (And.intro @fin_d (And.intro @fin_ap (And.intro @post_nx (And.intro @post_ret (And.intro @post_bk (And.intro @post_exc (And.intro @andR_t (And.intro @andR_f (And.intro @andR_ok (And.intro @orR_t (And.intro @orR_f (And.intro @orR_ok (And.intro @truR_bl (And.intro @truR_non (And.intro @truR_int (And.intro @truR_tup (And.intro @truR_lst (And.intro @puts_cons' (And.intro @puts_nil' (And.intro @kBin2_ (And.intro @kBin_ (And.intro @w_bin (And.intro @kNeg_ (And.intro @w_neg (And.intro @kNot2_ (And.intro @kNot_ (And.intro @w_not (And.intro @kAnd2_t (And.intro @kAnd2_f (And.intro @kAnd_ (And.intro @w_and (And.intro @kOr2_t (And.intro @kOr2_f (And.intro @kOr_ (And.intro @w_or (And.intro @kV_ (And.intro @kCmp2_ (And.intro @kCmp_ (And.intro @w_cmp (And.intro @kBl_ (And.intro @kCB2_ (And.intro @kCB_ (And.intro @v_cmp (And.intro @kCh3_ (And.intro @kCh2_ (And.intro @kCh_ (And.intro @v_chain (And.intro @w_chain (And.intro @kIte_t (And.intro @kIte_f (And.intro @w_ite (And.intro @kTup_ (And.intro @kLst_ (And.intro @w_tup (And.intro @w_lst (And.intro @w_itN (And.intro @w_call (And.intro @kCv_ (And.intro @w_callv (And.intro @kRev_ (And.intro @w_rev (And.intro @newR_ (And.intro @kNew_ (And.intro @w_new (And.intro @kMe2_ (And.intro @w_meth (And.intro @w_blt (And.intro @kTy_tt (And.intro @kTy_ti (And.intro @kTy_tl (And.intro @kTy_tn (And.intro @kTy_tb (And.intro @kTy_ts (And.intro @kTy_ii (And.intro @kTy_ib (And.intro @kTy_in_ (And.intro @kTy_it (And.intro @kTy_il (And.intro @kTy_is_ (And.intro @kTy_bi (And.intro @kTy_bb (And.intro @kTy_bn (And.intro @kTy_bt (And.intro @kTy_bl_ (And.intro @kTy_bs (And.intro @kTy_ss (And.intro @kTy_si (And.intro @kTy_sn (And.intro @kTy_st_ (And.intro @kTy_sl_ (And.intro @kTy_sb (And.intro @w_isi (And.intro @w_bm (And.intro @kIx2_ (And.intro @kIx_ (And.intro @w_idx (And.intro @kSl3_ (And.intro @kSl2_ (And.intro @kSl_ (And.intro @w_sl (And.intro @w_fld (And.intro @kSome_ (And.intro @kLc2_t (And.intro @kLc2_f (And.intro @lcS_N (And.intro @lcS_T (And.intro @kFr_ (And.intro @kLc_ (And.intro @w_lc (And.intro @w_lcq (And.intro @allR_ (And.intro @w_alloc (And.intro @kDg3_ (And.intro @kDg2_ (And.intro @w_dget (And.intro @kDs3_ (And.intro @kDs2_ (And.intro @w_dset (And.intro @kCo2_ (And.intro @kCo_ (And.intro @ws_cons (And.intro @kNb_ (And.intro @v_not (And.intro @kVa_ (And.intro @kVo_ (And.intro @v_and (And.intro @v_or (And.intro @kTru_ (And.intro @v_var (And.intro @v_int (And.intro @v_cst (And.intro @v_idx (And.intro @v_sl (And.intro @v_call (And.intro @v_callv (And.intro @v_meth (And.intro @v_blt (And.intro @v_isi (And.intro @v_fld (And.intro @v_bin (And.intro @v_eisi (And.intro @v_ite (And.intro @v_dget (And.intro @v_efld (And.intro @v_tup (And.intro @v_lst (And.intro @kInt_ (And.intro @p_var (And.intro @p_int (And.intro @p_cst (And.intro @p_idx (And.intro @p_call (And.intro @p_meth (And.intro @p_blt (And.intro @p_fld (And.intro @p_bin (And.intro @p_neg (And.intro @p_ite (And.intro @kIt_t (And.intro @kIt_l (And.intro @kIt_f (And.intro @i_itE (And.intro @kZi2_ (And.intro @kZi_ (And.intro @i_itZ (And.intro @kR1_ (And.intro @i_itR1 (And.intro @kR22_ (And.intro @kR2_ (And.intro @i_itR2 (And.intro @kR33_ (And.intro @kR32_ (And.intro @kR3_ (And.intro @i_itR3 (And.intro @kSet_ (And.intro @z_set (And.intro @kPar_ (And.intro @z_par (And.intro @kUnp_ (And.intro @z_unp (And.intro @kNx_ (And.intro @kFs2_ (And.intro @kFs_ (And.intro @z_fset (And.intro @kUF4_ (And.intro @kUF3_ (And.intro @kUF2_ (And.intro @kUF_ (And.intro @z_unpF (And.intro @kIs3_ (And.intro @kIs2_ (And.intro @kIs_ (And.intro @z_iset (And.intro @kDp3_ (And.intro @kDp2_ (And.intro @kDp_ (And.intro @z_dput (And.intro @kIa5_ (And.intro @kIa4_ (And.intro @kIa3_ (And.intro @kIa2_ (And.intro @kIa_ (And.intro @z_iaug (And.intro @kAu2_ (And.intro @kAu3_ (And.intro @kAu_ (And.intro @z_aug (And.intro @kFa2_ (And.intro @z_faug (And.intro @z_ex (And.intro @z_ret (And.intro @kIf_t (And.intro @kIf_f (And.intro @z_if (And.intro @kFor_ (And.intro @z_for (And.intro @z_wh (And.intro @z_rais (And.intro @tryO_exc (And.intro @tryO_nx (And.intro @tryO_ret (And.intro @satH_ (And.intro @osat_try (And.intro @z_try (And.intro @w_sit (And.intro @kSit_ (And.intro @i_itEn (And.intro @kEn_t (And.intro @kEn_l (@kEn_f)))))))))))))))))))))))))))))))))))))))))))))))))))))))))))))))))))))))))))))))))))))))))))))))))))))))))))))))))))))))))))))))))))))))))))))))))))))))))))))))))))))))))))))))))))))))))))))))))))))))))))))))))))))))))))))))))))))))))))))))))))))))))))))))))))))))))))))))))))))))))
theorem W_B : type_of% (And.intro @q_add (And.intro @q_sub (And.intro @q_mul (And.intro @q_div (And.intro @q_mod (And.intro @q_addT (And.intro @q_addL (And.intro @q_mulT1 (And.intro @q_mulL1 (And.intro @t_lt (And.intro @t_le (And.intro @t_gt (And.intro @t_ge (And.intro @u_lt (And.intro @u_le (And.intro @u_gt (And.intro @u_ge (And.intro @u_eq (And.intro @u_ne (And.intro @t_eq (And.intro @t_ne (And.intro @u_is0 (And.intro @u_is1 (And.intro @u_is2 (And.intro @u_is3 (And.intro @u_is4 (And.intro @u_is5 (And.intro @u_is6 (And.intro @u_in0 (And.intro @u_in1 (And.intro @u_in2 (And.intro @u_in3 (And.intro @u_in4 (And.intro @u_in5 (And.intro @u_in6 (And.intro @t_is0 (And.intro @t_is1 (And.intro @t_is2 (And.intro @t_is3 (And.intro @t_is4 (And.intro @t_is5 (And.intro @t_is6 (And.intro @t_in0 (And.intro @t_in1 (And.intro @t_in2 (And.intro @t_in3 (And.intro @t_in4 (And.intro @t_in5 (And.intro @t_in6 (And.intro @o_len1 (And.intro @o_len2 (And.intro @o_tup1 (And.intro @o_tup2 (And.intro @o_lst1 (And.intro @o_lst2 (And.intro @o_int1 (And.intro @o_int2 (And.intro @o_abs (And.intro @o_max2 (And.intro @o_min2 (And.intro @o_sum1 (And.intro @o_sum2 (And.intro @s_tup (And.intro @s_scr (And.intro @s_lst (And.intro @rv_tup (And.intro @rv_lst (And.intro @zp_tt (And.intro @zp_ll (And.intro @x_tup (And.intro @x_lst (And.intro @ix_0 (And.intro @ix_1 (And.intro @ix_2 (And.intro @ix_3 (And.intro @ix_4 (And.intro @cut_all (And.intro @cut_ii (And.intro @cut_ni (And.intro @cut_in (And.intro @a_add (And.intro @a_sub (And.intro @a_mul (And.intro @a_div (@toB_ok))))))))))))))))))))))))))))))))))))))))))))))))))))))))))))))))))))))))))))))))))))) := And.intro @q_add (And.intro @q_sub (And.intro @q_mul (And.intro @q_div (And.intro @q_mod (And.intro @q_addT (And.intro @q_addL (And.intro @q_mulT1 (And.intro @q_mulL1 (And.intro @t_lt (And.intro @t_le (And.intro @t_gt (And.intro @t_ge (And.intro @u_lt (And.intro @u_le (And.intro @u_gt (And.intro @u_ge (And.intro @u_eq (And.intro @u_ne (And.intro @t_eq (And.intro @t_ne (And.intro @u_is0 (And.intro @u_is1 (And.intro @u_is2 (And.intro @u_is3 (And.intro @u_is4 (And.intro @u_is5 (And.intro @u_is6 (And.intro @u_in0 (And.intro @u_in1 (And.intro @u_in2 (And.intro @u_in3 (And.intro @u_in4 (And.intro @u_in5 (And.intro @u_in6 (And.intro @t_is0 (And.intro @t_is1 (And.intro @t_is2 (And.intro @t_is3 (And.intro @t_is4 (And.intro @t_is5 (And.intro @t_is6 (And.intro @t_in0 (And.intro @t_in1 (And.intro @t_in2 (And.intro @t_in3 (And.intro @t_in4 (And.intro @t_in5 (And.intro @t_in6 (And.intro @o_len1 (And.intro @o_len2 (And.intro @o_tup1 (And.intro @o_tup2 (And.intro @o_lst1 (And.intro @o_lst2 (And.intro @o_int1 (And.intro @o_int2 (And.intro @o_abs (And.intro @o_max2 (And.intro @o_min2 (And.intro @o_sum1 (And.intro @o_sum2 (And.intro @s_tup (And.intro @s_scr (And.intro @s_lst (And.intro @rv_tup (And.intro @rv_lst (And.intro @zp_tt (And.intro @zp_ll (And.intro @x_tup (And.intro @x_lst (And.intro @ix_0 (And.intro @ix_1 (And.intro @ix_2 (And.intro @ix_3 (And.intro @ix_4 (And.intro @cut_all (And.intro @cut_ii (And.intro @cut_ni (And.intro @cut_in (And.intro @a_add (And.intro @a_sub (And.intro @a_mul (And.intro @a_div (@toB_ok))))))))))))))))))))))))))))))))))))))))))))))))))))))))))))))))))))))))))))))))))))
theorem W_C : type_of% (And.intro @and_self (And.intro @and_true (And.intro @true_and (And.intro @decide_true (And.intro @decide_false (And.intro @Bool.not_true (And.intro @Bool.not_false (And.intro @Bool.and_true (And.intro @Bool.true_and (And.intro @Bool.and_false (And.intro @Bool.false_and (And.intro @Bool.or_true (And.intro @Bool.true_or (And.intro @Bool.or_false (And.intro @Bool.false_or (And.intro @Bool.false_eq_true (And.intro @not_true_eq_false (And.intro @not_false_eq_true (And.intro @Int.toNat_natCast (And.intro @Int.natCast_add (@Int.cast_ofNat_Int))))))))))))))))))))) := And.intro @and_self (And.intro @and_true (And.intro @true_and (And.intro @decide_true (And.intro @decide_false (And.intro @Bool.not_true (And.intro @Bool.not_false (And.intro @Bool.and_true (And.intro @Bool.true_and (And.intro @Bool.and_false (And.intro @Bool.false_and (And.intro @Bool.or_true (And.intro @Bool.true_or (And.intro @Bool.or_false (And.intro @Bool.false_or (And.intro @Bool.false_eq_true (And.intro @not_true_eq_false (And.intro @not_false_eq_true (And.intro @Int.toNat_natCast (And.intro @Int.natCast_add (@Int.cast_ofNat_Int))))))))))))))))))))
theorem W_D : type_of% (And.intro @kMe4_ (And.intro @kMe3_ (And.intro @kMe0_ (And.intro @gF3_ (And.intro @gF2_ (And.intro @getF_ (And.intro @kFld2_ (And.intro @kFld0_ (And.intro @sF3_ (And.intro @sF2_ (And.intro @setF_ (And.intro @clsO_ (And.intro @clsId_ (And.intro @kFa9_ (And.intro @kFa0_ (And.intro @kFa8_ (And.intro @kFa30_ (And.intro @sqO_ (And.intro @seqL_ (And.intro @lenO_ (And.intro @lenO_d (And.intro @o_lenR (And.intro @tupQ_ (And.intro @o_tupR (And.intro @lstQ_ (And.intro @o_lstR (And.intro @kvI_ (And.intro @ixO_ (And.intro @ixO_d (And.intro @x_refO (And.intro @ixS_ (And.intro @x_refS (And.intro @slO_ (And.intro @s_refO (And.intro @rvO_ (And.intro @rv_refO (And.intro @adO_ (And.intro @q_addRL0 (And.intro @q_addLR0 (And.intro @q_addRR (And.intro @apO_ (And.intro @o_apR (And.intro @isSo_ (And.intro @bmO_ (And.intro @kBm2_ (And.intro @kBm0_ (And.intro @bmI_ (And.intro @o_bl (And.intro @seO_ (And.intro @opSet_ (And.intro @atP_ (And.intro @atO_ (And.intro @opAt_ (And.intro @agO_ (And.intro @a_lstR (And.intro @suO_ (And.intro @o_sumR (And.intro @dDO_ (And.intro @dicD_ (And.intro @gu_ (And.intro @kDg0_ (And.intro @kDs0_ (And.intro @orD_s (And.intro @orD_n (And.intro @dgO_ (And.intro @opDget_ (And.intro @dsQ_s (And.intro @dsQ_n (And.intro @dsO_ (And.intro @opDset_ (And.intro @sitO_ (And.intro @opSit_ (And.intro @srK_ (And.intro @srO_d (And.intro @srO_l (And.intro @o_srtR (And.intro @o_srtL (And.intro @keyD_i (And.intro @keyD_s (And.intro @dpO_ (And.intro @opDput_ (And.intro @withX_fns (And.intro @withX_cst (And.intro @kH2_t (And.intro @kH2_f (And.intro @kH_ (And.intro @h_cons (And.intro @h_nil (And.intro @outN_ret (And.intro @outN_nx (And.intro @ef2_ (And.intro @w_efld (And.intro @ei2_ (And.intro @w_eisi (And.intro @kRa2_ (And.intro @kRa0_ (And.intro @dec_t (And.intro @at_ap (And.intro @at_ap0 (And.intro @set_ap (And.intro @set_ap0 (And.intro @st_0 (And.intro @st_1 (And.intro @ss_0 (And.intro @ss_1 (@st_ap)))))))))))))))))))))))))))))))))))))))))))))))))))))))))))))))))))))))))))))))))))))))))))))))))))))))))) := And.intro @kMe4_ (And.intro @kMe3_ (And.intro @kMe0_ (And.intro @gF3_ (And.intro @gF2_ (And.intro @getF_ (And.intro @kFld2_ (And.intro @kFld0_ (And.intro @sF3_ (And.intro @sF2_ (And.intro @setF_ (And.intro @clsO_ (And.intro @clsId_ (And.intro @kFa9_ (And.intro @kFa0_ (And.intro @kFa8_ (And.intro @kFa30_ (And.intro @sqO_ (And.intro @seqL_ (And.intro @lenO_ (And.intro @lenO_d (And.intro @o_lenR (And.intro @tupQ_ (And.intro @o_tupR (And.intro @lstQ_ (And.intro @o_lstR (And.intro @kvI_ (And.intro @ixO_ (And.intro @ixO_d (And.intro @x_refO (And.intro @ixS_ (And.intro @x_refS (And.intro @slO_ (And.intro @s_refO (And.intro @rvO_ (And.intro @rv_refO (And.intro @adO_ (And.intro @q_addRL0 (And.intro @q_addLR0 (And.intro @q_addRR (And.intro @apO_ (And.intro @o_apR (And.intro @isSo_ (And.intro @bmO_ (And.intro @kBm2_ (And.intro @kBm0_ (And.intro @bmI_ (And.intro @o_bl (And.intro @seO_ (And.intro @opSet_ (And.intro @atP_ (And.intro @atO_ (And.intro @opAt_ (And.intro @agO_ (And.intro @a_lstR (And.intro @suO_ (And.intro @o_sumR (And.intro @dDO_ (And.intro @dicD_ (And.intro @gu_ (And.intro @kDg0_ (And.intro @kDs0_ (And.intro @orD_s (And.intro @orD_n (And.intro @dgO_ (And.intro @opDget_ (And.intro @dsQ_s (And.intro @dsQ_n (And.intro @dsO_ (And.intro @opDset_ (And.intro @sitO_ (And.intro @opSit_ (And.intro @srK_ (And.intro @srO_d (And.intro @srO_l (And.intro @o_srtR (And.intro @o_srtL (And.intro @keyD_i (And.intro @keyD_s (And.intro @dpO_ (And.intro @opDput_ (And.intro @withX_fns (And.intro @withX_cst (And.intro @kH2_t (And.intro @kH2_f (And.intro @kH_ (And.intro @h_cons (And.intro @h_nil (And.intro @outN_ret (And.intro @outN_nx (And.intro @ef2_ (And.intro @w_efld (And.intro @ei2_ (And.intro @w_eisi (And.intro @kRa2_ (And.intro @kRa0_ (And.intro @dec_t (And.intro @at_ap (And.intro @at_ap0 (And.intro @set_ap (And.intro @set_ap0 (And.intro @st_0 (And.intro @st_1 (And.intro @ss_0 (And.intro @ss_1 (@st_ap)))))))))))))))))))))))))))))))))))))))))))))))))))))))))))))))))))))))))))))))))))))))))))))))))))))))))
theorem W_E : type_of% (And.intro @iD_int (And.intro @iD_str (And.intro @iD_bl (And.intro @iD_non (And.intro @iD_tup (And.intro @iD_lst (And.intro @iD_nil (And.intro @iD_cons (And.intro @iD_ints (And.intro @iD_rep (@iD_app))))))))))) := And.intro @iD_int (And.intro @iD_str (And.intro @iD_bl (And.intro @iD_non (And.intro @iD_tup (And.intro @iD_lst (And.intro @iD_nil (And.intro @iD_cons (And.intro @iD_ints (And.intro @iD_rep (@iD_app))))))))))
end Fw

/-! ## G00 -/
set_option Elab.async false
set_option linter.all false
set_option maxRecDepth 100000
set_option maxHeartbeats 4000000
/-! k00: facts for simp. -/
namespace Fw.K00
open PySem L2
theorem xf_1 : Δ.exf 1 = [0] := rfl
theorem xe_1 : ([0] : List Nat).isEmpty = false := rfl
theorem xc_1_0 : ([0] : List Nat).contains 0 = true := rfl
theorem su_1_0 : Δ.sub 1 0 = true := rfl
theorem su_1_1 : Δ.sub 1 1 = true := rfl
theorem su_1_2 : Δ.sub 1 2 = false := rfl
theorem su_1_3 : Δ.sub 1 3 = false := rfl
theorem su_1_4 : Δ.sub 1 4 = false := rfl
theorem su_1_5 : Δ.sub 1 5 = false := rfl
theorem su_1_6 : Δ.sub 1 6 = false := rfl
theorem su_1_7 : Δ.sub 1 7 = false := rfl
theorem su_1_8 : Δ.sub 1 8 = false := rfl
theorem xf_2 : Δ.exf 2 = [0] := rfl
theorem xe_2 : ([0] : List Nat).isEmpty = false := rfl
theorem xc_2_0 : ([0] : List Nat).contains 0 = true := rfl
theorem su_2_0 : Δ.sub 2 0 = true := rfl
theorem su_2_1 : Δ.sub 2 1 = true := rfl
theorem su_2_2 : Δ.sub 2 2 = true := rfl
theorem su_2_3 : Δ.sub 2 3 = false := rfl
theorem su_2_4 : Δ.sub 2 4 = false := rfl
theorem su_2_5 : Δ.sub 2 5 = false := rfl
theorem su_2_6 : Δ.sub 2 6 = false := rfl
theorem su_2_7 : Δ.sub 2 7 = false := rfl
theorem su_2_8 : Δ.sub 2 8 = false := rfl
theorem xf_3 : Δ.exf 3 = [0] := rfl
theorem xe_3 : ([0] : List Nat).isEmpty = false := rfl
theorem xc_3_0 : ([0] : List Nat).contains 0 = true := rfl
theorem su_3_0 : Δ.sub 3 0 = true := rfl
theorem su_3_1 : Δ.sub 3 1 = true := rfl
theorem su_3_2 : Δ.sub 3 2 = false := rfl
theorem su_3_3 : Δ.sub 3 3 = true := rfl
theorem su_3_4 : Δ.sub 3 4 = false := rfl
theorem su_3_5 : Δ.sub 3 5 = false := rfl
theorem su_3_6 : Δ.sub 3 6 = false := rfl
theorem su_3_7 : Δ.sub 3 7 = false := rfl
theorem su_3_8 : Δ.sub 3 8 = false := rfl
theorem xf_4 : Δ.exf 4 = [0] := rfl
theorem xe_4 : ([0] : List Nat).isEmpty = false := rfl
theorem xc_4_0 : ([0] : List Nat).contains 0 = true := rfl
theorem su_4_0 : Δ.sub 4 0 = true := rfl
theorem su_4_1 : Δ.sub 4 1 = true := rfl
theorem su_4_2 : Δ.sub 4 2 = false := rfl
theorem su_4_3 : Δ.sub 4 3 = false := rfl
theorem su_4_4 : Δ.sub 4 4 = true := rfl
theorem su_4_5 : Δ.sub 4 5 = false := rfl
theorem su_4_6 : Δ.sub 4 6 = false := rfl
theorem su_4_7 : Δ.sub 4 7 = false := rfl
theorem su_4_8 : Δ.sub 4 8 = false := rfl
theorem xf_5 : Δ.exf 5 = [0] := rfl
theorem xe_5 : ([0] : List Nat).isEmpty = false := rfl
theorem xc_5_0 : ([0] : List Nat).contains 0 = true := rfl
theorem su_5_0 : Δ.sub 5 0 = true := rfl
theorem su_5_1 : Δ.sub 5 1 = true := rfl
theorem su_5_2 : Δ.sub 5 2 = false := rfl
theorem su_5_3 : Δ.sub 5 3 = false := rfl
theorem su_5_4 : Δ.sub 5 4 = false := rfl
theorem su_5_5 : Δ.sub 5 5 = true := rfl
theorem su_5_6 : Δ.sub 5 6 = false := rfl
theorem su_5_7 : Δ.sub 5 7 = false := rfl
theorem su_5_8 : Δ.sub 5 8 = false := rfl
theorem xf_6 : Δ.exf 6 = [1] := rfl
theorem xe_6 : ([1] : List Nat).isEmpty = false := rfl
theorem xc_6_1 : ([1] : List Nat).contains 1 = true := rfl
theorem su_6_0 : Δ.sub 6 0 = true := rfl
theorem su_6_1 : Δ.sub 6 1 = false := rfl
theorem su_6_2 : Δ.sub 6 2 = false := rfl
theorem su_6_3 : Δ.sub 6 3 = false := rfl
theorem su_6_4 : Δ.sub 6 4 = false := rfl
theorem su_6_5 : Δ.sub 6 5 = false := rfl
theorem su_6_6 : Δ.sub 6 6 = true := rfl
theorem su_6_7 : Δ.sub 6 7 = false := rfl
theorem su_6_8 : Δ.sub 6 8 = false := rfl
theorem xf_7 : Δ.exf 7 = [1, 0] := rfl
theorem xe_7 : ([1, 0] : List Nat).isEmpty = false := rfl
theorem xc_7_1 : ([1, 0] : List Nat).contains 1 = true := rfl
theorem xc_7_0 : ([1, 0] : List Nat).contains 0 = true := rfl
theorem su_7_0 : Δ.sub 7 0 = true := rfl
theorem su_7_1 : Δ.sub 7 1 = false := rfl
theorem su_7_2 : Δ.sub 7 2 = false := rfl
theorem su_7_3 : Δ.sub 7 3 = false := rfl
theorem su_7_4 : Δ.sub 7 4 = false := rfl
theorem su_7_5 : Δ.sub 7 5 = false := rfl
theorem su_7_6 : Δ.sub 7 6 = false := rfl
theorem su_7_7 : Δ.sub 7 7 = true := rfl
theorem su_7_8 : Δ.sub 7 8 = false := rfl
theorem xf_8 : Δ.exf 8 = [2] := rfl
theorem xe_8 : ([2] : List Nat).isEmpty = false := rfl
theorem xc_8_2 : ([2] : List Nat).contains 2 = true := rfl
theorem su_8_0 : Δ.sub 8 0 = true := rfl
theorem su_8_1 : Δ.sub 8 1 = false := rfl
theorem su_8_2 : Δ.sub 8 2 = false := rfl
theorem su_8_3 : Δ.sub 8 3 = false := rfl
theorem su_8_4 : Δ.sub 8 4 = false := rfl
theorem su_8_5 : Δ.sub 8 5 = false := rfl
theorem su_8_6 : Δ.sub 8 6 = false := rfl
theorem su_8_7 : Δ.sub 8 7 = false := rfl
theorem su_8_8 : Δ.sub 8 8 = true := rfl
theorem cs_0 : Δ.cst 0 = (.int 1200) := rfl
theorem cs_1 : Δ.cst 1 = (.int 256) := rfl
theorem cs_2 : Δ.cst 2 = (.int 34) := rfl
theorem cs_3 : Δ.cst 3 = (.int 3) := rfl
theorem cs_4 : Δ.cst 4 = (.int 512) := rfl
theorem cs_5 : Δ.cst 5 = (.int 12) := rfl
theorem cs_6 : Δ.cst 6 = (.int 300) := rfl
theorem cs_7 : Δ.cst 7 = (.int 4095) := rfl
theorem cs_8 : Δ.cst 8 = (.int 6000) := rfl
theorem cs_9 : Δ.cst 9 = (.int 24) := rfl
theorem cs_10 : Δ.cst 10 = (.int 12) := rfl
theorem cs_11 : Δ.cst 11 = (.int 128) := rfl
theorem cs_12 : Δ.cst 12 = (.int 200) := rfl
theorem cs_13 : Δ.cst 13 = (.int 20000) := rfl
theorem cs_14 : Δ.cst 14 = (.int 1020) := rfl
theorem W_X : type_of% (And.intro @xf_1 (And.intro @xe_1 (And.intro @xc_1_0 (And.intro @su_1_0 (And.intro @su_1_1 (And.intro @su_1_2 (And.intro @su_1_3 (And.intro @su_1_4 (And.intro @su_1_5 (And.intro @su_1_6 (And.intro @su_1_7 (And.intro @su_1_8 (And.intro @xf_2 (And.intro @xe_2 (And.intro @xc_2_0 (And.intro @su_2_0 (And.intro @su_2_1 (And.intro @su_2_2 (And.intro @su_2_3 (And.intro @su_2_4 (And.intro @su_2_5 (And.intro @su_2_6 (And.intro @su_2_7 (And.intro @su_2_8 (And.intro @xf_3 (And.intro @xe_3 (And.intro @xc_3_0 (And.intro @su_3_0 (And.intro @su_3_1 (And.intro @su_3_2 (And.intro @su_3_3 (And.intro @su_3_4 (And.intro @su_3_5 (And.intro @su_3_6 (And.intro @su_3_7 (And.intro @su_3_8 (And.intro @xf_4 (And.intro @xe_4 (And.intro @xc_4_0 (And.intro @su_4_0 (And.intro @su_4_1 (And.intro @su_4_2 (And.intro @su_4_3 (And.intro @su_4_4 (And.intro @su_4_5 (And.intro @su_4_6 (And.intro @su_4_7 (And.intro @su_4_8 (And.intro @xf_5 (And.intro @xe_5 (And.intro @xc_5_0 (And.intro @su_5_0 (And.intro @su_5_1 (And.intro @su_5_2 (And.intro @su_5_3 (And.intro @su_5_4 (And.intro @su_5_5 (And.intro @su_5_6 (And.intro @su_5_7 (And.intro @su_5_8 (And.intro @xf_6 (And.intro @xe_6 (And.intro @xc_6_1 (And.intro @su_6_0 (And.intro @su_6_1 (And.intro @su_6_2 (And.intro @su_6_3 (And.intro @su_6_4 (And.intro @su_6_5 (And.intro @su_6_6 (And.intro @su_6_7 (And.intro @su_6_8 (And.intro @xf_7 (And.intro @xe_7 (And.intro @xc_7_1 (And.intro @xc_7_0 (And.intro @su_7_0 (And.intro @su_7_1 (And.intro @su_7_2 (And.intro @su_7_3 (And.intro @su_7_4 (And.intro @su_7_5 (And.intro @su_7_6 (And.intro @su_7_7 (And.intro @su_7_8 (And.intro @xf_8 (And.intro @xe_8 (And.intro @xc_8_2 (And.intro @su_8_0 (And.intro @su_8_1 (And.intro @su_8_2 (And.intro @su_8_3 (And.intro @su_8_4 (And.intro @su_8_5 (And.intro @su_8_6 (And.intro @su_8_7 (And.intro @su_8_8 (And.intro @cs_0 (And.intro @cs_1 (And.intro @cs_2 (And.intro @cs_3 (And.intro @cs_4 (And.intro @cs_5 (And.intro @cs_6 (And.intro @cs_7 (And.intro @cs_8 (And.intro @cs_9 (And.intro @cs_10 (And.intro @cs_11 (And.intro @cs_12 (And.intro @cs_13 (@cs_14)))))))))))))))))))))))))))))))))))))))))))))))))))))))))))))))))))))))))))))))))))))))))))))))))))))))))))))))) := And.intro @xf_1 (And.intro @xe_1 (And.intro @xc_1_0 (And.intro @su_1_0 (And.intro @su_1_1 (And.intro @su_1_2 (And.intro @su_1_3 (And.intro @su_1_4 (And.intro @su_1_5 (And.intro @su_1_6 (And.intro @su_1_7 (And.intro @su_1_8 (And.intro @xf_2 (And.intro @xe_2 (And.intro @xc_2_0 (And.intro @su_2_0 (And.intro @su_2_1 (And.intro @su_2_2 (And.intro @su_2_3 (And.intro @su_2_4 (And.intro @su_2_5 (And.intro @su_2_6 (And.intro @su_2_7 (And.intro @su_2_8 (And.intro @xf_3 (And.intro @xe_3 (And.intro @xc_3_0 (And.intro @su_3_0 (And.intro @su_3_1 (And.intro @su_3_2 (And.intro @su_3_3 (And.intro @su_3_4 (And.intro @su_3_5 (And.intro @su_3_6 (And.intro @su_3_7 (And.intro @su_3_8 (And.intro @xf_4 (And.intro @xe_4 (And.intro @xc_4_0 (And.intro @su_4_0 (And.intro @su_4_1 (And.intro @su_4_2 (And.intro @su_4_3 (And.intro @su_4_4 (And.intro @su_4_5 (And.intro @su_4_6 (And.intro @su_4_7 (And.intro @su_4_8 (And.intro @xf_5 (And.intro @xe_5 (And.intro @xc_5_0 (And.intro @su_5_0 (And.intro @su_5_1 (And.intro @su_5_2 (And.intro @su_5_3 (And.intro @su_5_4 (And.intro @su_5_5 (And.intro @su_5_6 (And.intro @su_5_7 (And.intro @su_5_8 (And.intro @xf_6 (And.intro @xe_6 (And.intro @xc_6_1 (And.intro @su_6_0 (And.intro @su_6_1 (And.intro @su_6_2 (And.intro @su_6_3 (And.intro @su_6_4 (And.intro @su_6_5 (And.intro @su_6_6 (And.intro @su_6_7 (And.intro @su_6_8 (And.intro @xf_7 (And.intro @xe_7 (And.intro @xc_7_1 (And.intro @xc_7_0 (And.intro @su_7_0 (And.intro @su_7_1 (And.intro @su_7_2 (And.intro @su_7_3 (And.intro @su_7_4 (And.intro @su_7_5 (And.intro @su_7_6 (And.intro @su_7_7 (And.intro @su_7_8 (And.intro @xf_8 (And.intro @xe_8 (And.intro @xc_8_2 (And.intro @su_8_0 (And.intro @su_8_1 (And.intro @su_8_2 (And.intro @su_8_3 (And.intro @su_8_4 (And.intro @su_8_5 (And.intro @su_8_6 (And.intro @su_8_7 (And.intro @su_8_8 (And.intro @cs_0 (And.intro @cs_1 (And.intro @cs_2 (And.intro @cs_3 (And.intro @cs_4 (And.intro @cs_5 (And.intro @cs_6 (And.intro @cs_7 (And.intro @cs_8 (And.intro @cs_9 (And.intro @cs_10 (And.intro @cs_11 (And.intro @cs_12 (And.intro @cs_13 (@cs_14)))))))))))))))))))))))))))))))))))))))))))))))))))))))))))))))))))))))))))))))))))))))))))))))))))))))))))))))
end Fw.K00

/-! ## Cg -/
set_option Elab.async false
set_option linter.all false
set_option maxRecDepth 100000
set_option maxHeartbeats 4000000
/-! from C39 -/
namespace Fw
open PySem PySem.Spec PyProof.Rows L2
def dI : D → Int
  | .int i => i
  | _ => 0
theorem fold_dI {α : Type} (f : α → Int → α) : ∀ (l : List Int) (a : α), (l.map D.int).foldl (fun a d => f a (dI d)) a = l.foldl f a
  | [], a => rfl
  | x :: l, a => fold_dI f l (f a x)
theorem mul2 (j : Int) : mulOk 2 j = true := by simp [mulOk]
theorem mul8 (j : Int) : mulOk 8 j = true := by simp [mulOk]
def numI (bits : List Int) : Int := bits.foldl (fun t b => 2 * t + b) 0
/-- the last w bits of a number, the highest first -/
def bitsI (n : Int) : Nat → List Int
  | 0 => []
  | w + 1 => bitsI (n / 2) w ++ [n % 2]
theorem bitsI_len (n : Int) : ∀ w, (bitsI n w).length = w
  | 0 => rfl
  | w + 1 => by simp [bitsI, bitsI_len (n / 2) w]
theorem rng_mem {lo : Int} : ∀ {n : Nat} {d : D}, d ∈ rng lo n → ∃ i : Int, d = .int i ∧ lo ≤ i ∧ i < lo + n
  | 0, d, h => by simp [rng] at h
  | n + 1, d, h => by
    simp only [rng, List.mem_cons] at h
    rcases h with h | h
    · exact ⟨lo, h, by omega, by omega⟩
    · obtain ⟨i, e, h1, h2⟩ := rng_mem h
      exact ⟨i, e, by omega, by omega⟩
end Fw
namespace Fw
open PySem L2
/-- a loop with an invariant of all that there is -/
theorem forM_any {step : D → Lc → Store → Out} (I : Nat → Lc → Store → Prop) : ∀ (ds : List D) (k : Nat), (∀ j ρ st d, ds[j]? = some d → I (k + j) ρ st → ∃ ρ' st', step d ρ st = .nx ρ' st' ∧ I (k + j + 1) ρ' st') → ∀ ρ st, I k ρ st → ∃ ρ' st', forM step ds ρ st = .nx ρ' st' ∧ I (k + ds.length) ρ' st'
  | [], k, _, ρ, st, h => ⟨ρ, st, rfl, h⟩
  | d :: ds, k, f, ρ, st, h => by
    obtain ⟨ρ1, st1, e, h1⟩ := f 0 ρ st d rfl h
    obtain ⟨ρ2, st2, e2, h2⟩ := forM_any I ds (k + 1) (fun j ρ st d hd hI => by
      have := f (j + 1) ρ st d (by simpa using hd) (by rw [show k + (j + 1) = k + 1 + j by omega]; exact hI)
      rwa [show k + (j + 1) + 1 = k + 1 + j + 1 by omega] at this) ρ1 st1 h1
    refine ⟨ρ2, st2, ?_, by rw [List.length_cons, show k + (ds.length + 1) = k + 1 + ds.length by omega]; exact h2⟩
    unfold forM
    rw [e]
    exact e2
section
variable (st : Store)
theorem b_addI (i j : Int) : opBin .Add (.int i) (.int j) st = .ok (.v (.int (i + j))) st := rfl
theorem b_subI (i j : Int) : opBin .Sub (.int i) (.int j) st = .ok (.v (.int (i - j))) st := rfl
theorem b_mulI (i j : Int) (h : mulOk i j = true) : opBin .Mult (.int i) (.int j) st = .ok (.v (.int (i * j))) st := by simp [opBin, h]
theorem b_addT (a b : List D) (h : a.length + b.length ≤ big) : opBin .Add (.tup a) (.tup b) st = .ok (.v (.tup (a ++ b))) st := by simp [opBin, h]
theorem b_mod (i j : Int) (h : 0 < j) : opBin .Mod (.int i) (.int j) st = .ok (.v (.int (i % j))) st := by simp [opBin, h]
theorem b_div (i j : Int) (h : 0 < j) (h2 : j < 1073741824) : opBin .FloorDiv (.int i) (.int j) st = .ok (.v (.int (i / j))) st := by simp [opBin, h, h2]
theorem b_and (i j : Int) : opBin .BitAnd (.int i) (.int j) st = .ok (.v (.int (PySem.Builtin.bitAnd i j))) st := rfl
theorem b_shr (i j : Int) (h : 0 ≤ j) : opBin .RShift (.int i) (.int j) st = .ok (.v (.int (i / 2 ^ j.toNat))) st := by simp [opBin, h]
theorem o_int (i : Int) : opB .int_ [.int i] st = .ok (.v (.int i)) st := rfl
theorem o_lenT (ds : List D) : opB .len [.tup ds] st = .ok (.v (.int ds.length)) st := rfl
end
end Fw
namespace Fw
open PySem PySem.Spec PyProof.Rows L2
theorem below_ints (n : Nat) : ∀ l : List Int, belows n (l.map .int) = true
  | [] => rfl
  | _ :: l => by simp [belows, below, below_ints n l]
theorem bitsI_cons (n : Int) : ∀ w : Nat, bitsI n (w + 1) = (n / 2 ^ w % 2) :: bitsI n w
  | 0 => by simp [bitsI]
  | w + 1 => by
    show bitsI (n / 2) (w + 1) ++ [n % 2] = _
    rw [bitsI_cons (n / 2) w]
    have : n / 2 / 2 ^ w = n / 2 ^ (w + 1) := by
      rw [Int.ediv_ediv_of_nonneg (by decide), Int.pow_succ', ]
    rw [this]
    rfl
end Fw
namespace Fw
open PySem L2
theorem cut_nat (ds : List D) (i j : Nat) (h : i ≤ ds.length) (h2 : j ≤ ds.length) : cut ds (some (i : Int)) (some (j : Int)) = (ds.drop i).take (j - i) := by
  have a1 : sIxN ds.length 0 (some (i : Int)) = i := by unfold sIxN; dsimp only; rw [if_neg (by omega)]; omega
  have a2 : sIxN ds.length ds.length (some (j : Int)) = j := by unfold sIxN; dsimp only; rw [if_neg (by omega)]; omega
  unfold cut
  rw [a1, a2]
theorem forM_nx {step : D → Lc → Store → Out} {d ds ρ st ρ' st'} (h : step d ρ st = .nx ρ' st') : forM step (d :: ds) ρ st = forM step ds ρ' st' := by
  show (match step d ρ st with | .nx ρ' st' => forM step ds ρ' st' | .bk ρ' st' => .nx ρ' st' | o => o) = _
  rw [h]
theorem forM_ret {step : D → Lc → Store → Out} {d ds ρ st w st'} (h : step d ρ st = .ret w st') : forM step (d :: ds) ρ st = .ret w st' := by
  show (match step d ρ st with | .nx ρ' st' => forM step ds ρ' st' | .bk ρ' st' => .nx ρ' st' | o => o) = _
  rw [h]
theorem o_slT (ds : List D) (lo hi : Option Int) (st : Store) : opSl (.tup ds) lo hi st = .ok (.v (.tup (cut ds lo hi))) st := rfl
theorem c_lt (i j : Int) (st : Store) : opCmp .Lt (.int i) (.int j) st = .ok (.bl (decide (i < j))) st := rfl
theorem c_le (i j : Int) (st : Store) : opCmp .LtE (.int i) (.int j) st = .ok (.bl (decide (i ≤ j))) st := rfl
theorem c_gt (i j : Int) (st : Store) : opCmp .Gt (.int i) (.int j) st = .ok (.bl (decide (j < i))) st := rfl
theorem c_ge (i j : Int) (st : Store) : opCmp .GtE (.int i) (.int j) st = .ok (.bl (decide (j ≤ i))) st := rfl
theorem cB_lt (i j : Int) (st : Store) : cmpB .Lt (.int i) (.int j) st = .ok (decide (i < j)) st := rfl
theorem cB_le (i j : Int) (st : Store) : cmpB .LtE (.int i) (.int j) st = .ok (decide (i ≤ j)) st := rfl
theorem cB_gt (i j : Int) (st : Store) : cmpB .Gt (.int i) (.int j) st = .ok (decide (j < i)) st := rfl
theorem cB_ge (i j : Int) (st : Store) : cmpB .GtE (.int i) (.int j) st = .ok (decide (j ≤ i)) st := rfl
end Fw
namespace Fw
open PySem PySem.Spec PyProof.Rows L2
def bitsOf (xs : List Int) : List Int := xs.flatMap fun x => bitsI x 8
theorem bitsOf_len : ∀ xs : List Int, (bitsOf xs).length = 8 * xs.length
  | [] => rfl
  | x :: xs => by
    have := bitsOf_len xs
    unfold bitsOf at this ⊢
    rw [List.flatMap_cons, List.length_append, this, bitsI_len, List.length_cons]; omega
theorem eqD_int (i j : Int) : eqD (.int i) (.int j) = (i == j) := by simp [eqD, toPy, PyData.eqv]
theorem in_ints (j : Int) (l : List Int) (st : Store) : cmpB .In (.int j) (.tup (l.map .int)) st = .ok (l.any (· == j)) st := by
  have h1 : (l.map D.int).all isFlat = true := by simp [isFlat]
  have h2 : ((l.map D.int).any fun d => eqD d (.int j)) = l.any (· == j) := by rw [List.any_map]; rfl
  simp [cmpB, opCmp, seqD, isFlat, h2, toB]
end Fw
namespace Fw
open PySem L2
theorem finish_take (st st' : Store) (d : D) (h : takeOk st st') (hb : below st.length d = true) : finish st (.v d) st' = .ok (.v d) (st'.take st.length) := by
  unfold finish
  rw [if_pos h]
  dsimp only
  rw [if_pos hb]
/-- one object of the store was changed, and it names nothing new -/
theorem finish_set (st : Store) (n : Nat) (o : Ob) (d : D) (ho : belowO st.length o = true) (hb : below st.length d = true) : finish st (.v d) (st.set n o) = .ok (.v d) (st.set n o) := by
  rw [finish_take _ _ _ ⟨by simp, fun m o' hm e => ?_⟩ hb]
  · rw [List.take_of_length_le (by simp)]
  · rw [List.getElem?_set] at e
    split at e
    · split at e
      · cases e; exact .inr ho
      · cases e
    · exact .inl e
end Fw
namespace Fw
open PySem PySem.Spec PyProof.Rows L2
theorem bitsI_get : ∀ (w : Nat) (x : Int) (k : Nat), k < w → (bitsI x w)[k]? = some (x / 2 ^ (w - 1 - k) % 2)
  | w + 1, x, 0, _ => by rw [bitsI_cons]; rfl
  | w + 1, x, k + 1, h => by
    rw [bitsI_cons, List.getElem?_cons_succ, bitsI_get w x k (by omega), show w + 1 - 1 - (k + 1) = w - 1 - k by omega]
end Fw
namespace Fw
open PySem L2
theorem forM_exc {step : D → Lc → Store → Out} {d ds ρ st c fs ρ' st'} (h : step d ρ st = .exc c fs ρ' st') : forM step (d :: ds) ρ st = .exc c fs ρ' st' := by
  show (match step d ρ st with | .nx ρ' st' => forM step ds ρ' st' | .bk ρ' st' => .nx ρ' st' | o => o) = _
  rw [h]
theorem evI_rng {Δ : Dl} {a : T} {ρ : Lc} {st : Store} {n : Int} (h : evE Δ a ρ st = .ok (.v (.int n)) st) (h1 : -(2 ^ 62) ≤ n) (h2 : n < 2 ^ 62) : evI Δ (.itR1 a) ρ st = .ok (rng 0 n.toNat) st := by
  rw [evI_itR1, h]; dsimp only [bind_ok, W.d_v]; rw [if_pos ⟨h1, h2⟩]
theorem set_self {α : Type} : ∀ {l : List α} {n : Nat} {x : α}, l[n]? = some x → l.set n x = l
  | a :: l, 0, x, h => by simp at h; simp [h]
  | a :: l, n + 1, x, h => by simp at h; simp [set_self h]
end Fw
namespace Fw
open PySem L2
theorem lcM_map {step : D → Store → Res (Option D)} {α : Type} (g : α → D) (f : α → D) (st : Store) : ∀ (l : List α), (∀ a ∈ l, step (g a) st = .ok (some (f a)) st) → lcM step (l.map g) st = .ok (l.map f) st
  | [], _ => rfl
  | a :: l, h => by
    rw [List.map_cons]; unfold lcM
    rw [h a List.mem_cons_self]; dsimp only [Res.bind]
    rw [lcM_map g f st l fun a ha => h a (List.mem_cons_of_mem _ ha)]; rfl
theorem blsD_map {α : Type} (f : α → Bool) : ∀ l : List α, blsD (l.map fun a => D.bl (f a)) = some (l.map f)
  | [] => rfl
  | a :: l => by simp [blsD, blsD_map f l]
theorem o_all {α : Type} (f : α → Bool) (l : List α) (st : Store) : opB .all_ [.lst (l.map fun a => D.bl (f a))] st = .ok (.v (.bl (l.all f))) st := by
  simp [opB, seqL, blsD_map]
end Fw
namespace Fw
open PySem PySem.Spec PyProof.Rows L2
theorem take_set_last {α : Type} (l : List α) (a b : α) : (l ++ [a]).set l.length b = l ++ [b] := by
  rw [List.set_append_right _ _ (Nat.le_refl _)]; simp
theorem get_last {α : Type} (l : List α) (a : α) : (l ++ [a])[l.length]? = some a := by simp
end Fw
namespace Fw
open PySem PySem.Spec PyProof.Rows L2
def B01 (B : List Int) : Prop := ∀ b ∈ B, b = 0 ∨ b = 1
theorem fold_num : ∀ (B : List Int) (a : Int), B.foldl (fun t b => 2 * t + b) a = 2 ^ B.length * a + numI B
  | [], a => by simp [numI]
  | b :: B, a => by
    unfold numI
    rw [List.foldl_cons, List.foldl_cons, fold_num B (2 * a + b), fold_num B (2 * 0 + b), List.length_cons, Int.pow_succ, Int.mul_zero, Int.zero_add, Int.mul_add, ← Int.mul_assoc]
    omega
theorem numI_snoc (B : List Int) (b : Int) : numI (B ++ [b]) = 2 * numI B + b := by unfold numI; rw [List.foldl_append]; rfl
theorem numI_bits : ∀ (w : Nat) (n : Int), 0 ≤ n → n < 2 ^ w → numI (bitsI n w) = n
  | 0, n, h0, h1 => by simp at h1; simp [bitsI, numI]; omega
  | w + 1, n, h0, h1 => by
    rw [Int.pow_succ] at h1
    rw [bitsI, numI_snoc, numI_bits w (n / 2) (by omega) (by omega)]
    omega
theorem bits_num : ∀ (n : Nat) (B : List Int), B.length = n → B01 B → bitsI (numI B) n = B
  | 0, B, h, _ => by cases B <;> simp [bitsI] at h ⊢
  | n + 1, B, h, hb => by
    rcases List.eq_nil_or_concat B with e | ⟨C, b, e⟩
    · subst e; simp at h
    · rw [List.concat_eq_append] at e
      subst e
      have hC : C.length = n := by simp at h; omega
      have h2 := hb b (by simp)
      rw [numI_snoc, bitsI, show (2 * numI C + b) / 2 = numI C by omega, show (2 * numI C + b) % 2 = b by omega, bits_num n C hC fun x hx => hb x (by simp [hx])]
theorem numI_bound : ∀ (n : Nat) (B : List Int), B.length = n → B01 B → 0 ≤ numI B ∧ numI B < 2 ^ n
  | 0, B, h, _ => by cases B <;> simp [numI] at h ⊢
  | n + 1, B, h, hb => by
    rcases List.eq_nil_or_concat B with e | ⟨C, b, e⟩
    · subst e; simp at h
    · rw [List.concat_eq_append] at e
      subst e
      have hC : C.length = n := by simp at h; omega
      have h2 := hb b (by simp)
      have := numI_bound n C hC fun x hx => hb x (by simp [hx])
      rw [numI_snoc, Int.pow_succ]; omega
theorem bitsI_01' : ∀ (w : Nat) (x : Int), ∀ b ∈ bitsI x w, b = 0 ∨ b = 1
  | 0, _, b, h => by simp [bitsI] at h
  | w + 1, x, b, h => by
    rw [bitsI_cons, List.mem_cons] at h
    rcases h with h | h
    · omega
    · exact bitsI_01' w x b h
theorem pad_01 {B : List Int} (h : B01 B) (n : Nat) : B01 (B ++ List.replicate n 0) := fun b hb => by
  rcases List.mem_append.mp hb with hb | hb
  · exact h b hb
  · exact .inl (List.eq_of_mem_replicate hb)
end Fw
namespace Fw
open PySem L2
theorem cB_eqI (i j : Int) (st : Store) : cmpB .Eq (.int i) (.int j) st = .ok (i == j) st := by
  have h : eqD (.int i) (.int j) = (i == j) := eqD_int i j
  rw [← h]; rfl
theorem cB_neI (i j : Int) (st : Store) : cmpB .NotEq (.int i) (.int j) st = .ok (!(i == j)) st := by
  have h : eqD (.int i) (.int j) = (i == j) := eqD_int i j
  rw [← h]; rfl
theorem b_shl1 (w : Nat) (st : Store) (hw : w ≤ 1000) : opBin .LShift (.int 1) (.int (w : Nat)) st = .ok (.v (.int (2 ^ w))) st := by
  have h : (0 : Int) ≤ (w : Nat) ∧ ((PySem.Builtin.Int.intBits 1 : Nat) : Int) + (w : Nat) ≤ 2 ^ 27 := ⟨by omega, by
    have : PySem.Builtin.Int.intBits 1 = 1 := by decide
    rw [this]; omega⟩
  show (if (0 : Int) ≤ (w : Nat) ∧ ((PySem.Builtin.Int.intBits 1 : Nat) : Int) + (w : Nat) ≤ 2 ^ 27 then (.ok (.v (.int (1 * 2 ^ ((w : Nat) : Int).toNat))) st : Res W) else .stuck) = _
  rw [if_pos h, Int.one_mul, Int.toNat_natCast]
theorem rngC_map (c : Int) : ∀ (n : Nat) (lo : Int), rngC lo c n = (List.range n).map fun j => D.int (lo + c * (j : Nat))
  | 0, lo => rfl
  | n + 1, lo => by
    rw [rngC, rngC_map c n, List.range_succ_eq_map, List.map_cons, List.map_map]
    congr 1
    · simp
    · apply List.map_congr_left
      intro j _
      simp only [Function.comp, Nat.succ_eq_add_one]
      congr 1
      rw [Int.add_assoc]
      congr 1
      have : ((j + 1 : Nat) : Int) = (j : Int) + 1 := by omega
      rw [this, Int.mul_add]; omega
theorem rng_map : ∀ (n : Nat) (lo : Int), rng lo n = (List.range n).map fun j => D.int (lo + (j : Nat))
  | 0, lo => rfl
  | n + 1, lo => by
    rw [rng, rng_map n, List.range_succ_eq_map, List.map_cons, List.map_map]
    congr 1
    · simp
    · apply List.map_congr_left
      intro j _
      simp only [Function.comp, Nat.succ_eq_add_one]
      congr 1
      omega
theorem rng_at {lo : Int} {n j : Nat} {d : D} (h : (rng lo n)[j]? = some d) : d = .int (lo + (j : Nat)) ∧ j < n := by
  rw [rng_map, List.getElem?_map] at h
  by_cases c : j < n
  · rw [List.getElem?_range c] at h
    cases h; exact ⟨rfl, c⟩
  · rw [List.getElem?_eq_none (by simp; omega)] at h; cases h
theorem rngC_at {lo c : Int} {n j : Nat} {d : D} (h : (rngC lo c n)[j]? = some d) : d = .int (lo + c * (j : Nat)) ∧ j < n := by
  rw [rngC_map, List.getElem?_map] at h
  by_cases c : j < n
  · rw [List.getElem?_range c] at h
    cases h; exact ⟨rfl, c⟩
  · rw [List.getElem?_eq_none (by simp; omega)] at h; cases h
end Fw
namespace Fw
open PySem PySem.Spec PyProof.Rows L2
theorem evT_callb {f : Nat} {es : T} {ρ : Lc} {st : Store} {b : Bool} (h : evE Δ (.call f es) ρ st = .ok (.v (.bl b)) st) : evT Δ (.call f es) ρ st = .ok b st := by
  rw [evT_truth _ _ rfl, h]; rfl
theorem evT_isib {k : Ty} {e : T} {ρ : Lc} {st : Store} {b : Bool} (h : evE Δ (.isi k e) ρ st = .ok (.v (.bl b)) st) : evT Δ (.isi k e) ρ st = .ok b st := by
  rw [evT_truth _ _ rfl, h]; rfl
end Fw
namespace Fw
open PySem L2
theorem evT_call (Δ : Dl) (f : Nat) (es : T) (ρ : Lc) (st : Store) : evT Δ (.call f es) ρ st = (evE Δ (.call f es) ρ st).bind fun w st => match truth st w.d with
    | some b => .ok b st
    | none => .stuck := evT_truth _ _ rfl _ _
theorem evT_isi (Δ : Dl) (k : Ty) (e : T) (ρ : Lc) (st : Store) : evT Δ (.isi k e) ρ st = (evE Δ (.isi k e) ρ st).bind fun w st => match truth st w.d with
    | some b => .ok b st
    | none => .stuck := evT_truth _ _ rfl _ _
theorem evT_blt (Δ : Dl) (b : B) (es : T) (ρ : Lc) (st : Store) : evT Δ (.blt b es) ρ st = (evE Δ (.blt b es) ρ st).bind fun w st => match truth st w.d with
    | some b => .ok b st
    | none => .stuck := evT_truth _ _ rfl _ _
theorem evT_var (Δ : Dl) (i : Nat) (ρ : Lc) (st : Store) : evT Δ (.var i) ρ st = (evE Δ (.var i) ρ st).bind fun w st => match truth st w.d with
    | some b => .ok b st
    | none => .stuck := evT_truth _ _ rfl _ _
theorem evT_meth (Δ : Dl) (c m f : Nat) (o es : T) (ρ : Lc) (st : Store) : evT Δ (.meth c m f o es) ρ st = (evE Δ (.meth c m f o es) ρ st).bind fun w st => match truth st w.d with
    | some b => .ok b st
    | none => .stuck := evT_truth _ _ rfl _ _
theorem evT_fld (Δ : Dl) (f : Nat) (o : T) (ρ : Lc) (st : Store) : evT Δ (.fld f o) ρ st = (evE Δ (.fld f o) ρ st).bind fun w st => match truth st w.d with
    | some b => .ok b st
    | none => .stuck := evT_truth _ _ rfl _ _
theorem evT_bin (Δ : Dl) (o : Operator) (a b : T) (ρ : Lc) (st : Store) : evT Δ (.bin o a b) ρ st = (evE Δ (.bin o a b) ρ st).bind fun w st => match truth st w.d with
    | some b => .ok b st
    | none => .stuck := evT_truth _ _ rfl _ _
theorem evT_idx (Δ : Dl) (a i : T) (ρ : Lc) (st : Store) : evT Δ (.idx a i) ρ st = (evE Δ (.idx a i) ρ st).bind fun w st => match truth st w.d with
    | some b => .ok b st
    | none => .stuck := evT_truth _ _ rfl _ _
theorem evT_int (Δ : Dl) (i : Int) (ρ : Lc) (st : Store) : evT Δ (.int i) ρ st = (evE Δ (.int i) ρ st).bind fun w st => match truth st w.d with
    | some b => .ok b st
    | none => .stuck := evT_truth _ _ rfl _ _
end Fw
namespace Fw
open PySem L2
theorem b_mulK (i j : Int) (st : Store) (h : (decide (-(2 ^ 64) < j) && decide (j < 2 ^ 64)) = true) : opBin .Mult (.int i) (.int j) st = .ok (.v (.int (i * j))) st := by
  have h2 : -(2 ^ 64) < j ∧ j < 2 ^ 64 := by simpa using h
  exact b_mulI st i j (by unfold mulOk; exact decide_eq_true (.inr h2))
theorem b_mulJ (i j : Int) (st : Store) (h : (decide (-(2 ^ 64) < i) && decide (i < 2 ^ 64)) = true) : opBin .Mult (.int i) (.int j) st = .ok (.v (.int (i * j))) st := by
  have h2 : -(2 ^ 64) < i ∧ i < 2 ^ 64 := by simpa using h
  exact b_mulI st i j (by unfold mulOk; exact decide_eq_true (.inl h2))
theorem mul_a (i : Int) (st : Store) : opBin .Mult (.int i) (.int 48271) st = .ok (.v (.int (i * 48271))) st := b_mulK _ _ _ (by decide)
theorem mul_b (i : Int) (st : Store) : opBin .Mult (.int i) (.int 16807) st = .ok (.v (.int (i * 16807))) st := b_mulK _ _ _ (by decide)
theorem mul_c (i : Int) (st : Store) : opBin .Mult (.int 69621) (.int i) st = .ok (.v (.int (69621 * i))) st := b_mulJ _ _ _ (by decide)
theorem o_lenL (ds : List D) (st : Store) : opB .len [.lst ds] st = .ok (.v (.int ds.length)) st := rfl
theorem o_ixL (ds : List D) (i : Int) (d : D) (st : Store) (h0 : 0 ≤ i) (h : ds[i.toNat]? = some d) : opIx (.lst ds) (.int i) st = .ok (.v d) st := by
  simp [opIx, seqD, seqL, atD, h0, h]
theorem o_ixT (ds : List D) (i : Int) (d : D) (st : Store) (h0 : 0 ≤ i) (h : ds[i.toNat]? = some d) : opIx (.tup ds) (.int i) st = .ok (.v d) st := by
  simp [opIx, seqD, seqL, atD, h0, h]
theorem o_app (l : List D) (x : D) (st : Store) (h : l.length < big) : opBM .append (.ref st.length) [x] (st ++ [.lst l]) = .ok (.v .non) (st ++ [.lst (l ++ [x])]) := by
  unfold opBM
  dsimp only
  rw [get_last]
  dsimp only
  rw [if_pos h, take_set_last]
theorem bm_app (l : List D) (st : Store) : bmOk .append (.ref st.length) (st ++ [.lst l]) = true := by
  unfold bmOk
  dsimp only
  rw [get_last]
end Fw
namespace Fw
open PySem PySem.Spec PyProof.Rows L2
theorem mod_p (i : Int) (st : Store) : opBin .Mod (.int i) (.int 2147483629) st = .ok (.v (.int (i % 2147483629))) st := b_mod st i 2147483629 (by decide)
theorem mod_p0 (i : Int) : 0 ≤ i % 2147483629 := Int.emod_nonneg _ (by decide)
/-- the counter of the draws -/
def cnt (k : Nat) (r : Store) : Store := .lst [.int (k : Nat)] :: r
mutual
theorem below_data (n : Nat) : ∀ d : D, isData d = true → below n d = true
  | .non, _ => rfl
  | .bl _, _ => rfl
  | .int _, _ => rfl
  | .str _, _ => rfl
  | .tup ds, h => by unfold below; exact belows_data n ds (by simpa [isData] using h)
  | .lst ds, h => by unfold below; exact belows_data n ds (by simpa [isData] using h)
  | .ref _, h => by simp [isData] at h
  | .fn _, h => by simp [isData] at h
  | .scr _, h => by simp [isData] at h
theorem belows_data (n : Nat) : ∀ ds : List D, isDatas ds = true → belows n ds = true
  | [], _ => rfl
  | d :: ds, h => by
    simp only [isDatas, Bool.and_eq_true] at h
    simp only [belows, Bool.and_eq_true]
    exact ⟨below_data n d h.1, belows_data n ds h.2⟩
end
theorem isDatas_mem : ∀ {ds : List D} {d : D}, d ∈ ds → isDatas ds = true → isData d = true
  | e :: ds, d, h, hd => by
    simp only [isDatas, Bool.and_eq_true] at hd
    rcases List.mem_cons.mp h with rfl | h
    · exact hd.1
    · exact isDatas_mem h hd.2
end Fw
namespace Fw
open PySem L2
theorem eqD_self (d : D) (h : shapedD d = true) : eqD d d = true := by
  unfold shapedD at h
  rw [Bool.and_eq_true] at h
  exact PySem.SeqAt.eqv_refl _ (PySem.SeqAt.canLay_of_shaped h.2)
theorem look_data (st : Store) (d : D) (h : isData d = true) : look st d = d := by cases d <;> first | rfl | simp [isData] at h
theorem isData_shaped {d : D} (h : shapedD d = true) : isData d = true := by unfold shapedD at h; rw [Bool.and_eq_true] at h; exact h.1
theorem cB_ne_self (d : D) (st : Store) (h : shapedD d = true) : cmpB .NotEq d d st = .ok false st := by
  show toB (if shapedD (look st d) && shapedD (look st d) then .ok (.bl (!eqD (look st d) (look st d))) st else .stuck) = _
  rw [look_data st d (isData_shaped h), h, eqD_self d h]; rfl
theorem toPys_ints : ∀ xs : List Int, toPys (xs.map .int) = xs.map PyData.int
  | [] => rfl
  | x :: xs => by rw [List.map_cons, toPys, toPys_ints xs]; rfl
theorem isDatas_ints : ∀ xs : List Int, isDatas (xs.map .int) = true
  | [] => rfl
  | x :: xs => by rw [List.map_cons, isDatas, isDatas_ints xs]; rfl
theorem shaped_tup (xs : List Int) : shapedD (.tup (xs.map .int)) = true := by
  unfold shapedD
  rw [isData, isDatas_ints, toPy, toPys_ints]
  simp [PySem.SeqAt.shaped, PyData.canLay0, PyData.depth, PySem.W.ke_canLayAll0, PySem.W.ke_depthAll]
def okStr (x : Str) : Prop := ∀ c ∈ x.cps.toList, c < 0x110000
theorem okStr_append {x y : Str} (hx : okStr x) (hy : okStr y) : okStr (x ++ y) := fun c h => by
  rw [show (x ++ y).cps = x.cps ++ y.cps from rfl, Array.toList_append, List.mem_append] at h
  rcases h with h | h
  · exact hx c h
  · exact hy c h
theorem okStr_of (s : String) : okStr (Str.ofString s) := fun c h => by
  rw [Str.ofString_eq_toList] at h
  simp only [List.mem_map] at h
  obtain ⟨a, _, rfl⟩ := h
  have := a.valid
  unfold UInt32.isValidChar Nat.isValidChar at this
  show a.val.toNat < _
  omega
theorem okStr_join (sep : Str) (hs : okStr sep) : ∀ ts : List Str, (∀ t ∈ ts, okStr t) → okStr (Str.join sep ts)
  | [], _ => fun c h => by simp [Str.join, Str.empty] at h
  | [x], h => h x List.mem_cons_self
  | x :: y :: r, h => by
    show okStr (x ++ sep ++ Str.join sep (y :: r))
    exact okStr_append (okStr_append (h x List.mem_cons_self) hs) (okStr_join sep hs (y :: r) fun t ht => h t (List.mem_cons_of_mem _ ht))
theorem okStr_list (ts : List Str) (h : ∀ t ∈ ts, okStr t) : okStr (listText ts) := by
  rw [listText_eq_join]
  exact okStr_append (okStr_append (okStr_of _) (okStr_join _ (okStr_of _) ts h)) (okStr_of _)
theorem okStr_tuple (ts : List Str) (h : ∀ t ∈ ts, okStr t) : okStr (tupleText ts) := by
  unfold tupleText
  exact okStr_append (okStr_append (okStr_of _) (okStr_join _ (okStr_of _) ts h)) (okStr_of _)
theorem shaped_str (x : Str) (h : okStr x) : shapedD (.str x) = true := by
  unfold shapedD
  rw [isData, toPy]
  have : PyData.strOk x = true := by
    unfold PyData.strOk
    rw [← Array.all_toList, List.all_eq_true]
    intro c hc
    exact decide_eq_true (h c hc)
  simp [PySem.SeqAt.shaped, PyData.canLay0, PyData.depth, this]
theorem shownAll_ints : ∀ xs : List Int, PyData.shownAll (xs.map PyData.int) = xs.map fun i => Str.ofString (toString i)
  | [] => by rw [List.map_nil, PyData.shownAll_nil]; rfl
  | x :: xs => by rw [List.map_cons, PyData.shownAll_cons, shownAll_ints xs, PyData.shown_int]; rfl
theorem showable_ints : ∀ xs : List Int, (∀ x ∈ xs, 0 ≤ x ∧ x < 10000000000) → PyData.showableAll (xs.map PyData.int) = true
  | [], _ => by simp [PyData.showableAll]
  | x :: xs, h => by
    rw [List.map_cons, PyData.showableAll, showable_ints xs fun y hy => h y (List.mem_cons_of_mem _ hy), Bool.and_true, PyData.showable]
    have := h x List.mem_cons_self
    apply decide_eq_true
    have h2 : x.natAbs.log2 ≤ x.natAbs.log2 := Nat.le_refl _
    by_cases c : x.natAbs = 0
    · rw [c]; decide
    · have : x.natAbs < 2 ^ 1920 := Nat.lt_of_lt_of_le (show x.natAbs < 2 ^ 34 by omega) (Nat.pow_le_pow_right (by decide) (by decide))
      exact (Nat.log2_lt c).mpr this
theorem sum_le (f : Int → Nat) (B : Nat) : ∀ xs : List Int, (∀ x ∈ xs, f x ≤ B) → (xs.map f).sum ≤ B * xs.length
  | [], _ => by simp
  | x :: xs, h => by
    have h1 := h x List.mem_cons_self
    have h2 := sum_le f B xs fun y hy => h y (List.mem_cons_of_mem _ hy)
    rw [List.map_cons, List.sum_cons, List.length_cons, Nat.mul_succ]; omega
theorem shown_tup (xs : List Int) (h : ∀ x ∈ xs, 0 ≤ x ∧ x < 10000000000) : (PyData.shown (.tuple (xs.map PyData.int))).length ≤ 12 * xs.length + 3 ∧ okStr (PyData.shown (.tuple (xs.map PyData.int))) := by
  have e : PyData.shown (.tuple (xs.map PyData.int)) = tupleText (xs.map fun i => Str.ofString (toString i)) := by
    rw [← shownAll_ints]; simp only [PyData.shown]
  rw [e]
  constructor
  · refine Nat.le_trans (tupleText_len_le _) ?_
    rw [List.map_map, List.length_map]
    have := sum_le (fun i => (Str.ofString (toString i)).length) 10 xs fun x hx => PyProof.Rows.toString_length_le (h x hx).1 (by decide) (Int.lt_of_lt_of_le (h x hx).2 (by decide))
    have e2 : (xs.map ((fun x : Str => x.length) ∘ fun i : Int => Str.ofString (toString i))).sum = (xs.map fun i => (Str.ofString (toString i)).length).sum := rfl
    omega
  · exact okStr_tuple _ fun t ht => by
      obtain ⟨i, _, rfl⟩ := List.mem_map.mp ht
      exact okStr_of _
/-- repr of a list of two tuples of numbers -/
theorem repr_two (xs ys : List Int) (st : Store) (hx : ∀ x ∈ xs, 0 ≤ x ∧ x < 10000000000) (hy : ∀ x ∈ ys, 0 ≤ x ∧ x < 10000000000) (h1 : xs.length ≤ 100000) (h2 : ys.length ≤ 100000) :
    ∃ s, shapedD (.str s) = true ∧ opB .repr_ [.lst [.tup (xs.map .int), .tup (ys.map .int)]] st = .ok (.v (.str s)) st := by
  have e : toPy (.lst [.tup (xs.map .int), .tup (ys.map .int)]) = .list [.tuple (xs.map PyData.int), .tuple (ys.map PyData.int)] := by
    simp only [toPy, toPys, toPys_ints]
  have s1 := shown_tup xs hx
  have s2 := shown_tup ys hy
  have e2 : PyData.shown (.list [.tuple (xs.map PyData.int), .tuple (ys.map PyData.int)]) = listText [PyData.shown (.tuple (xs.map PyData.int)), PyData.shown (.tuple (ys.map PyData.int))] := by
    rw [PyData.shown, PyData.shownAll_cons, PyData.shownAll_cons, PyData.shownAll_nil]
  refine ⟨PyData.shown (toPy (.lst [.tup (xs.map .int), .tup (ys.map .int)])), shaped_str _ ?_, ?_⟩
  · rw [e, e2]
    exact okStr_list _ fun t ht => by
      rcases List.mem_cons.mp ht with rfl | ht
      · exact s1.2
      · rcases List.mem_cons.mp ht with rfl | ht
        · exact s2.2
        · simp at ht
  · have h3 : isData (.lst [.tup (xs.map .int), .tup (ys.map .int)]) = true := by simp only [isData, isDatas, isDatas_ints]; rfl
    have h4 : PyData.showable (.list [.tuple (xs.map PyData.int), .tuple (ys.map PyData.int)]) = true := by
      simp only [PyData.showable, PyData.showableAll, showable_ints xs hx, showable_ints ys hy]; rfl
    have h5 : (PyData.shown (.list [.tuple (xs.map PyData.int), .tuple (ys.map PyData.int)])).length ≤ big := by
      rw [e2]
      refine Nat.le_trans (listText_len_le _) ?_
      simp only [List.map_cons, List.map_nil, List.sum_cons, List.sum_nil, List.length_cons, List.length_nil]
      unfold big; have := s1.1; have := s2.1; omega
    have h6 : (PyData.list [.tuple (xs.map PyData.int), .tuple (ys.map PyData.int)]).depth ≤ 64 := by
      simp only [PyData.depth, PyData.depthAll, PySem.W.ke_depthAll]; decide
    show (if isData (.lst [.tup (xs.map .int), .tup (ys.map .int)]) && PyData.showable (toPy (.lst [.tup (xs.map .int), .tup (ys.map .int)])) && decide ((PyData.shown (toPy (.lst [.tup (xs.map .int), .tup (ys.map .int)]))).length ≤ big) && decide ((toPy (.lst [.tup (xs.map .int), .tup (ys.map .int)])).depth ≤ 64) then _ else _) = _
    rw [if_pos (by rw [h3, e, h4, decide_eq_true h5, decide_eq_true h6]; rfl)]
end Fw
namespace Fw
open PySem L2
theorem cut_to (ds : List D) (p : Nat) : cut ds none (some (p : Int)) = ds.take p := by
  unfold cut sIxN
  simp only [List.drop_zero, Nat.sub_zero]
  rw [if_neg (by omega), List.take_eq_take_iff]; omega
theorem cut_from (ds : List D) (p : Nat) : cut ds (some (p : Int)) none = ds.drop p := by
  unfold cut sIxN
  simp only
  rw [if_neg (by omega), Int.toNat_natCast]
  by_cases c : p ≤ ds.length
  · rw [Nat.min_eq_left c, List.take_of_length_le (by simp)]
  · rw [Nat.min_eq_right (by omega), Nat.sub_self, List.take_zero, List.drop_eq_nil_of_le (by omega)]
theorem lst_e {Δ : Dl} {es : T} {ρ : Lc} {st st' : Store} {L : List D} (h : evEs Δ es ρ st = .ok L st') (hl : L.length ≤ big) : evE Δ (.lst es) ρ st = .ok (.fr L) st' := by
  rw [evE_lst, h, bind_ok, if_pos hl]
theorem tup_e {Δ : Dl} {es : T} {ρ : Lc} {st st' : Store} {L : List D} (h : evEs Δ es ρ st = .ok L st') (hl : L.length ≤ big) : evE Δ (.tup es) ρ st = .ok (.v (.tup L)) st' := by
  rw [evE_tup, h, bind_ok, if_pos hl]
theorem isDatas_append : ∀ a b : List D, isDatas (a ++ b) = (isDatas a && isDatas b)
  | [], b => by simp [isDatas]
  | x :: a, b => by rw [List.cons_append, isDatas, isDatas_append a b, isDatas, Bool.and_assoc]
end Fw
namespace Fw
open PySem PySem.Spec PyProof.Rows L2
theorem pow_pos2 (w : Nat) : (0 : Int) < 2 ^ w := Int.pow_pos (by decide)
end Fw
namespace Fw
open PySem PySem.Spec PyProof.Rows L2
theorem not_ref {d : D} (h : isData d = true) : ∀ n, d ≠ .ref n := fun n e => by subst e; simp [isData] at h
theorem fin_app (st os : Store) (d : D) (h : isData d = true) : finish st (.v d) (st ++ os) = .ok (.v d) st := by
  rw [finish_take _ _ _ ⟨by simp, fun n o hn h => .inl (by rwa [List.getElem?_append_left hn] at h)⟩ (below_data _ _ h), List.take_left' rfl]
end Fw
/-! from M1 -/
/-! from M4 -/
namespace Fw
open PySem PySem.Spec PyProof.Rows L2
theorem bitsOf_get : ∀ (xs : List Int) (p : Nat) (x : Int), xs[p / 8]? = some x → (bitsOf xs)[p]? = some (x / 2 ^ (7 - p % 8) % 2)
  | [], p, x, h => by simp at h
  | y :: xs, p, x, h => by
    by_cases hp : p < 8
    · rw [show p / 8 = 0 by omega] at h
      cases h
      unfold bitsOf
      rw [List.flatMap_cons, List.getElem?_append_left (by rw [bitsI_len]; exact hp), bitsI_get _ _ _ hp, show p % 8 = p by omega]
    · have hq : p / 8 = (p - 8) / 8 + 1 := by omega
      rw [hq, List.getElem?_cons_succ] at h
      have := bitsOf_get xs (p - 8) x h
      unfold bitsOf at this ⊢
      rw [List.flatMap_cons, List.getElem?_append_right (by rw [bitsI_len]; omega), bitsI_len, this, show (p - 8) % 8 = p % 8 by omega]
end Fw
/-! from M9 -/
/-! from P1 -/
namespace Fw
open PySem PySem.Spec PyProof.Rows L2
/-- m bytes of bits -/
def bytesN : Nat → List Int → List Int
  | 0, _ => []
  | m + 1, B => numI (B.take 8) :: bytesN m (B.drop 8)
theorem bytesN_len : ∀ (m : Nat) (B : List Int), (bytesN m B).length = m
  | 0, _ => rfl
  | m + 1, B => by simp [bytesN, bytesN_len m]
theorem bytesN_get : ∀ (m : Nat) (B : List Int) (k : Nat), k < m → (bytesN m B)[k]? = some (numI ((B.drop (8 * k)).take 8))
  | m + 1, B, 0, _ => by simp [bytesN]
  | m + 1, B, k + 1, h => by
    rw [bytesN, List.getElem?_cons_succ, bytesN_get m _ k (by omega), List.drop_drop, show 8 + 8 * k = 8 * (k + 1) by omega]
theorem bytesN_take : ∀ (m : Nat) (B C : List Int), B.take (8 * m) = C.take (8 * m) → bytesN m B = bytesN m C
  | 0, _, _, _ => rfl
  | m + 1, B, C, h => by
    have h1 : B.take 8 = C.take 8 := by
      have := congrArg (List.take 8) h
      rwa [List.take_take, List.take_take, show min 8 (8 * (m + 1)) = 8 by omega] at this
    have h2 : (B.drop 8).take (8 * m) = (C.drop 8).take (8 * m) := by
      have := congrArg (List.drop 8) h
      rwa [List.drop_take, List.drop_take, show 8 * (m + 1) - 8 = 8 * m by omega] at this
    rw [bytesN, bytesN, h1, bytesN_take m _ _ h2]
theorem bitsOf_bytesN : ∀ (m : Nat) (B : List Int), 8 * m ≤ B.length → B01 B → bitsOf (bytesN m B) = B.take (8 * m)
  | 0, B, _, _ => by simp [bytesN, bitsOf]
  | m + 1, B, h, hb => by
    have h1 : bitsI (numI (B.take 8)) 8 = B.take 8 := bits_num 8 _ (by simp; omega) fun x hx => hb x (List.mem_of_mem_take hx)
    have h2 := bitsOf_bytesN m (B.drop 8) (by simp; omega) fun x hx => hb x (List.mem_of_mem_drop hx)
    unfold bitsOf at h2 ⊢
    rw [bytesN, List.flatMap_cons, h1, h2, show 8 * (m + 1) = 8 + 8 * m by omega, List.take_add]
theorem bytesN_byte : ∀ (m : Nat) (B : List Int), 8 * m ≤ B.length → B01 B → ∀ x ∈ bytesN m B, 0 ≤ x ∧ x ≤ 255
  | 0, B, _, _, x, hx => by simp [bytesN] at hx
  | m + 1, B, h, hb, x, hx => by
    rw [bytesN, List.mem_cons] at hx
    rcases hx with rfl | hx
    · have := numI_bound 8 (B.take 8) (by simp; omega) fun x hx => hb x (List.mem_of_mem_take hx)
      have e : (2 : Int) ^ 8 = 256 := rfl
      omega
    · exact bytesN_byte m (B.drop 8) (by simp; omega) (fun x hx => hb x (List.mem_of_mem_drop hx)) x hx
/-- the bytes of bits, noughts behind -/
def bytesB (B : List Int) : List Int := bytesN ((B.length + 7) / 8) (B ++ List.replicate 7 0)
theorem bytesB_len (B : List Int) : (bytesB B).length = (B.length + 7) / 8 := bytesN_len _ _
theorem bytesB_pad (B : List Int) (n : Nat) (h : (B.length + n) / 8 = (B.length + 7) / 8) (hn : n < 8) : bytesN ((B.length + n) / 8) (B ++ List.replicate n 0) = bytesB B := by
  unfold bytesB
  rw [h]
  apply bytesN_take
  have e : B ++ List.replicate 7 (0 : Int) = (B ++ List.replicate n 0) ++ List.replicate (7 - n) 0 := by
    rw [List.append_assoc, List.replicate_append_replicate, show n + (7 - n) = 7 by omega]
  rw [e, List.take_append_of_le_length (l₁ := B ++ List.replicate n 0) (by rw [List.length_append, List.length_replicate]; omega)]
theorem bitsOf_bytesB (B : List Int) (h : B01 B) : bitsOf (bytesB B) = B ++ List.replicate (8 * ((B.length + 7) / 8) - B.length) 0 := by
  unfold bytesB
  rw [bitsOf_bytesN _ _ (by simp; omega) (pad_01 h 7), List.take_append, List.take_of_length_le (by omega), List.take_replicate, show min (8 * ((B.length + 7) / 8) - B.length) 7 = 8 * ((B.length + 7) / 8) - B.length by omega]
theorem bytesB_byte (B : List Int) (h : B01 B) : ∀ x ∈ bytesB B, 0 ≤ x ∧ x ≤ 255 := bytesN_byte _ _ (by simp; omega) (pad_01 h 7)
end Fw
/-! from N1 -/
namespace Fw
open PySem PySem.Spec PyProof.Rows L2
theorem bytesN_range (m : Nat) (B : List Int) : bytesN m B = (List.range m).map fun j => numI ((B.drop (8 * j)).take 8) := by
  apply List.ext_getElem?
  intro k
  by_cases c : k < m
  · rw [bytesN_get m B k c, List.getElem?_map, List.getElem?_range c]; rfl
  · rw [List.getElem?_eq_none (by rw [bytesN_len]; omega), List.getElem?_eq_none (by simp; omega)]
end Fw
/-! from N3 -/
namespace Fw
open PySem L2
theorem finish_keep (st st' : Store) (w : W) (h : ¬ takeOk st st') : finish st w st' = .ok w st' := by
  unfold finish
  rw [if_neg h]
theorem turns_up8 (m : Nat) : turns 0 ((8 * m : Nat) : Int) 8 = m := by
  unfold turns PySem.Builtin.Range.rangeSize
  simp
  first
    | omega
    | (split <;> omega)
end Fw

namespace Fw
open PySem PySem.Spec PyProof.Rows L2
def Good (ss : List Nat) : Prop := ∀ s ∈ ss, s < 256
def nD (n : Nat) : D := .int (n : Nat)
theorem nD_ints (l : List Nat) : l.map nD = (l.map fun n : Nat => (n : Int)).map D.int := by rw [List.map_map]; rfl
theorem datas_nD : ∀ l : List Nat, isDatas (l.map nD) = true
  | [] => rfl
  | n :: l => by rw [List.map_cons, isDatas, datas_nD l]; rfl
def fifths : List Nat := (List.range 52).map (5 * ·)
theorem fifths_e : rngC 0 5 (turns 0 256 5) = fifths.map nD := by
  rw [rngC_map, show turns 0 256 5 = 52 from by decide +kernel]
  unfold fifths nD
  rw [List.map_map]
  apply List.map_congr_left
  intro a _
  show D.int (0 + 5 * (a : Int)) = D.int ((5 * a : Nat) : Int)
  congr 1; omega
def lettersL : List (List Nat) := [[0, 1], [7], [1, 2, 3], [0, 65, 200, 255], fifths]
theorem letters_ok : ∀ ls ∈ lettersL, ls ≠ [] ∧ Good ls := by
  have : ∀ ls ∈ lettersL, (!ls.isEmpty && ls.all fun x => decide (x < 256)) = true := by decide +kernel
  intro ls h
  have := this ls h
  rw [Bool.and_eq_true, List.all_eq_true] at this
  exact ⟨fun e => by subst e; simp at this, fun x hx => by simpa using this.2 x hx⟩
theorem good_app {a b : List Nat} (ha : Good a) (hb : Good b) : Good (a ++ b) := fun x hx => (List.mem_append.mp hx).elim (ha x) (hb x)
end Fw

/-! ## W5 -/
set_option Elab.async false
set_option linter.all false
set_option maxRecDepth 100000
set_option maxHeartbeats 4000000
set_option exponentiation.threshold 3000
/-! repr of data. -/
namespace Fw
open PySem L2
mutual
/-- what repr can show -/
def rOk : D → Bool
  | .non | .bl _ => true
  | .int i => decide (i.natAbs < 2 ^ 1900)
  | .str x => x.cps.toList.all (fun c => decide (c < 0x110000)) && (PySem.reprText x).cps.toList.all (fun c => decide (c < 0x110000))
  | .tup ds | .lst ds => rOks ds
  | .ref _ | .fn _ | .scr _ => false
def rOks : List D → Bool
  | [] => true
  | d :: ds => rOk d && rOks ds
end
mutual
def wgt : D → Nat
  | .str x => x.cps.size
  | .tup ds | .lst ds => wgts ds
  | _ => 0
def wgts : List D → Nat
  | [] => 0
  | d :: ds => wgt d + 1 + wgts ds
end
mutual
def hgt : D → Nat
  | .tup ds | .lst ds => hgts ds + 1
  | _ => 0
def hgts : List D → Nat
  | [] => 0
  | d :: ds => max (hgt d) (hgts ds)
end
theorem rOks_ints : ∀ l : List Int, (∀ x ∈ l, x.natAbs < 2 ^ 1900) → rOks (l.map .int) = true
  | [], _ => rfl
  | x :: l, h => by rw [List.map_cons, rOks, rOk, decide_eq_true (h x List.mem_cons_self), rOks_ints l fun y hy => h y (List.mem_cons_of_mem _ hy)]; rfl
theorem wgts_ints : ∀ l : List Int, wgts (l.map .int) = l.length
  | [] => rfl
  | x :: l => by
    rw [List.map_cons, List.length_cons, show wgts (D.int x :: l.map .int) = 0 + 1 + wgts (l.map .int) from rfl, wgts_ints l]; omega
theorem hgts_ints : ∀ l : List Int, hgts (l.map .int) = 0
  | [] => rfl
  | x :: l => by
    rw [List.map_cons, show hgts (D.int x :: l.map .int) = max 0 (hgts (l.map .int)) from rfl, hgts_ints l]; rfl
theorem int_short {i : Int} (h : i.natAbs < 2 ^ 1900) : (PyData.shown (.int i)).length ≤ 600 := by
  have h2 : i.natAbs < 10 ^ 590 := Nat.lt_trans h (by decide)
  have e := PySem.int_text_length_le10 (k := 590) (by decide) h2
  show (Str.ofString (toString i)).length ≤ 600
  rw [PySem.ofString_length]; omega
mutual
theorem data_r : ∀ d : D, rOk d = true → isData d = true
  | .non, _ => rfl
  | .bl _, _ => rfl
  | .int _, _ => rfl
  | .str _, _ => rfl
  | .tup ds, h => datas_r ds h
  | .lst ds, h => datas_r ds h
  | .ref _, h => by cases h
  | .fn _, h => by cases h
  | .scr _, h => by cases h
theorem datas_r : ∀ ds : List D, rOks ds = true → isDatas ds = true
  | [], _ => rfl
  | d :: ds, h => by
    rw [rOks, Bool.and_eq_true] at h
    rw [isDatas, data_r d h.1, datas_r ds h.2]; rfl
end
mutual
theorem showable_r : ∀ d : D, rOk d = true → PyData.showable (toPy d) = true
  | .non, _ => rfl
  | .bl _, _ => rfl
  | .int i, h => by
    rw [rOk, decide_eq_true_eq] at h
    show decide (i.natAbs.log2 < 1920) = true
    apply decide_eq_true
    by_cases c : i.natAbs = 0
    · rw [c]; decide
    · exact (Nat.log2_lt c).mpr (Nat.lt_of_lt_of_le h (Nat.pow_le_pow_right (by decide) (by decide)))
  | .str _, _ => rfl
  | .tup ds, h => showables_r ds h
  | .lst ds, h => showables_r ds h
  | .ref _, h => by cases h
  | .fn _, h => by cases h
  | .scr _, h => by cases h
theorem showables_r : ∀ ds : List D, rOks ds = true → PyData.showableAll (toPys ds) = true
  | [], _ => rfl
  | d :: ds, h => by
    rw [rOks, Bool.and_eq_true] at h
    rw [toPys, PyData.showableAll, showable_r d h.1, showables_r ds h.2]; rfl
end
mutual
theorem short_r : ∀ d : D, rOk d = true → PyData.leavesShort 600 (toPy d) = true
  | .non, _ => rfl
  | .bl _, _ => rfl
  | .int i, h => by
    rw [rOk, decide_eq_true_eq] at h
    exact decide_eq_true (int_short h)
  | .str x, h => by
    rw [rOk, Bool.and_eq_true, List.all_eq_true] at h
    show (x.cps.toList.all fun c => decide (c < 16 ^ 8)) = true
    rw [List.all_eq_true]
    intro c hc
    have := h.1 c hc
    rw [decide_eq_true_eq] at this ⊢
    omega
  | .tup ds, h => shorts_r ds h
  | .lst ds, h => shorts_r ds h
  | .ref _, h => by cases h
  | .fn _, h => by cases h
  | .scr _, h => by cases h
theorem shorts_r : ∀ ds : List D, rOks ds = true → PyData.leavesShortAll 600 (toPys ds) = true
  | [], _ => rfl
  | d :: ds, h => by
    rw [rOks, Bool.and_eq_true] at h
    rw [toPys, PyData.leavesShortAll, short_r d h.1, shorts_r ds h.2]; rfl
end
mutual
theorem bulk_r : ∀ d : D, isData d = true → (toPy d).bulk = wgt d
  | .non, _ => rfl
  | .bl _, _ => rfl
  | .int i, _ => rfl
  | .str x, _ => rfl
  | .tup ds, h => bulks_r ds h
  | .lst ds, h => bulks_r ds h
  | .ref _, h => by cases h
  | .fn _, h => by cases h
  | .scr _, h => by cases h
theorem bulks_r : ∀ ds : List D, isDatas ds = true → PyData.bulkAll (toPys ds) = wgts ds
  | [], _ => rfl
  | d :: ds, h => by
    rw [isDatas, Bool.and_eq_true] at h
    rw [toPys, PyData.bulkAll, bulk_r d h.1, bulks_r ds h.2]; rfl
end
mutual
theorem depth_r : ∀ d : D, isData d = true → (toPy d).depth = hgt d
  | .non, _ => rfl
  | .bl _, _ => rfl
  | .int i, _ => rfl
  | .str x, _ => rfl
  | .tup ds, h => by show PyData.depthAll (toPys ds) + 1 = hgts ds + 1; rw [depths_r ds h]
  | .lst ds, h => by show PyData.depthAll (toPys ds) + 1 = hgts ds + 1; rw [depths_r ds h]
  | .ref _, h => by cases h
  | .fn _, h => by cases h
  | .scr _, h => by cases h
theorem depths_r : ∀ ds : List D, isDatas ds = true → PyData.depthAll (toPys ds) = hgts ds
  | [], _ => rfl
  | d :: ds, h => by
    rw [isDatas, Bool.and_eq_true] at h
    rw [toPys, PyData.depthAll, depth_r d h.1, depths_r ds h.2]; rfl
end
mutual
theorem ok_r : ∀ d : D, rOk d = true → okStr (PyData.shown (toPy d))
  | .non, _ => okStr_of "None"
  | .bl b, _ => by cases b; exact okStr_of "False"; exact okStr_of "True"
  | .int i, h => okStr_of _
  | .str x, h => by
    rw [rOk, Bool.and_eq_true, List.all_eq_true, List.all_eq_true] at h
    intro c hc
    have e : PyData.shown (toPy (.str x)) = PySem.reprText x := PyData.shown_str x
    rw [e] at hc
    have := h.2 c hc
    rwa [decide_eq_true_eq] at this
  | .tup ds, h => okStr_tuple _ fun t ht => by
    obtain ⟨i, rfl⟩ := oks_r ds h t ht
    exact i.2
  | .lst ds, h => okStr_list _ fun t ht => by
    obtain ⟨i, rfl⟩ := oks_r ds h t ht
    exact i.2
  | .ref _, h => by cases h
  | .fn _, h => by cases h
  | .scr _, h => by cases h
theorem oks_r : ∀ ds : List D, rOks ds = true → ∀ t ∈ PyData.shownAll (toPys ds), ∃ s : { s : PySem.Str // okStr s }, s.1 = t
  | [], _, t, ht => by rw [toPys, PyData.shownAll_nil] at ht; cases ht
  | d :: ds, h, t, ht => by
    rw [rOks, Bool.and_eq_true] at h
    rw [toPys, PyData.shownAll_cons] at ht
    rcases List.mem_cons.mp ht with ht | ht
    · exact ⟨⟨_, ok_r d h.1⟩, ht.symm⟩
    · exact oks_r ds h.2 t ht
end
mutual
theorem lay_r : ∀ d : D, rOk d = true → (toPy d).canLay0 = true
  | .non, _ => by simp [toPy, PyData.canLay0]
  | .bl _, _ => by simp [toPy, PyData.canLay0]
  | .int _, _ => by simp [toPy, PyData.canLay0]
  | .str x, h => by
    simp only [toPy, PyData.canLay0]
    unfold PyData.strOk
    rw [← Array.all_toList, List.all_eq_true]
    intro c hc
    rw [rOk, Bool.and_eq_true, List.all_eq_true] at h
    exact h.1 c hc
  | .tup ds, h => by simp only [toPy, PyData.canLay0]; exact lays_r ds (by simpa [rOk] using h)
  | .lst ds, h => by simp only [toPy, PyData.canLay0]; exact lays_r ds (by simpa [rOk] using h)
  | .ref _, h => by simp [rOk] at h
  | .fn _, h => by simp [rOk] at h
  | .scr _, h => by simp [rOk] at h
theorem lays_r : ∀ ds : List D, rOks ds = true → PyData.canLayAll0 (toPys ds) = true
  | [], _ => by simp [toPys, PyData.canLayAll0]
  | d :: ds, h => by
    rw [rOks, Bool.and_eq_true] at h
    simp only [toPys, PyData.canLayAll0, lay_r d h.1, lays_r ds h.2, Bool.and_self]
end
theorem shaped_r {d : D} (h : rOk d = true) (hh : hgt d ≤ 64) : shapedD d = true := by
  unfold shapedD PySem.SeqAt.shaped
  rw [data_r d h, lay_r d h, depth_r d (data_r d h), decide_eq_true hh]; rfl
theorem repr_ok (d : D) (h : rOk d = true) (hw : wgt d ≤ 20000) (hh : hgt d ≤ 64) : ∃ s, shapedD (.str s) = true ∧ ∀ st, opB .repr_ [d] st = .ok (.v (.str s)) st := by
  refine ⟨PyData.shown (toPy d), shaped_str _ (ok_r d h), fun st => ?_⟩
  have h1 := data_r d h
  have h2 := showable_r d h
  have h3 : (PyData.shown (toPy d)).length ≤ big := by
    have := PyData.shown_le_bulk 600 (by decide) (toPy d) (short_r d h)
    rw [bulk_r d h1] at this
    unfold big; omega
  have h4 : (toPy d).depth ≤ 64 := by rw [depth_r d h1]; exact hh
  show (if isData d && PyData.showable (toPy d) && decide ((PyData.shown (toPy d)).length ≤ big) && decide ((toPy d).depth ≤ 64) then _ else _) = _
  rw [if_pos (by rw [h1, h2, decide_eq_true h3, decide_eq_true h4]; rfl)]
end Fw
namespace Fw
open PySem L2
/-- lists of tuples of numbers -/
def tupsD (L : List (List Int)) : List D := L.map fun l => .tup (l.map .int)
theorem rOks_tups : ∀ L : List (List Int), (∀ l ∈ L, ∀ x ∈ l, x.natAbs < 2 ^ 1900) → rOks (tupsD L) = true
  | [], _ => rfl
  | l :: L, h => by
    show (rOks (l.map .int) && rOks (tupsD L)) = true
    rw [rOks_ints l (h l List.mem_cons_self), rOks_tups L fun m hm => h m (List.mem_cons_of_mem _ hm)]; rfl
theorem wgts_tups : ∀ L : List (List Int), wgts (tupsD L) = (L.map fun l => l.length + 1).sum
  | [] => rfl
  | l :: L => by
    show wgts (l.map .int) + 1 + wgts (tupsD L) = _
    rw [wgts_ints, wgts_tups L, List.map_cons, List.sum_cons]
theorem hgts_tups : ∀ L : List (List Int), hgts (tupsD L) ≤ 1
  | [] => by show 0 ≤ 1; decide
  | l :: L => by
    show max (hgts (l.map .int) + 1) (hgts (tupsD L)) ≤ 1
    rw [hgts_ints]
    have := hgts_tups L
    omega
theorem repr_tups (L : List (List Int)) (h : ∀ l ∈ L, ∀ x ∈ l, x.natAbs < 2 ^ 1900) (hw : (L.map fun l => l.length + 1).sum ≤ 20000) : ∃ s, shapedD (.str s) = true ∧ ∀ st, opB .repr_ [.lst (tupsD L)] st = .ok (.v (.str s)) st :=
  repr_ok (.lst (tupsD L)) (rOks_tups L h) (by show wgts (tupsD L) ≤ 20000; rw [wgts_tups]; exact hw) (by show hgts (tupsD L) + 1 ≤ 64; have := hgts_tups L; omega)
theorem abs_small {x : Int} (h : x.natAbs < 2 ^ 64) : x.natAbs < 2 ^ 1900 := Nat.lt_of_lt_of_le h (Nat.pow_le_pow_right (by decide) (by decide))
theorem abs_pow {x : Int} {n : Nat} (h0 : 0 ≤ x) (h : x < 2 ^ n) (hn : n ≤ 1900) : x.natAbs < 2 ^ 1900 := by
  have e : ((2 ^ n : Nat) : Int) = 2 ^ n := by rw [Int.natCast_pow]; rfl
  have : x.natAbs < 2 ^ n := by omega
  exact Nat.lt_of_lt_of_le this (Nat.pow_le_pow_right (by decide) hn)
end Fw

/-! ## D00 -/
set_option Elab.async false
set_option linter.all false
set_option maxRecDepth 100000
set_option maxHeartbeats 4000000
/-! k00: what is drawn; bytes. -/
namespace Fw.K00
open PySem PySem.Spec PyProof.Rows L2
theorem more_step (ds : List Int) (k n m : Int) (hn : n = (ds.length : Nat)) (s : Option D) (j : Int) (st : Store) (h0 : 0 ≤ j) (h3 : j < 3) : ∃ m', 0 ≤ m' ∧ stepL Δ (.tgN 3) l1_law_more (.int j) [some (.lst (ds.map .int)), some (.int k), some (.int m), s] st = .nx [some (.lst (ds.map .int)), some (.int k), some (.int m'), some (.int j)] st := by
  have hj : (decide (-(2 ^ 64) < j + 5) && decide (j + 5 < 2 ^ 64)) = true := by
    have a : -(2 ^ 64) < j + 5 := by omega
    have b : j + 5 < 2 ^ 64 := by omega
    rw [decide_eq_true a, decide_eq_true b]; rfl
  have hlen : opB .len [.lst (ds.map .int)] st = .ok (.v (.int n)) st := by rw [o_lenL, List.length_map, hn]
  obtain ⟨X, hX⟩ : ∃ X, X = k * (j + 5) + j := ⟨_, rfl⟩
  have hm : ∀ ρ, evE Δ (.bin .Add (.bin .Mult (.var 1) (.bin .Add (.var 3) (.int 5))) (.var 3)) (ρ :: [some (.int k), some (.int m), some (.int j)]) st = .ok (.v (.int X)) st := fun ρ => by
    rw [hX]
    simp only [evE_bin, evE_var, evE_int, get_succ, get_zero, bind_ok, W.d_v, b_addI, b_mulK _ _ _ hj]
  have hT : ∀ s2 b, truth st (.lst (ds.map D.int)) = some b → evT Δ (.var 0) (some (.lst (ds.map D.int)) :: s2) st = .ok b st := fun s2 b h => by
    rw [evT_var, evE_var]; simp only [get_zero, bind_ok, W.d_v, h]
  have hS : ∀ m : Int, ∃ m', 0 ≤ m' ∧ exSs Δ (.cons (.set 2 (.bin .Mod (.blt .int_ (.cons (.bin .Add (.bin .Add (.bin .Mult (.var 2) (.int 16807)) (.bin .Mult (.int 69621) (.var 3))) (.int 5)) .nil)) (.int 2147483629))) .nil) [some (.lst (ds.map .int)), some (.int k), some (.int m), some (.int j)] st = .nx [some (.lst (ds.map .int)), some (.int k), some (.int m'), some (.int j)] st := fun m => by
    obtain ⟨m2, hm2⟩ : ∃ m2, m2 = (m * 16807 + 69621 * j + 5) % 2147483629 := ⟨_, rfl⟩
    refine ⟨m2, by rw [hm2]; exact mod_p0 _, ?_⟩
    have hM : opBin .Mod (.int (m * 16807 + 69621 * j + 5)) (.int 2147483629) st = .ok (.v (.int m2)) st := by rw [mod_p, ← hm2]
    simp only [step_N, step_T, ss_nil, ss_set, ss_unp, ss_par, ss_fset, ss_iset, ss_dput, ss_iaug, ss_aug, ss_faug, ss_ex, ss_ret, ss_retN, ss_pass, ss_brk, ss_if, ss_for, ss_wh, ss_rais, ss_try, exSs_forget, seqO_nx, seqO_ret, seqO_exc, seqO_bk, seqO_if, stp_ok, stp_exc, evE_var, evE_int, evE_str, evE_bl, evE_non, evE_cst, evE_fnv, evE_bin, evE_neg, evE_not, evE_and, evE_or, evE_cmp, evE_chain, evE_ite, evE_tup, evE_lst, evE_call, evE_callv, evE_rev, evE_new, evE_meth, evE_blt, evE_isi, evE_bm, evE_idx, evE_sl, evE_fld, eE_lc, eE_lcq, evE_alloc, evE_dnew, evE_dget, evE_dset, evEs_nil, evEs_cons, evT_bl, evT_not, evT_and, evT_or, evT_cmp, evT_chain, evP_no, evI_itE, evI_itZ, evI_itR1, evI_itR2, evI_itR3, get_zero, get_succ, put_zero, put_succ, wipe_nil, wipe_cons, bind_ok, bind_exc, bind_stuck, W.d_v, W.d_fr, List.set_cons_zero, List.set_cons_succ, Lc.puts, mul_a, mul_b, mul_c, b_addI, hM, o_int]
  rw [step_N]
  unfold l1_law_more
  simp only [put_succ, put_zero]
  by_cases c : ds = []
  · obtain ⟨m2, h, e⟩ := hS m
    have hT2 := fun s2 => hT s2 false (by subst c; rfl)
    refine ⟨m2, h, ?_⟩
    rw [ss_if, hT2]
    simp only [stp_ok, Bool.false_eq_true, reduceIte, ss_nil, seqO_nx]
    exact e
  · have hl : 0 < ds.length := List.length_pos_iff.mpr c
    have hl2 : (0 : Int) < n := by omega
    have hi0 : 0 ≤ X % n := Int.emod_nonneg _ (by omega)
    have hi1 : X % n < n := Int.emod_lt_of_pos _ hl2
    obtain ⟨i, hi⟩ : ∃ i, i = X % n := ⟨_, rfl⟩
    rw [← hi] at hi0 hi1
    obtain ⟨x, hx⟩ : ∃ x, ds[i.toNat]? = some x := ⟨_, List.getElem?_eq_getElem (by omega)⟩
    have hx2 : (ds.map D.int)[i.toNat]? = some (.int x) := by rw [List.getElem?_map, hx]; rfl
    have hT2 := fun s2 => hT s2 true (by
      show (some ((ds.map D.int)).isEmpty).map _ = _ <;> cases ds <;> first | (exact absurd rfl c) | rfl)
    have hx3 : opIx (.lst (ds.map D.int)) (.int i) st = .ok (.v (.int x)) st := o_ixL _ _ _ _ hi0 hx2
    have hq : opBin .Mod (.int X) (.int n) st = .ok (.v (.int i)) st := by rw [b_mod _ _ _ hl2, hi]
    obtain ⟨m2, h, e⟩ := hS (m + x)
    refine ⟨m2, h, ?_⟩
    rw [ss_if, hT2]
    simp only [stp_ok, reduceIte]
    rw [ss_set]
    have h5 : evE Δ (.bin .Add (.var 2) (.idx (.var 0) (.bin .Mod (.blt .int_ (.cons (.bin .Add (.bin .Mult (.var 1) (.bin .Add (.var 3) (.int 5))) (.var 3)) .nil)) (.blt .len (.cons (.var 0) .nil))))) [some (.lst (ds.map .int)), some (.int k), some (.int m), some (.int j)] st = .ok (.v (.int (m + x))) st := by
      have h6 : evE Δ (.bin .Mod (.blt .int_ (.cons (.bin .Add (.bin .Mult (.var 1) (.bin .Add (.var 3) (.int 5))) (.var 3)) .nil)) (.blt .len (.cons (.var 0) .nil))) [some (.lst (ds.map .int)), some (.int k), some (.int m), some (.int j)] st = .ok (.v (.int i)) st := by
        rw [evE_bin, evE_blt, evEs_cons, hm]
        simp only [evE_blt, evEs_cons, evEs_nil, evE_var, get_zero, bind_ok, W.d_v, hq, o_int, hlen]
      rw [evE_bin, evE_var]
      simp only [evE_idx, evE_var, get_zero, get_succ, bind_ok, W.d_v, h6, b_addI, hx3]
    rw [h5]
    simp only [stp_ok, ss_nil, seqO_nx, put_succ, put_zero, W.d_v]
    exact e
theorem run_more (ds : List Int) (k : Int) (st : Store) : ∃ m, 0 ≤ m ∧ Δ.fns 3 [.lst (ds.map .int), .int k] st = .ok (.v (.int m)) st := by
  rw [fn_law_more, runFn_eq _ _ _ _ rfl]
  obtain ⟨n, hn⟩ : ∃ n : Int, n = (ds.length : Nat) := ⟨_, rfl⟩
  have hlen : opB .len [.lst (ds.map .int)] st = .ok (.v (.int n)) st := by rw [o_lenL, List.length_map, hn]
  obtain ⟨m0, h00, hs⟩ : ∃ m0, 0 ≤ m0 ∧ evE Δ (.bin .Mod (.blt .int_ (.cons (.bin .Add (.bin .Add (.bin .Mult (.var 1) (.int 48271)) (.blt .len (.cons (.var 0) .nil))) (.int 11)) .nil)) (.int 2147483629)) [some (.lst (ds.map .int)), some (.int k), none, none] st = .ok (.v (.int m0)) st := by
    refine ⟨(k * 48271 + n + 11) % 2147483629, mod_p0 _, ?_⟩
    rw [← mod_p]
    simp only [evE_bin, evE_blt, evEs_cons, evEs_nil, evE_var, evE_int, get_zero, get_succ, bind_ok, W.d_v, mul_a, b_addI, hlen, o_int]
  obtain ⟨ρ', st', e, rfl, m, s, h0, rfl⟩ := forM_any (step := stepL Δ (.tgN 3) l1_law_more) (fun j ρ st' => st' = st ∧ ∃ (m : Int) (s : Option D), 0 ≤ m ∧ ρ = [some (.lst (ds.map .int)), some (.int k), some (.int m), s]) (rng 0 3) 0 (fun j ρ st' d hd hI => by
    obtain ⟨rfl, m, s, h0, rfl⟩ := hI
    obtain ⟨i, rfl, hi0, hi3⟩ := rng_mem (List.mem_of_getElem? hd)
    obtain ⟨m', h, e⟩ := more_step ds k n m hn s i st' hi0 (by omega)
    exact ⟨_, _, e, rfl, m', _, h, rfl⟩) [some (.lst (ds.map .int)), some (.int k), some (.int m0), none] st ⟨rfl, m0, none, h00, rfl⟩
  have hI : ∀ ρ, evI Δ (.itR1 (.int 3)) ρ st' = .ok (rng 0 3) st' := fun ρ => evI_rng (n := 3) (evE_int ..) (by decide) (by decide)
  refine ⟨m / 1009, Int.ediv_nonneg h0 (by decide), ?_⟩
  have hd := b_div st' m 1009 (by decide) (by decide)
  simp only [f_law_more, List.map_cons, List.map_nil, List.replicate, List.cons_append, List.nil_append, b_law_more]
  rw [ss_set, hs]
  simp only [stp_ok, put_succ, put_zero, W.d_v]
  rw [ss_for, hI]
  simp only [stp_ok, e, seqO_nx, exSs_forget, wipe_cons, wipe_nil, List.set_cons_succ, List.set_cons_zero]
  rw [ss_ret]
  simp only [evE_bin, evE_var, evE_int, get_zero, get_succ, bind_ok, W.d_v, hd, stp_ok]
  rw [finish_same _ _ (by intro n; simp) rfl]
/-- the counter of the draws -/
theorem run_ltake (ds : List Int) (k : Nat) (many : Int) (r : Store) (hm : 0 < many) : ∃ p, 0 ≤ p ∧ p < many ∧ Δ.fns 6 [.lst (ds.map .int), .ref 0, .int many] (cnt k r) = .ok (.v (.int p)) (cnt (k + 1) r) := by
  rw [fn_law_take, runFn_eq _ _ _ _ rfl]
  have h1 : opIx (.ref 0) (.int 0) (cnt k r) = .ok (.v (.int (k : Nat))) (cnt k r) := rfl
  have h2 : opSet (.ref 0) (.int 0) (.int ((k : Nat) + 1)) (cnt k r) = .ok () (cnt (k + 1) r) := rfl
  have hf : ∀ p, finish (cnt k r) (.v (.int p)) (cnt (k + 1) r) = .ok (.v (.int p)) (cnt (k + 1) r) := fun p => finish_set (cnt k r) 0 (.lst [.int ((k + 1 : Nat) : Int)]) (.int p) rfl rfl
  obtain ⟨m, hm0, em⟩ := run_more ds k (cnt (k + 1) r)
  by_cases c : k < ds.length
  · obtain ⟨x, hx⟩ : ∃ x, ds[k]? = some x := ⟨_, List.getElem?_eq_getElem (by omega)⟩
    have hx2 : opIx (.lst (ds.map D.int)) (.int (k : Nat)) (cnt (k + 1) r) = .ok (.v (.int x)) (cnt (k + 1) r) := o_ixL _ _ _ _ (by omega) (by rw [List.getElem?_map, Int.toNat_natCast, hx]; rfl)
    have c' : ((k : Nat) : Int) < (ds.length : Nat) := by omega
    refine ⟨x % many, Int.emod_nonneg _ (by omega), Int.emod_lt_of_pos _ hm, ?_⟩
    simp [f_law_take, b_law_take, step_N, step_T, ss_nil, ss_set, ss_unp, ss_par, ss_fset, ss_iset, ss_dput, ss_iaug, ss_aug, ss_faug, ss_ex, ss_ret, ss_retN, ss_pass, ss_brk, ss_if, ss_for, ss_wh, ss_rais, ss_try, exSs_forget, seqO_nx, seqO_ret, seqO_exc, seqO_bk, seqO_if, stp_ok, stp_exc, evE_var, evE_int, evE_str, evE_bl, evE_non, evE_cst, evE_fnv, evE_bin, evE_neg, evE_not, evE_and, evE_or, evE_cmp, evE_chain, evE_ite, evE_tup, evE_lst, evE_call, evE_callv, evE_rev, evE_new, evE_meth, evE_blt, evE_isi, evE_bm, evE_idx, evE_sl, evE_fld, eE_lc, eE_lcq, evE_alloc, evE_dnew, evE_dget, evE_dset, evEs_nil, evEs_cons, evT_bl, evT_not, evT_and, evT_or, evT_cmp, evT_chain, evP_no, evI_itE, evI_itZ, evI_itR1, evI_itR2, evI_itR3, get_zero, get_succ, put_zero, put_succ, wipe_nil, wipe_cons, bind_ok, bind_exc, bind_stuck, W.d_v, W.d_fr, List.set_cons_zero, List.set_cons_succ, Lc.puts, h1, b_addI, h2, cB_lt, o_lenL, c, c', hx2, o_int, b_mod, hm]
    exact hf _
  · have c' : ¬ ((k : Nat) : Int) < (ds.length : Nat) := by omega
    refine ⟨m % many, Int.emod_nonneg _ (by omega), Int.emod_lt_of_pos _ hm, ?_⟩
    simp [f_law_take, b_law_take, step_N, step_T, ss_nil, ss_set, ss_unp, ss_par, ss_fset, ss_iset, ss_dput, ss_iaug, ss_aug, ss_faug, ss_ex, ss_ret, ss_retN, ss_pass, ss_brk, ss_if, ss_for, ss_wh, ss_rais, ss_try, exSs_forget, seqO_nx, seqO_ret, seqO_exc, seqO_bk, seqO_if, stp_ok, stp_exc, evE_var, evE_int, evE_str, evE_bl, evE_non, evE_cst, evE_fnv, evE_bin, evE_neg, evE_not, evE_and, evE_or, evE_cmp, evE_chain, evE_ite, evE_tup, evE_lst, evE_call, evE_callv, evE_rev, evE_new, evE_meth, evE_blt, evE_isi, evE_bm, evE_idx, evE_sl, evE_fld, eE_lc, eE_lcq, evE_alloc, evE_dnew, evE_dget, evE_dset, evEs_nil, evEs_cons, evT_bl, evT_not, evT_and, evT_or, evT_cmp, evT_chain, evP_no, evI_itE, evI_itZ, evI_itR1, evI_itR2, evI_itR3, get_zero, get_succ, put_zero, put_succ, wipe_nil, wipe_cons, bind_ok, bind_exc, bind_stuck, W.d_v, W.d_fr, List.set_cons_zero, List.set_cons_succ, Lc.puts, h1, b_addI, h2, cB_lt, o_lenL, c, c', em, o_int, b_mod, hm]
    exact hf _
theorem run_lone (L : List D) (ds : List Int) (k : Nat) (r : Store) (hL : L ≠ []) (hd : isDatas L = true) : ∃ d ∈ L, Δ.fns 7 [.lst L, .lst (ds.map .int), .ref 0] (cnt k r) = .ok (.v d) (cnt (k + 1) r) := by
  rw [fn_law_one, runFn_eq _ _ _ _ rfl]
  have hl : 0 < L.length := List.length_pos_iff.mpr hL
  obtain ⟨p, h0, h1, e⟩ := run_ltake ds k (L.length : Nat) r (by omega)
  obtain ⟨x, hx⟩ : ∃ x, L[p.toNat]? = some x := ⟨_, List.getElem?_eq_getElem (by omega)⟩
  have hm : x ∈ L := List.mem_of_getElem? hx
  refine ⟨x, hm, ?_⟩
  have hx2 : opIx (.lst L) (.int p) (cnt (k + 1) r) = .ok (.v x) (cnt (k + 1) r) := o_ixL _ _ _ _ h0 hx
  simp [f_law_one, b_law_one, step_N, step_T, ss_nil, ss_set, ss_unp, ss_par, ss_fset, ss_iset, ss_dput, ss_iaug, ss_aug, ss_faug, ss_ex, ss_ret, ss_retN, ss_pass, ss_brk, ss_if, ss_for, ss_wh, ss_rais, ss_try, exSs_forget, seqO_nx, seqO_ret, seqO_exc, seqO_bk, seqO_if, stp_ok, stp_exc, evE_var, evE_int, evE_str, evE_bl, evE_non, evE_cst, evE_fnv, evE_bin, evE_neg, evE_not, evE_and, evE_or, evE_cmp, evE_chain, evE_ite, evE_tup, evE_lst, evE_call, evE_callv, evE_rev, evE_new, evE_meth, evE_blt, evE_isi, evE_bm, evE_idx, evE_sl, evE_fld, eE_lc, eE_lcq, evE_alloc, evE_dnew, evE_dget, evE_dset, evEs_nil, evEs_cons, evT_bl, evT_not, evT_and, evT_or, evT_cmp, evT_chain, evP_no, evI_itE, evI_itZ, evI_itR1, evI_itR2, evI_itR3, get_zero, get_succ, put_zero, put_succ, wipe_nil, wipe_cons, bind_ok, bind_exc, bind_stuck, W.d_v, W.d_fr, List.set_cons_zero, List.set_cons_succ, Lc.puts, o_lenL, e, hx2]
  exact finish_set (cnt k r) 0 (.lst [.int ((k + 1 : Nat) : Int)]) x rfl (below_data _ _ (isDatas_mem hm hd))
theorem big_loop (n : Nat) (st : Store) (hn : n = st.length) (a c s5 : Option D) : ∀ (l : List D) (r : Int) (ds : List Int) (s4 : Option D), 0 ≤ r → (∀ d ∈ ds, 0 ≤ d) → ds.length + l.length < 1000000 → ∃ (r' : Int) (ds' : List Int) (s4' : Option D), (∀ d ∈ ds', 0 ≤ d) ∧ ds'.length ≤ ds.length + l.length ∧ forM (stepL Δ (.tgN 4) l1_law_draws) l [a, some (.ref n), c, some (.int r), s4, s5] (st ++ [.lst (ds.map .int)]) = .nx [a, some (.ref n), c, some (.int r'), s4', s5] (st ++ [.lst (ds'.map .int)])
  | [], r, ds, s4, hr, hd, hl => ⟨r, ds, s4, hd, by simp, rfl⟩
  | d :: l, r, ds, s4, hr, hd, hl => by
    subst hn
    by_cases c1 : 0 < r
    · have hbm : bmOk .append (.ref st.length) (st ++ [.lst (ds.map D.int)]) = true := bm_app _ _
      have hap : opBM .append (.ref st.length) [.int (r % 1009)] (st ++ [.lst (ds.map D.int)]) = .ok (.v .non) (st ++ [.lst ((ds ++ [r % 1009]).map D.int)]) := by
        rw [o_app _ _ _ (by simp [big]; simp at hl; omega)]; simp
      have e : stepL Δ (.tgN 4) l1_law_draws d [a, some (.ref st.length), c, some (.int r), s4, s5] (st ++ [.lst (ds.map .int)]) = .nx [a, some (.ref st.length), c, some (.int (r / 1009)), some d, s5] (st ++ [.lst ((ds ++ [r % 1009]).map .int)]) := by
        simp [step_N, step_T, ss_nil, ss_set, ss_unp, ss_par, ss_fset, ss_iset, ss_dput, ss_iaug, ss_aug, ss_faug, ss_ex, ss_ret, ss_retN, ss_pass, ss_brk, ss_if, ss_for, ss_wh, ss_rais, ss_try, exSs_forget, seqO_nx, seqO_ret, seqO_exc, seqO_bk, seqO_if, stp_ok, stp_exc, evE_var, evE_int, evE_str, evE_bl, evE_non, evE_cst, evE_fnv, evE_bin, evE_neg, evE_not, evE_and, evE_or, evE_cmp, evE_chain, evE_ite, evE_tup, evE_lst, evE_call, evE_callv, evE_rev, evE_new, evE_meth, evE_blt, evE_isi, evE_bm, evE_idx, evE_sl, evE_fld, eE_lc, eE_lcq, evE_alloc, evE_dnew, evE_dget, evE_dset, evEs_nil, evEs_cons, evT_bl, evT_not, evT_and, evT_or, evT_cmp, evT_chain, evP_no, evI_itE, evI_itZ, evI_itR1, evI_itR2, evI_itR3, get_zero, get_succ, put_zero, put_succ, wipe_nil, wipe_cons, bind_ok, bind_exc, bind_stuck, W.d_v, W.d_fr, List.set_cons_zero, List.set_cons_succ, Lc.puts, l1_law_draws, cB_gt, c1, hbm, o_int, b_mod, b_div, -List.map_append]
        simp [hap, step_N, step_T, ss_nil, ss_set, ss_unp, ss_par, ss_fset, ss_iset, ss_dput, ss_iaug, ss_aug, ss_faug, ss_ex, ss_ret, ss_retN, ss_pass, ss_brk, ss_if, ss_for, ss_wh, ss_rais, ss_try, exSs_forget, seqO_nx, seqO_ret, seqO_exc, seqO_bk, seqO_if, stp_ok, stp_exc, evE_var, evE_int, evE_str, evE_bl, evE_non, evE_cst, evE_fnv, evE_bin, evE_neg, evE_not, evE_and, evE_or, evE_cmp, evE_chain, evE_ite, evE_tup, evE_lst, evE_call, evE_callv, evE_rev, evE_new, evE_meth, evE_blt, evE_isi, evE_bm, evE_idx, evE_sl, evE_fld, eE_lc, eE_lcq, evE_alloc, evE_dnew, evE_dget, evE_dset, evEs_nil, evEs_cons, evT_bl, evT_not, evT_and, evT_or, evT_cmp, evT_chain, evP_no, evI_itE, evI_itZ, evI_itR1, evI_itR2, evI_itR3, get_zero, get_succ, put_zero, put_succ, wipe_nil, wipe_cons, bind_ok, bind_exc, bind_stuck, W.d_v, W.d_fr, List.set_cons_zero, List.set_cons_succ, Lc.puts, b_div]
      obtain ⟨r', ds', s4', h1, h2, h3⟩ := big_loop st.length st rfl a c s5 l (r / 1009) (ds ++ [r % 1009]) (some d) (by omega) (fun x hx => by
        rcases List.mem_append.mp hx with hx | hx
        · exact hd x hx
        · simp at hx; subst hx; exact Int.emod_nonneg _ (by decide)) (by simp at hl ⊢; omega)
      exact ⟨r', ds', s4', h1, by simp at h2 ⊢; omega, by rw [forM_nx e, h3]⟩
    · have e : stepL Δ (.tgN 4) l1_law_draws d [a, some (.ref st.length), c, some (.int r), s4, s5] (st ++ [.lst (ds.map .int)]) = .nx [a, some (.ref st.length), c, some (.int r), some d, s5] (st ++ [.lst (ds.map .int)]) := by
        simp [step_N, step_T, ss_nil, ss_set, ss_unp, ss_par, ss_fset, ss_iset, ss_dput, ss_iaug, ss_aug, ss_faug, ss_ex, ss_ret, ss_retN, ss_pass, ss_brk, ss_if, ss_for, ss_wh, ss_rais, ss_try, exSs_forget, seqO_nx, seqO_ret, seqO_exc, seqO_bk, seqO_if, stp_ok, stp_exc, evE_var, evE_int, evE_str, evE_bl, evE_non, evE_cst, evE_fnv, evE_bin, evE_neg, evE_not, evE_and, evE_or, evE_cmp, evE_chain, evE_ite, evE_tup, evE_lst, evE_call, evE_callv, evE_rev, evE_new, evE_meth, evE_blt, evE_isi, evE_bm, evE_idx, evE_sl, evE_fld, eE_lc, eE_lcq, evE_alloc, evE_dnew, evE_dget, evE_dset, evEs_nil, evEs_cons, evT_bl, evT_not, evT_and, evT_or, evT_cmp, evT_chain, evP_no, evI_itE, evI_itZ, evI_itR1, evI_itR2, evI_itR3, get_zero, get_succ, put_zero, put_succ, wipe_nil, wipe_cons, bind_ok, bind_exc, bind_stuck, W.d_v, W.d_fr, List.set_cons_zero, List.set_cons_succ, Lc.puts, l1_law_draws, cB_gt, c1]
      obtain ⟨r', ds', s4', h1, h2, h3⟩ := big_loop st.length st rfl a c s5 l r ds (some d) hr hd (by simp at hl ⊢; omega)
      exact ⟨r', ds', s4', h1, by simp at h2 ⊢; omega, by rw [forM_nx e, h3]⟩
theorem small_loop (n : Nat) (st : Store) (hn : n = st.length) (a c s3 : Option D) : ∀ (l : List D) (m : Int) (ds : List Int) (s4 : Option D), (∀ d ∈ l, ∃ i, d = .int i) → (∀ d ∈ ds, 0 ≤ d) → ds.length + l.length < 1000000 → ∃ (m' : Int) (ds' : List Int) (s4' : Option D), (∀ d ∈ ds', 0 ≤ d) ∧ ds'.length ≤ ds.length + l.length ∧ forM (stepL Δ (.tgN 4) l2_law_draws) l [a, some (.ref n), c, s3, s4, some (.int m)] (st ++ [.lst (ds.map .int)]) = .nx [a, some (.ref n), c, s3, s4', some (.int m')] (st ++ [.lst (ds'.map .int)])
  | [], m, ds, s4, hi, hd, hl => ⟨m, ds, s4, hd, by simp, rfl⟩
  | d :: l, m, ds, s4, hi, hd, hl => by
    subst hn
    obtain ⟨j, rfl⟩ := hi d List.mem_cons_self
    have hbm : bmOk .append (.ref st.length) (st ++ [.lst (ds.map D.int)]) = true := bm_app _ _
    obtain ⟨m2, hm2⟩ : ∃ m2, m2 = (m * 16807 + 69621 * j + 5) % 2147483629 := ⟨_, rfl⟩
    have h0 : 0 ≤ m2 := by rw [hm2]; exact Int.emod_nonneg _ (by decide)
    have hap : opBM .append (.ref st.length) [.int (m2 / 1009)] (st ++ [.lst (ds.map D.int)]) = .ok (.v .non) (st ++ [.lst ((ds ++ [m2 / 1009]).map D.int)]) := by
      rw [o_app _ _ _ (by simp [big]; simp at hl; omega)]; simp
    have e : stepL Δ (.tgN 4) l2_law_draws (.int j) [a, some (.ref st.length), c, s3, s4, some (.int m)] (st ++ [.lst (ds.map .int)]) = .nx [a, some (.ref st.length), c, s3, some (.int j), some (.int m2)] (st ++ [.lst ((ds ++ [m2 / 1009]).map .int)]) := by
      simp [step_N, step_T, ss_nil, ss_set, ss_unp, ss_par, ss_fset, ss_iset, ss_dput, ss_iaug, ss_aug, ss_faug, ss_ex, ss_ret, ss_retN, ss_pass, ss_brk, ss_if, ss_for, ss_wh, ss_rais, ss_try, exSs_forget, seqO_nx, seqO_ret, seqO_exc, seqO_bk, seqO_if, stp_ok, stp_exc, evE_var, evE_int, evE_str, evE_bl, evE_non, evE_cst, evE_fnv, evE_bin, evE_neg, evE_not, evE_and, evE_or, evE_cmp, evE_chain, evE_ite, evE_tup, evE_lst, evE_call, evE_callv, evE_rev, evE_new, evE_meth, evE_blt, evE_isi, evE_bm, evE_idx, evE_sl, evE_fld, eE_lc, eE_lcq, evE_alloc, evE_dnew, evE_dget, evE_dset, evEs_nil, evEs_cons, evT_bl, evT_not, evT_and, evT_or, evT_cmp, evT_chain, evP_no, evI_itE, evI_itZ, evI_itR1, evI_itR2, evI_itR3, get_zero, get_succ, put_zero, put_succ, wipe_nil, wipe_cons, bind_ok, bind_exc, bind_stuck, W.d_v, W.d_fr, List.set_cons_zero, List.set_cons_succ, Lc.puts, l2_law_draws, hbm, o_int, b_mod, b_div, mul_a, mul_b, mul_c, b_addI, ← hm2, -List.map_append]
      simp [hap, step_N, step_T, ss_nil, ss_set, ss_unp, ss_par, ss_fset, ss_iset, ss_dput, ss_iaug, ss_aug, ss_faug, ss_ex, ss_ret, ss_retN, ss_pass, ss_brk, ss_if, ss_for, ss_wh, ss_rais, ss_try, exSs_forget, seqO_nx, seqO_ret, seqO_exc, seqO_bk, seqO_if, stp_ok, stp_exc, evE_var, evE_int, evE_str, evE_bl, evE_non, evE_cst, evE_fnv, evE_bin, evE_neg, evE_not, evE_and, evE_or, evE_cmp, evE_chain, evE_ite, evE_tup, evE_lst, evE_call, evE_callv, evE_rev, evE_new, evE_meth, evE_blt, evE_isi, evE_bm, evE_idx, evE_sl, evE_fld, eE_lc, eE_lcq, evE_alloc, evE_dnew, evE_dget, evE_dset, evEs_nil, evEs_cons, evT_bl, evT_not, evT_and, evT_or, evT_cmp, evT_chain, evP_no, evI_itE, evI_itZ, evI_itR1, evI_itR2, evI_itR3, get_zero, get_succ, put_zero, put_succ, wipe_nil, wipe_cons, bind_ok, bind_exc, bind_stuck, W.d_v, W.d_fr, List.set_cons_zero, List.set_cons_succ, Lc.puts]
    obtain ⟨r', ds', s4', h1, h2, h3⟩ := small_loop st.length st rfl a c s3 l m2 (ds ++ [m2 / 1009]) (some (.int j)) (fun d hd => hi d (List.mem_cons_of_mem _ hd)) (fun x hx => by
        rcases List.mem_append.mp hx with hx | hx
        · exact hd x hx
        · simp at hx; subst hx; omega) (by simp at hl ⊢; omega)
    exact ⟨r', ds', s4', h1, by simp at h2 ⊢; omega, by rw [forM_nx e, h3]⟩
theorem run_draws (ns : List Int) (st : Store) : ∃ ds : List Int, (∀ d ∈ ds, 0 ≤ d) ∧ Δ.fns 1 [.scr (ns.map .int)] st = .ok (.fr (ds.map .int)) st := by
  rw [fn_law_draws, runFn_eq _ _ _ _ rfl]
  have hc : ∃ cs : List Int, cs.length ≤ 63 ∧ cut (ns.map D.int) none (some 63) = cs.map .int := ⟨ns.take 63, by simp; omega, by
    unfold cut sIxN
    simp only [List.drop_zero, Nat.sub_zero, List.length_map]
    rw [if_neg (by omega), ← List.map_take]
    congr 1
    rw [show (63 : Int).toNat = 63 from rfl, List.take_eq_take_iff]; omega⟩
  obtain ⟨cs, hcl, hc⟩ := hc
  obtain ⟨ρ', st', e, ds, s2, s3, s4, s5, hd, hl, rfl, rfl⟩ := forM_any (step := stepL Δ (.tgN 2) l3_law_draws) (fun j ρ st' => ∃ (ds : List Int) (s2 s3 s4 s5 : Option D), (∀ d ∈ ds, 0 ≤ d) ∧ ds.length ≤ 60 * j ∧ ρ = [some (.scr (ns.map .int)), some (.ref st.length), s2, s3, s4, s5] ∧ st' = st ++ [.lst (ds.map .int)]) (cs.map .int) 0 (fun j ρ st' d hd hI => by
    obtain ⟨ds, s2, s3, s4, s5, hds, hl, rfl, rfl⟩ := hI
    have hj : j < 63 := by have := (List.getElem?_eq_some_iff.mp hd).1; simp at this; omega
    obtain ⟨x, _, rfl⟩ := List.mem_map.mp (List.mem_of_getElem? hd)
    obtain ⟨y, hy⟩ : ∃ y : Int, y = if x < 0 then -x else x := ⟨_, rfl⟩
    have hy0 : 0 ≤ y := by rw [hy]; split <;> omega
    have ha : opB .abs_ [.int x] (st ++ [.lst (ds.map .int)]) = .ok (.v (.int y)) (st ++ [.lst (ds.map .int)]) := by rw [hy]; rfl
    have hp : opBin .Pow (.int 10) (.int 18) (st ++ [.lst (ds.map .int)]) = .ok (.v (.int 1000000000000000000)) (st ++ [.lst (ds.map .int)]) := by simp [opBin]
    by_cases c : 1000000000000000000 ≤ y
    · obtain ⟨r', ds', s4', h1, h2, h3⟩ := big_loop st.length st rfl (some (.scr (ns.map .int))) (some (.int x)) s5 (rng 0 60) y ds s4 hy0 hds (by rw [rng_len]; omega)
      rw [rng_len] at h2
      have hI : ∀ ρ st, evI Δ (.itR1 (.int 60)) ρ st = .ok (rng 0 60) st := fun ρ st => evI_rng (n := 60) (evE_int ..) (by omega) (by omega)
      refine ⟨_, _, ?_, ds', some (.int x), some (.int r'), s4', s5, h1, by omega, rfl, rfl⟩
      simp [step_N, step_T, ss_nil, ss_set, ss_unp, ss_par, ss_fset, ss_iset, ss_dput, ss_iaug, ss_aug, ss_faug, ss_ex, ss_ret, ss_retN, ss_pass, ss_brk, ss_if, ss_for, ss_wh, ss_rais, ss_try, exSs_forget, seqO_nx, seqO_ret, seqO_exc, seqO_bk, seqO_if, stp_ok, stp_exc, evE_var, evE_int, evE_str, evE_bl, evE_non, evE_cst, evE_fnv, evE_bin, evE_neg, evE_not, evE_and, evE_or, evE_cmp, evE_chain, evE_ite, evE_tup, evE_lst, evE_call, evE_callv, evE_rev, evE_new, evE_meth, evE_blt, evE_isi, evE_bm, evE_idx, evE_sl, evE_fld, eE_lc, eE_lcq, evE_alloc, evE_dnew, evE_dget, evE_dset, evEs_nil, evEs_cons, evT_bl, evT_not, evT_and, evT_or, evT_cmp, evT_chain, evP_no, evI_itE, evI_itZ, evI_itR2, evI_itR3, get_zero, get_succ, put_zero, put_succ, wipe_nil, wipe_cons, bind_ok, bind_exc, bind_stuck, W.d_v, W.d_fr, List.set_cons_zero, List.set_cons_succ, Lc.puts, l3_law_draws, ha, hp, cB_ge, c, hI, h3]
    · obtain ⟨r', ds', s4', h1, h2, h3⟩ := small_loop st.length st rfl (some (.scr (ns.map .int))) (some (.int x)) (some (.int y)) (rng 0 12) ((y * 48271 + 11) % 2147483647) ds s4 (fun d hd => by obtain ⟨i, e, _⟩ := rng_mem hd; exact ⟨i, e⟩) hds (by rw [rng_len]; omega)
      rw [rng_len] at h2
      have hI : ∀ ρ st, evI Δ (.itR1 (.int 12)) ρ st = .ok (rng 0 12) st := fun ρ st => evI_rng (n := 12) (evE_int ..) (by omega) (by omega)
      refine ⟨_, _, ?_, ds', some (.int x), some (.int y), none, none, h1, by omega, rfl, rfl⟩
      simp [step_N, step_T, ss_nil, ss_set, ss_unp, ss_par, ss_fset, ss_iset, ss_dput, ss_iaug, ss_aug, ss_faug, ss_ex, ss_ret, ss_retN, ss_pass, ss_brk, ss_if, ss_for, ss_wh, ss_rais, ss_try, exSs_forget, seqO_nx, seqO_ret, seqO_exc, seqO_bk, seqO_if, stp_ok, stp_exc, evE_var, evE_int, evE_str, evE_bl, evE_non, evE_cst, evE_fnv, evE_bin, evE_neg, evE_not, evE_and, evE_or, evE_cmp, evE_chain, evE_ite, evE_tup, evE_lst, evE_call, evE_callv, evE_rev, evE_new, evE_meth, evE_blt, evE_isi, evE_bm, evE_idx, evE_sl, evE_fld, eE_lc, eE_lcq, evE_alloc, evE_dnew, evE_dget, evE_dset, evEs_nil, evEs_cons, evT_bl, evT_not, evT_and, evT_or, evT_cmp, evT_chain, evP_no, evI_itE, evI_itZ, evI_itR2, evI_itR3, get_zero, get_succ, put_zero, put_succ, wipe_nil, wipe_cons, bind_ok, bind_exc, bind_stuck, W.d_v, W.d_fr, List.set_cons_zero, List.set_cons_succ, Lc.puts, l3_law_draws, ha, hp, cB_ge, c, hI, h3, mul_a, b_addI, b_mod, o_int]) [some (.scr (ns.map .int)), some (.ref st.length), none, none, none, none] (st ++ [.lst (([] : List Int).map .int)]) ⟨[], none, none, none, none, by simp, by simp, rfl, rfl⟩
  refine ⟨ds, hd, ?_⟩
  have hf : finish st (.v (.ref st.length)) (st ++ [.lst (ds.map D.int)]) = .ok (.fr (ds.map D.int)) st := by
    unfold finish
    rw [if_pos ⟨by simp, fun n o hn h => .inl (by rwa [List.getElem?_append_left hn] at h)⟩]
    dsimp only
    rw [if_neg (by simp [below]), get_last]
    dsimp only
    rw [if_pos (below_ints _ _), List.take_left' rfl]
  simp only [List.map_nil] at e
  have hcl2 : cs.length ≤ big := by unfold big; omega
  simp [f_law_draws, b_law_draws, step_N, step_T, ss_nil, ss_set, ss_unp, ss_par, ss_fset, ss_iset, ss_dput, ss_iaug, ss_aug, ss_faug, ss_ex, ss_ret, ss_retN, ss_pass, ss_brk, ss_if, ss_for, ss_wh, ss_rais, ss_try, exSs_forget, seqO_nx, seqO_ret, seqO_exc, seqO_bk, seqO_if, stp_ok, stp_exc, evE_var, evE_int, evE_str, evE_bl, evE_non, evE_cst, evE_fnv, evE_bin, evE_neg, evE_not, evE_and, evE_or, evE_cmp, evE_chain, evE_ite, evE_tup, evE_lst, evE_call, evE_callv, evE_rev, evE_new, evE_meth, evE_blt, evE_isi, evE_bm, evE_idx, evE_sl, evE_fld, eE_lc, eE_lcq, evE_alloc, evE_dnew, evE_dget, evE_dset, evEs_nil, evEs_cons, evT_bl, evT_not, evT_and, evT_or, evT_cmp, evT_chain, evP_no, evI_itE, evI_itZ, evI_itR1, evI_itR2, evI_itR3, get_zero, get_succ, put_zero, put_succ, wipe_nil, wipe_cons, bind_ok, bind_exc, bind_stuck, W.d_v, W.d_fr, List.set_cons_zero, List.set_cons_succ, Lc.puts, big, opSl, hc, hcl2, evP_some, e]
  exact hf
theorem take_s (ds : List Int) (k : Nat) (many : Int) (r : Store) {Q : W → Store → Prop} {X} (hm : 0 < many) (h : ∀ p : Nat, (p : Int) < many → Q (.v (.int (p : Nat))) (cnt (k + 1) r)) : (Δ.fns 6 [.lst (ds.map .int), .ref 0, .int many] (cnt k r)).sat Q X := by
  obtain ⟨p, h1, h2, e⟩ := run_ltake ds k many r hm
  rw [e, sat_ok]
  have := h p.toNat (by omega)
  rwa [Int.toNat_of_nonneg h1] at this
theorem fin_cnt (k k' : Nat) (r : Store) (d : D) (h : isData d = true) : finish (cnt k r) (.v d) (cnt k' r) = .ok (.v d) (cnt k' r) := fin_se (cnt k r) 0 (.lst [.int (k' : Nat)]) d rfl h
theorem one_s (L : List D) (ds : List Int) (k : Nat) (r : Store) {Q : W → Store → Prop} {X} (hL : L ≠ []) (hd : isDatas L = true) (h : ∀ d ∈ L, Q (.v d) (cnt (k + 1) r)) : (Δ.fns 7 [.lst L, .lst (ds.map .int), .ref 0] (cnt k r)).sat Q X := by
  obtain ⟨d, h1, e⟩ := run_lone L ds k r hL hd
  rw [e, sat_ok]
  exact h d h1
theorem one_t (L : List D) (ds : List Int) (k : Nat) (r : Store) {Q : W → Store → Prop} {X} (hL : L ≠ []) (hd : isDatas L = true) (h : ∀ d ∈ L, Q (.v d) (cnt (k + 1) r)) : (Δ.fns 7 [.tup L, .lst (ds.map .int), .ref 0] (cnt k r)).sat Q X := by
  have hl : 0 < L.length := by cases L <;> simp at hL ⊢
  rw [fn_law_one]
  refine run_sat _ _ _ rfl ?_
  simp only [f_law_one, b_law_one, List.map_cons, List.map_nil, List.cons_append, List.nil_append, List.replicate]
  simp (disch := (first | assumption | rfl | omega | (simp only [List.length_cons, List.length_nil, List.length_map, List.length_append, List.length_replicate, List.length_singleton, List.length_take, List.length_drop, List.length_reverse, rng_l, rngC_l, big, W_E, Bool.and_self, Bool.and_true, Bool.true_and]; first | done | omega))) only [W_A, W_B, W_C, W_D, reduceIte, Int.reduceLT, Int.reduceLE, Int.reduceGT, Int.reduceGE, Int.reduceEq, Int.reduceNe, Int.reduceAdd, Int.reduceSub, Int.reduceMul, Int.reduceNeg, Int.reduceToNat, Nat.reduceAdd, Nat.reduceSub, Nat.reduceBEq, Nat.reduceEqDiff, List.lookup, putN, Option.isSome_some, Option.isSome_none, Option.toList, List.length_cons, List.length_nil, List.length_map, List.length_append, List.length_replicate, List.length_singleton, List.isEmpty_cons, List.isEmpty_nil, bne_self_eq_false, List.cons_append, List.nil_append, List.zip_cons_cons, List.zip_nil_left, ne_eq]
  refine take_s _ _ _ _ (by omega) fun p hp => ?_
  have hp : p < L.length := by omega
  simp (disch := (first | assumption | rfl | omega | (simp only [List.length_cons, List.length_nil, List.length_map, List.length_append, List.length_replicate, List.length_singleton, List.length_take, List.length_drop, List.length_reverse, rng_l, rngC_l, big, W_E, Bool.and_self, Bool.and_true, Bool.true_and]; first | done | omega))) only [W_A, W_B, W_C, W_D, reduceIte, Int.reduceLT, Int.reduceLE, Int.reduceGT, Int.reduceGE, Int.reduceEq, Int.reduceNe, Int.reduceAdd, Int.reduceSub, Int.reduceMul, Int.reduceNeg, Int.reduceToNat, Nat.reduceAdd, Nat.reduceSub, Nat.reduceBEq, Nat.reduceEqDiff, List.lookup, putN, Option.isSome_some, Option.isSome_none, Option.toList, List.length_cons, List.length_nil, List.length_map, List.length_append, List.length_replicate, List.length_singleton, List.isEmpty_cons, List.isEmpty_nil, bne_self_eq_false, List.cons_append, List.nil_append, List.zip_cons_cons, List.zip_nil_left, ne_eq, ix_nat _ (List.getElem?_eq_getElem hp)]
  rw [fin_cnt _ _ _ _ (isDatas_mem (List.getElem_mem hp) hd), sat_ok]
  exact h _ (List.getElem_mem hp)
end Fw.K00

/-! ## Ja -/
set_option Elab.async false
set_option linter.all false
set_option maxRecDepth 100000
set_option maxHeartbeats 4000000
/-! k00: limits; what is raised and caught. -/
namespace Fw.K00
open PySem PySem.Spec PyProof.Rows L2
theorem fin_fr (st : Store) (ds : List D) (h : isDatas ds = true) : finish st (.fr ds) st = .ok (.fr ds) st := by
  have hb : belows st.length ds = true := by
    have := below_of st.length (.lst ds) (by simp only [isData]; exact h)
    simpa [below] using this
  unfold finish
  rw [if_pos ⟨Nat.le_refl _, fun n o _ e => .inl e⟩]
  dsimp only
  rw [if_pos hb, List.take_length]
def limL : List Int := [1200, 256, 34, 512, 12, 300, 4095, 6000, 24, 12, 128, 200, 20000, 1020, 3]
theorem limits_s (st : Store) : Δ.fns 2 [] st = .ok (.v (.bl true)) st := by
  refine sat_eq ?_
  rw [fn_law_limits_right]
  refine run_sat _ _ _ rfl ?_
  simp only [f_law_limits_right, b_law_limits_right, List.map_cons, List.map_nil, List.cons_append, List.nil_append, List.replicate]
  obtain ⟨s, hs, hrep⟩ := repr_ok (.lst (limL.map .int)) (by rw [rOk]; exact rOks_ints _ (by decide)) (by show wgts _ ≤ 20000; rw [wgts_ints]; decide) (by show hgts _ + 1 ≤ 64; rw [hgts_ints]; decide)
  simp only [limL, List.map_cons, List.map_nil] at hrep
  have ee := fun st => u_eqM _ st hs
  simp (disch := (first | assumption | rfl | omega | (simp only [List.length_cons, List.length_nil, List.length_map, List.length_append, List.length_replicate, List.length_singleton, List.length_take, List.length_drop, List.length_reverse, rng_l, rngC_l, big, W_E, Bool.and_self, Bool.and_true, Bool.true_and]; first | done | omega))) only [W_A, W_B, W_C, W_D, reduceIte, Int.reduceLT, Int.reduceLE, Int.reduceGT, Int.reduceGE, Int.reduceEq, Int.reduceNe, Int.reduceAdd, Int.reduceSub, Int.reduceMul, Int.reduceNeg, Int.reduceToNat, Nat.reduceAdd, Nat.reduceSub, Nat.reduceBEq, Nat.reduceEqDiff, List.lookup, putN, Option.isSome_some, Option.isSome_none, Option.toList, List.length_cons, List.length_nil, List.length_map, List.length_append, List.length_replicate, List.length_singleton, List.isEmpty_cons, List.isEmpty_nil, bne_self_eq_false, List.cons_append, List.nil_append, List.zip_cons_cons, List.zip_nil_left, ne_eq, W_X, hrep, ee]
  (first | done | trivial | exact ⟨rfl, rfl⟩ | exact ⟨rfl, rfl, rfl⟩)
/-- what the def number k raises -/
def exn (k : Nat) (one other : D) : Nat × List (Nat × D) := match k with
  | 0 => (2, [(0, one)])
  | 1 => (4, [(0, one)])
  | 2 => (5, [(0, one)])
  | 3 => (3, [(0, one)])
  | 4 => (6, [(1, one)])
  | 5 => (7, [(1, one), (0, other)])
  | _ => (8, [(2, one)])
theorem raise_s (k : Nat) (hk : k < 7) (one other : D) (st : Store) : Δ.fns 0 [.int (k : Nat), one, other] st = .exc (exn k one other).1 (exn k one other).2 st := by
  refine sat_eqX ?_
  rw [fn_law_raise]
  refine run_sat _ _ _ rfl ?_
  simp only [f_law_raise, b_law_raise, List.map_cons, List.map_nil, List.cons_append, List.nil_append, List.replicate]
  match k, hk with
  | 0, _ => simp (disch := (first | assumption | rfl | omega | (simp only [List.length_cons, List.length_nil, List.length_map, List.length_append, List.length_replicate, List.length_singleton, List.length_take, List.length_drop, List.length_reverse, rng_l, rngC_l, big, W_E, Bool.and_self, Bool.and_true, Bool.true_and]; first | done | omega))) only [W_A, W_B, W_C, W_D, reduceIte, Int.reduceLT, Int.reduceLE, Int.reduceGT, Int.reduceGE, Int.reduceEq, Int.reduceNe, Int.reduceAdd, Int.reduceSub, Int.reduceMul, Int.reduceNeg, Int.reduceToNat, Nat.reduceAdd, Nat.reduceSub, Nat.reduceBEq, Nat.reduceEqDiff, List.lookup, putN, Option.isSome_some, Option.isSome_none, Option.toList, List.length_cons, List.length_nil, List.length_map, List.length_append, List.length_replicate, List.length_singleton, List.isEmpty_cons, List.isEmpty_nil, bne_self_eq_false, List.cons_append, List.nil_append, List.zip_cons_cons, List.zip_nil_left, ne_eq, W_X, exn]; (first | done | trivial | exact ⟨rfl, rfl⟩ | exact ⟨rfl, rfl, rfl⟩)
  | 1, _ => simp (disch := (first | assumption | rfl | omega | (simp only [List.length_cons, List.length_nil, List.length_map, List.length_append, List.length_replicate, List.length_singleton, List.length_take, List.length_drop, List.length_reverse, rng_l, rngC_l, big, W_E, Bool.and_self, Bool.and_true, Bool.true_and]; first | done | omega))) only [W_A, W_B, W_C, W_D, reduceIte, Int.reduceLT, Int.reduceLE, Int.reduceGT, Int.reduceGE, Int.reduceEq, Int.reduceNe, Int.reduceAdd, Int.reduceSub, Int.reduceMul, Int.reduceNeg, Int.reduceToNat, Nat.reduceAdd, Nat.reduceSub, Nat.reduceBEq, Nat.reduceEqDiff, List.lookup, putN, Option.isSome_some, Option.isSome_none, Option.toList, List.length_cons, List.length_nil, List.length_map, List.length_append, List.length_replicate, List.length_singleton, List.isEmpty_cons, List.isEmpty_nil, bne_self_eq_false, List.cons_append, List.nil_append, List.zip_cons_cons, List.zip_nil_left, ne_eq, W_X, exn]; (first | done | trivial | exact ⟨rfl, rfl⟩ | exact ⟨rfl, rfl, rfl⟩)
  | 2, _ => simp (disch := (first | assumption | rfl | omega | (simp only [List.length_cons, List.length_nil, List.length_map, List.length_append, List.length_replicate, List.length_singleton, List.length_take, List.length_drop, List.length_reverse, rng_l, rngC_l, big, W_E, Bool.and_self, Bool.and_true, Bool.true_and]; first | done | omega))) only [W_A, W_B, W_C, W_D, reduceIte, Int.reduceLT, Int.reduceLE, Int.reduceGT, Int.reduceGE, Int.reduceEq, Int.reduceNe, Int.reduceAdd, Int.reduceSub, Int.reduceMul, Int.reduceNeg, Int.reduceToNat, Nat.reduceAdd, Nat.reduceSub, Nat.reduceBEq, Nat.reduceEqDiff, List.lookup, putN, Option.isSome_some, Option.isSome_none, Option.toList, List.length_cons, List.length_nil, List.length_map, List.length_append, List.length_replicate, List.length_singleton, List.isEmpty_cons, List.isEmpty_nil, bne_self_eq_false, List.cons_append, List.nil_append, List.zip_cons_cons, List.zip_nil_left, ne_eq, W_X, exn]; (first | done | trivial | exact ⟨rfl, rfl⟩ | exact ⟨rfl, rfl, rfl⟩)
  | 3, _ => simp (disch := (first | assumption | rfl | omega | (simp only [List.length_cons, List.length_nil, List.length_map, List.length_append, List.length_replicate, List.length_singleton, List.length_take, List.length_drop, List.length_reverse, rng_l, rngC_l, big, W_E, Bool.and_self, Bool.and_true, Bool.true_and]; first | done | omega))) only [W_A, W_B, W_C, W_D, reduceIte, Int.reduceLT, Int.reduceLE, Int.reduceGT, Int.reduceGE, Int.reduceEq, Int.reduceNe, Int.reduceAdd, Int.reduceSub, Int.reduceMul, Int.reduceNeg, Int.reduceToNat, Nat.reduceAdd, Nat.reduceSub, Nat.reduceBEq, Nat.reduceEqDiff, List.lookup, putN, Option.isSome_some, Option.isSome_none, Option.toList, List.length_cons, List.length_nil, List.length_map, List.length_append, List.length_replicate, List.length_singleton, List.isEmpty_cons, List.isEmpty_nil, bne_self_eq_false, List.cons_append, List.nil_append, List.zip_cons_cons, List.zip_nil_left, ne_eq, W_X, exn]; (first | done | trivial | exact ⟨rfl, rfl⟩ | exact ⟨rfl, rfl, rfl⟩)
  | 4, _ => simp (disch := (first | assumption | rfl | omega | (simp only [List.length_cons, List.length_nil, List.length_map, List.length_append, List.length_replicate, List.length_singleton, List.length_take, List.length_drop, List.length_reverse, rng_l, rngC_l, big, W_E, Bool.and_self, Bool.and_true, Bool.true_and]; first | done | omega))) only [W_A, W_B, W_C, W_D, reduceIte, Int.reduceLT, Int.reduceLE, Int.reduceGT, Int.reduceGE, Int.reduceEq, Int.reduceNe, Int.reduceAdd, Int.reduceSub, Int.reduceMul, Int.reduceNeg, Int.reduceToNat, Nat.reduceAdd, Nat.reduceSub, Nat.reduceBEq, Nat.reduceEqDiff, List.lookup, putN, Option.isSome_some, Option.isSome_none, Option.toList, List.length_cons, List.length_nil, List.length_map, List.length_append, List.length_replicate, List.length_singleton, List.isEmpty_cons, List.isEmpty_nil, bne_self_eq_false, List.cons_append, List.nil_append, List.zip_cons_cons, List.zip_nil_left, ne_eq, W_X, exn]; (first | done | trivial | exact ⟨rfl, rfl⟩ | exact ⟨rfl, rfl, rfl⟩)
  | 5, _ => simp (disch := (first | assumption | rfl | omega | (simp only [List.length_cons, List.length_nil, List.length_map, List.length_append, List.length_replicate, List.length_singleton, List.length_take, List.length_drop, List.length_reverse, rng_l, rngC_l, big, W_E, Bool.and_self, Bool.and_true, Bool.true_and]; first | done | omega))) only [W_A, W_B, W_C, W_D, reduceIte, Int.reduceLT, Int.reduceLE, Int.reduceGT, Int.reduceGE, Int.reduceEq, Int.reduceNe, Int.reduceAdd, Int.reduceSub, Int.reduceMul, Int.reduceNeg, Int.reduceToNat, Nat.reduceAdd, Nat.reduceSub, Nat.reduceBEq, Nat.reduceEqDiff, List.lookup, putN, Option.isSome_some, Option.isSome_none, Option.toList, List.length_cons, List.length_nil, List.length_map, List.length_append, List.length_replicate, List.length_singleton, List.isEmpty_cons, List.isEmpty_nil, bne_self_eq_false, List.cons_append, List.nil_append, List.zip_cons_cons, List.zip_nil_left, ne_eq, W_X, exn]; (first | done | trivial | exact ⟨rfl, rfl⟩ | exact ⟨rfl, rfl, rfl⟩)
  | 6, _ => simp (disch := (first | assumption | rfl | omega | (simp only [List.length_cons, List.length_nil, List.length_map, List.length_append, List.length_replicate, List.length_singleton, List.length_take, List.length_drop, List.length_reverse, rng_l, rngC_l, big, W_E, Bool.and_self, Bool.and_true, Bool.true_and]; first | done | omega))) only [W_A, W_B, W_C, W_D, reduceIte, Int.reduceLT, Int.reduceLE, Int.reduceGT, Int.reduceGE, Int.reduceEq, Int.reduceNe, Int.reduceAdd, Int.reduceSub, Int.reduceMul, Int.reduceNeg, Int.reduceToNat, Nat.reduceAdd, Nat.reduceSub, Nat.reduceBEq, Nat.reduceEqDiff, List.lookup, putN, Option.isSome_some, Option.isSome_none, Option.toList, List.length_cons, List.length_nil, List.length_map, List.length_append, List.length_replicate, List.length_singleton, List.isEmpty_cons, List.isEmpty_nil, bne_self_eq_false, List.cons_append, List.nil_append, List.zip_cons_cons, List.zip_nil_left, ne_eq, W_X, exn]; (first | done | trivial | exact ⟨rfl, rfl⟩ | exact ⟨rfl, rfl, rfl⟩)
def oneL (k : Nat) : List D := (List.range 7).map fun j => .bl (decide (j = k))
theorem caught_s (k : Nat) (hk : k < 7) (one other : D) (st : Store) : Δ.fns 4 [.int (k : Nat), one, other] st = .ok (.fr (oneL k)) st := by
  refine sat_eq ?_
  rw [fn_law_caught]
  refine run_sat _ _ _ rfl ?_
  simp only [f_law_caught, b_law_caught, tb_law_caught, List.map_cons, List.map_nil, List.cons_append, List.nil_append, List.replicate]
  have hr := raise_s k hk one other st
  match k, hk with
  | 0, _ => simp only [exn, Int.cast_ofNat_Int] at hr; simp (disch := (first | assumption | rfl | omega | (simp only [List.length_cons, List.length_nil, List.length_map, List.length_append, List.length_replicate, List.length_singleton, List.length_take, List.length_drop, List.length_reverse, rng_l, rngC_l, big, W_E, Bool.and_self, Bool.and_true, Bool.true_and]; first | done | omega))) only [W_A, W_B, W_C, W_D, reduceIte, Int.reduceLT, Int.reduceLE, Int.reduceGT, Int.reduceGE, Int.reduceEq, Int.reduceNe, Int.reduceAdd, Int.reduceSub, Int.reduceMul, Int.reduceNeg, Int.reduceToNat, Nat.reduceAdd, Nat.reduceSub, Nat.reduceBEq, Nat.reduceEqDiff, List.lookup, putN, Option.isSome_some, Option.isSome_none, Option.toList, List.length_cons, List.length_nil, List.length_map, List.length_append, List.length_replicate, List.length_singleton, List.isEmpty_cons, List.isEmpty_nil, bne_self_eq_false, List.cons_append, List.nil_append, List.zip_cons_cons, List.zip_nil_left, ne_eq, W_X, hr, eis, fin_fr]; first | done | rfl | exact ⟨rfl, rfl⟩
  | 1, _ => simp only [exn, Int.cast_ofNat_Int] at hr; simp (disch := (first | assumption | rfl | omega | (simp only [List.length_cons, List.length_nil, List.length_map, List.length_append, List.length_replicate, List.length_singleton, List.length_take, List.length_drop, List.length_reverse, rng_l, rngC_l, big, W_E, Bool.and_self, Bool.and_true, Bool.true_and]; first | done | omega))) only [W_A, W_B, W_C, W_D, reduceIte, Int.reduceLT, Int.reduceLE, Int.reduceGT, Int.reduceGE, Int.reduceEq, Int.reduceNe, Int.reduceAdd, Int.reduceSub, Int.reduceMul, Int.reduceNeg, Int.reduceToNat, Nat.reduceAdd, Nat.reduceSub, Nat.reduceBEq, Nat.reduceEqDiff, List.lookup, putN, Option.isSome_some, Option.isSome_none, Option.toList, List.length_cons, List.length_nil, List.length_map, List.length_append, List.length_replicate, List.length_singleton, List.isEmpty_cons, List.isEmpty_nil, bne_self_eq_false, List.cons_append, List.nil_append, List.zip_cons_cons, List.zip_nil_left, ne_eq, W_X, hr, eis, fin_fr]; first | done | rfl | exact ⟨rfl, rfl⟩
  | 2, _ => simp only [exn, Int.cast_ofNat_Int] at hr; simp (disch := (first | assumption | rfl | omega | (simp only [List.length_cons, List.length_nil, List.length_map, List.length_append, List.length_replicate, List.length_singleton, List.length_take, List.length_drop, List.length_reverse, rng_l, rngC_l, big, W_E, Bool.and_self, Bool.and_true, Bool.true_and]; first | done | omega))) only [W_A, W_B, W_C, W_D, reduceIte, Int.reduceLT, Int.reduceLE, Int.reduceGT, Int.reduceGE, Int.reduceEq, Int.reduceNe, Int.reduceAdd, Int.reduceSub, Int.reduceMul, Int.reduceNeg, Int.reduceToNat, Nat.reduceAdd, Nat.reduceSub, Nat.reduceBEq, Nat.reduceEqDiff, List.lookup, putN, Option.isSome_some, Option.isSome_none, Option.toList, List.length_cons, List.length_nil, List.length_map, List.length_append, List.length_replicate, List.length_singleton, List.isEmpty_cons, List.isEmpty_nil, bne_self_eq_false, List.cons_append, List.nil_append, List.zip_cons_cons, List.zip_nil_left, ne_eq, W_X, hr, eis, fin_fr]; first | done | rfl | exact ⟨rfl, rfl⟩
  | 3, _ => simp only [exn, Int.cast_ofNat_Int] at hr; simp (disch := (first | assumption | rfl | omega | (simp only [List.length_cons, List.length_nil, List.length_map, List.length_append, List.length_replicate, List.length_singleton, List.length_take, List.length_drop, List.length_reverse, rng_l, rngC_l, big, W_E, Bool.and_self, Bool.and_true, Bool.true_and]; first | done | omega))) only [W_A, W_B, W_C, W_D, reduceIte, Int.reduceLT, Int.reduceLE, Int.reduceGT, Int.reduceGE, Int.reduceEq, Int.reduceNe, Int.reduceAdd, Int.reduceSub, Int.reduceMul, Int.reduceNeg, Int.reduceToNat, Nat.reduceAdd, Nat.reduceSub, Nat.reduceBEq, Nat.reduceEqDiff, List.lookup, putN, Option.isSome_some, Option.isSome_none, Option.toList, List.length_cons, List.length_nil, List.length_map, List.length_append, List.length_replicate, List.length_singleton, List.isEmpty_cons, List.isEmpty_nil, bne_self_eq_false, List.cons_append, List.nil_append, List.zip_cons_cons, List.zip_nil_left, ne_eq, W_X, hr, eis, fin_fr]; first | done | rfl | exact ⟨rfl, rfl⟩
  | 4, _ => simp only [exn, Int.cast_ofNat_Int] at hr; simp (disch := (first | assumption | rfl | omega | (simp only [List.length_cons, List.length_nil, List.length_map, List.length_append, List.length_replicate, List.length_singleton, List.length_take, List.length_drop, List.length_reverse, rng_l, rngC_l, big, W_E, Bool.and_self, Bool.and_true, Bool.true_and]; first | done | omega))) only [W_A, W_B, W_C, W_D, reduceIte, Int.reduceLT, Int.reduceLE, Int.reduceGT, Int.reduceGE, Int.reduceEq, Int.reduceNe, Int.reduceAdd, Int.reduceSub, Int.reduceMul, Int.reduceNeg, Int.reduceToNat, Nat.reduceAdd, Nat.reduceSub, Nat.reduceBEq, Nat.reduceEqDiff, List.lookup, putN, Option.isSome_some, Option.isSome_none, Option.toList, List.length_cons, List.length_nil, List.length_map, List.length_append, List.length_replicate, List.length_singleton, List.isEmpty_cons, List.isEmpty_nil, bne_self_eq_false, List.cons_append, List.nil_append, List.zip_cons_cons, List.zip_nil_left, ne_eq, W_X, hr, eis, fin_fr]; first | done | rfl | exact ⟨rfl, rfl⟩
  | 5, _ => simp only [exn, Int.cast_ofNat_Int] at hr; simp (disch := (first | assumption | rfl | omega | (simp only [List.length_cons, List.length_nil, List.length_map, List.length_append, List.length_replicate, List.length_singleton, List.length_take, List.length_drop, List.length_reverse, rng_l, rngC_l, big, W_E, Bool.and_self, Bool.and_true, Bool.true_and]; first | done | omega))) only [W_A, W_B, W_C, W_D, reduceIte, Int.reduceLT, Int.reduceLE, Int.reduceGT, Int.reduceGE, Int.reduceEq, Int.reduceNe, Int.reduceAdd, Int.reduceSub, Int.reduceMul, Int.reduceNeg, Int.reduceToNat, Nat.reduceAdd, Nat.reduceSub, Nat.reduceBEq, Nat.reduceEqDiff, List.lookup, putN, Option.isSome_some, Option.isSome_none, Option.toList, List.length_cons, List.length_nil, List.length_map, List.length_append, List.length_replicate, List.length_singleton, List.isEmpty_cons, List.isEmpty_nil, bne_self_eq_false, List.cons_append, List.nil_append, List.zip_cons_cons, List.zip_nil_left, ne_eq, W_X, hr, eis, fin_fr]; first | done | rfl | exact ⟨rfl, rfl⟩
  | 6, _ => simp only [exn, Int.cast_ofNat_Int] at hr; simp (disch := (first | assumption | rfl | omega | (simp only [List.length_cons, List.length_nil, List.length_map, List.length_append, List.length_replicate, List.length_singleton, List.length_take, List.length_drop, List.length_reverse, rng_l, rngC_l, big, W_E, Bool.and_self, Bool.and_true, Bool.true_and]; first | done | omega))) only [W_A, W_B, W_C, W_D, reduceIte, Int.reduceLT, Int.reduceLE, Int.reduceGT, Int.reduceGE, Int.reduceEq, Int.reduceNe, Int.reduceAdd, Int.reduceSub, Int.reduceMul, Int.reduceNeg, Int.reduceToNat, Nat.reduceAdd, Nat.reduceSub, Nat.reduceBEq, Nat.reduceEqDiff, List.lookup, putN, Option.isSome_some, Option.isSome_none, Option.toList, List.length_cons, List.length_nil, List.length_map, List.length_append, List.length_replicate, List.length_singleton, List.isEmpty_cons, List.isEmpty_nil, bne_self_eq_false, List.cons_append, List.nil_append, List.zip_cons_cons, List.zip_nil_left, ne_eq, W_X, hr, eis, fin_fr]; first | done | rfl | exact ⟨rfl, rfl⟩
def fldD (k : Nat) (one other : D) : D := if k = 5 then .tup [one, other] else .tup [one]
theorem fields_s (k : Nat) (hk : k < 7) (one other : D) (h1 : isData one = true) (h2 : isData other = true) (st : Store) : Δ.fns 5 [.int (k : Nat), one, other] st = .ok (.v (fldD k one other)) st := by
  refine sat_eq ?_
  rw [fn_law_fields]
  refine run_sat _ _ _ rfl ?_
  simp only [f_law_fields, b_law_fields, List.map_cons, List.map_nil, List.cons_append, List.nil_append, List.replicate]
  have hr := raise_s k hk one other st
  have hd2 : isData (.tup [one, other]) = true := by simp only [isData, isDatas, h1, h2]; rfl
  match k, hk with
  | 0, _ => simp only [exn, Int.cast_ofNat_Int] at hr; simp (disch := (first | assumption | rfl | omega | (simp only [List.length_cons, List.length_nil, List.length_map, List.length_append, List.length_replicate, List.length_singleton, List.length_take, List.length_drop, List.length_reverse, rng_l, rngC_l, big, W_E, Bool.and_self, Bool.and_true, Bool.true_and]; first | done | omega))) only [W_A, W_B, W_C, W_D, reduceIte, Int.reduceLT, Int.reduceLE, Int.reduceGT, Int.reduceGE, Int.reduceEq, Int.reduceNe, Int.reduceAdd, Int.reduceSub, Int.reduceMul, Int.reduceNeg, Int.reduceToNat, Nat.reduceAdd, Nat.reduceSub, Nat.reduceBEq, Nat.reduceEqDiff, List.lookup, putN, Option.isSome_some, Option.isSome_none, Option.toList, List.length_cons, List.length_nil, List.length_map, List.length_append, List.length_replicate, List.length_singleton, List.isEmpty_cons, List.isEmpty_nil, bne_self_eq_false, List.cons_append, List.nil_append, List.zip_cons_cons, List.zip_nil_left, ne_eq, W_X, hr, h1, h2]; first | done | rfl | exact ⟨rfl, rfl⟩
  | 1, _ => simp only [exn, Int.cast_ofNat_Int] at hr; simp (disch := (first | assumption | rfl | omega | (simp only [List.length_cons, List.length_nil, List.length_map, List.length_append, List.length_replicate, List.length_singleton, List.length_take, List.length_drop, List.length_reverse, rng_l, rngC_l, big, W_E, Bool.and_self, Bool.and_true, Bool.true_and]; first | done | omega))) only [W_A, W_B, W_C, W_D, reduceIte, Int.reduceLT, Int.reduceLE, Int.reduceGT, Int.reduceGE, Int.reduceEq, Int.reduceNe, Int.reduceAdd, Int.reduceSub, Int.reduceMul, Int.reduceNeg, Int.reduceToNat, Nat.reduceAdd, Nat.reduceSub, Nat.reduceBEq, Nat.reduceEqDiff, List.lookup, putN, Option.isSome_some, Option.isSome_none, Option.toList, List.length_cons, List.length_nil, List.length_map, List.length_append, List.length_replicate, List.length_singleton, List.isEmpty_cons, List.isEmpty_nil, bne_self_eq_false, List.cons_append, List.nil_append, List.zip_cons_cons, List.zip_nil_left, ne_eq, W_X, hr, h1, h2]; first | done | rfl | exact ⟨rfl, rfl⟩
  | 2, _ => simp only [exn, Int.cast_ofNat_Int] at hr; simp (disch := (first | assumption | rfl | omega | (simp only [List.length_cons, List.length_nil, List.length_map, List.length_append, List.length_replicate, List.length_singleton, List.length_take, List.length_drop, List.length_reverse, rng_l, rngC_l, big, W_E, Bool.and_self, Bool.and_true, Bool.true_and]; first | done | omega))) only [W_A, W_B, W_C, W_D, reduceIte, Int.reduceLT, Int.reduceLE, Int.reduceGT, Int.reduceGE, Int.reduceEq, Int.reduceNe, Int.reduceAdd, Int.reduceSub, Int.reduceMul, Int.reduceNeg, Int.reduceToNat, Nat.reduceAdd, Nat.reduceSub, Nat.reduceBEq, Nat.reduceEqDiff, List.lookup, putN, Option.isSome_some, Option.isSome_none, Option.toList, List.length_cons, List.length_nil, List.length_map, List.length_append, List.length_replicate, List.length_singleton, List.isEmpty_cons, List.isEmpty_nil, bne_self_eq_false, List.cons_append, List.nil_append, List.zip_cons_cons, List.zip_nil_left, ne_eq, W_X, hr, h1, h2]; first | done | rfl | exact ⟨rfl, rfl⟩
  | 3, _ => simp only [exn, Int.cast_ofNat_Int] at hr; simp (disch := (first | assumption | rfl | omega | (simp only [List.length_cons, List.length_nil, List.length_map, List.length_append, List.length_replicate, List.length_singleton, List.length_take, List.length_drop, List.length_reverse, rng_l, rngC_l, big, W_E, Bool.and_self, Bool.and_true, Bool.true_and]; first | done | omega))) only [W_A, W_B, W_C, W_D, reduceIte, Int.reduceLT, Int.reduceLE, Int.reduceGT, Int.reduceGE, Int.reduceEq, Int.reduceNe, Int.reduceAdd, Int.reduceSub, Int.reduceMul, Int.reduceNeg, Int.reduceToNat, Nat.reduceAdd, Nat.reduceSub, Nat.reduceBEq, Nat.reduceEqDiff, List.lookup, putN, Option.isSome_some, Option.isSome_none, Option.toList, List.length_cons, List.length_nil, List.length_map, List.length_append, List.length_replicate, List.length_singleton, List.isEmpty_cons, List.isEmpty_nil, bne_self_eq_false, List.cons_append, List.nil_append, List.zip_cons_cons, List.zip_nil_left, ne_eq, W_X, hr, h1, h2]; first | done | rfl | exact ⟨rfl, rfl⟩
  | 4, _ => simp only [exn, Int.cast_ofNat_Int] at hr; simp (disch := (first | assumption | rfl | omega | (simp only [List.length_cons, List.length_nil, List.length_map, List.length_append, List.length_replicate, List.length_singleton, List.length_take, List.length_drop, List.length_reverse, rng_l, rngC_l, big, W_E, Bool.and_self, Bool.and_true, Bool.true_and]; first | done | omega))) only [W_A, W_B, W_C, W_D, reduceIte, Int.reduceLT, Int.reduceLE, Int.reduceGT, Int.reduceGE, Int.reduceEq, Int.reduceNe, Int.reduceAdd, Int.reduceSub, Int.reduceMul, Int.reduceNeg, Int.reduceToNat, Nat.reduceAdd, Nat.reduceSub, Nat.reduceBEq, Nat.reduceEqDiff, List.lookup, putN, Option.isSome_some, Option.isSome_none, Option.toList, List.length_cons, List.length_nil, List.length_map, List.length_append, List.length_replicate, List.length_singleton, List.isEmpty_cons, List.isEmpty_nil, bne_self_eq_false, List.cons_append, List.nil_append, List.zip_cons_cons, List.zip_nil_left, ne_eq, W_X, hr, h1, h2]; first | done | rfl | exact ⟨rfl, rfl⟩
  | 5, _ => simp only [exn, Int.cast_ofNat_Int] at hr; simp (disch := (first | assumption | rfl | omega | (simp only [List.length_cons, List.length_nil, List.length_map, List.length_append, List.length_replicate, List.length_singleton, List.length_take, List.length_drop, List.length_reverse, rng_l, rngC_l, big, W_E, Bool.and_self, Bool.and_true, Bool.true_and]; first | done | omega))) only [W_A, W_B, W_C, W_D, reduceIte, Int.reduceLT, Int.reduceLE, Int.reduceGT, Int.reduceGE, Int.reduceEq, Int.reduceNe, Int.reduceAdd, Int.reduceSub, Int.reduceMul, Int.reduceNeg, Int.reduceToNat, Nat.reduceAdd, Nat.reduceSub, Nat.reduceBEq, Nat.reduceEqDiff, List.lookup, putN, Option.isSome_some, Option.isSome_none, Option.toList, List.length_cons, List.length_nil, List.length_map, List.length_append, List.length_replicate, List.length_singleton, List.isEmpty_cons, List.isEmpty_nil, bne_self_eq_false, List.cons_append, List.nil_append, List.zip_cons_cons, List.zip_nil_left, ne_eq, W_X, hr, h1, h2]; first | done | rfl | exact ⟨rfl, rfl⟩
  | 6, _ => simp only [exn, Int.cast_ofNat_Int] at hr; simp (disch := (first | assumption | rfl | omega | (simp only [List.length_cons, List.length_nil, List.length_map, List.length_append, List.length_replicate, List.length_singleton, List.length_take, List.length_drop, List.length_reverse, rng_l, rngC_l, big, W_E, Bool.and_self, Bool.and_true, Bool.true_and]; first | done | omega))) only [W_A, W_B, W_C, W_D, reduceIte, Int.reduceLT, Int.reduceLE, Int.reduceGT, Int.reduceGE, Int.reduceEq, Int.reduceNe, Int.reduceAdd, Int.reduceSub, Int.reduceMul, Int.reduceNeg, Int.reduceToNat, Nat.reduceAdd, Nat.reduceSub, Nat.reduceBEq, Nat.reduceEqDiff, List.lookup, putN, Option.isSome_some, Option.isSome_none, Option.toList, List.length_cons, List.length_nil, List.length_map, List.length_append, List.length_replicate, List.length_singleton, List.isEmpty_cons, List.isEmpty_nil, bne_self_eq_false, List.cons_append, List.nil_append, List.zip_cons_cons, List.zip_nil_left, ne_eq, W_X, hr, h1, h2]; first | done | rfl | exact ⟨rfl, rfl⟩
end Fw.K00

/-! ## Jb -/
set_option Elab.async false
set_option linter.all false
set_option maxRecDepth 100000
set_option maxHeartbeats 4000000
/-! k00: the law. -/
namespace Fw.K00
open PySem PySem.Spec PyProof.Rows L2
theorem cnt_0 : ([Ob.lst [D.int 0]] : Store) = cnt 0 [] := rfl
def valL : List D := [.str "word", .str "", .str "form", .int 0, .int 17, .int (-3), .non, .tup [.str "a", .int 5], .str "a line", .bl true]
theorem str_r : rOk (.str "word") = true ∧ rOk (.str "") = true ∧ rOk (.str "form") = true ∧ rOk (.str "a") = true ∧ rOk (.str "a line") = true := by decide +kernel
theorem str_w : wgt (.str "word") = 4 ∧ wgt (.str "") = 0 ∧ wgt (.str "form") = 4 ∧ wgt (.str "a") = 1 ∧ wgt (.str "a line") = 6 := by decide +kernel
theorem val_ok (d : D) (h : d ∈ valL) : rOk d = true ∧ wgt d ≤ 10 ∧ hgt d ≤ 1 := by
  obtain ⟨r1, r2, r3, r4, r5⟩ := str_r
  obtain ⟨w1, w2, w3, w4, w5⟩ := str_w
  have hi : ∀ i : Int, i.natAbs < 2 ^ 64 → rOk (.int i) = true := fun i h => decide_eq_true (abs_small h)
  simp only [valL, List.mem_cons, List.not_mem_nil, or_false] at h
  rcases h with h | h | h | h | h | h | h | h | h | h <;> subst h
  · exact ⟨r1, by omega, by decide⟩
  · exact ⟨r2, by omega, by decide⟩
  · exact ⟨r3, by omega, by decide⟩
  · exact ⟨hi _ (by decide), by decide, by decide⟩
  · exact ⟨hi _ (by decide), by decide, by decide⟩
  · exact ⟨hi _ (by decide), by decide, by decide⟩
  · exact ⟨rfl, by decide, by decide⟩
  · refine ⟨by rw [rOk, rOks, rOks, rOks, r4, hi 5 (by decide)]; rfl, ?_, by decide⟩
    show wgt (.str "a") + 1 + (0 + 1 + 0) ≤ 10
    omega
  · exact ⟨r5, by omega, by decide⟩
  · exact ⟨rfl, by decide, by decide⟩
theorem show_eq (k : Nat) (a b : D) (ha : a ∈ valL) (hb : b ∈ valL) : ∃ s, shapedD (.str s) = true ∧ ∀ st, opB .repr_ [fldD k a b] st = .ok (.v (.str s)) st := by
  obtain ⟨a1, a2, a3⟩ := val_ok a ha
  obtain ⟨b1, b2, b3⟩ := val_ok b hb
  unfold fldD
  by_cases c : k = 5
  · rw [if_pos c]
    refine repr_ok _ (by rw [rOk, rOks, rOks, rOks, a1, b1]; rfl) ?_ ?_
    · show wgt a + 1 + (wgt b + 1 + 0) ≤ 20000; omega
    · show max (hgt a) (max (hgt b) 0) + 1 ≤ 64; omega
  · rw [if_neg c]
    refine repr_ok _ (by rw [rOk, rOks, rOks, a1]; rfl) ?_ ?_
    · show wgt a + 1 + 0 ≤ 20000; omega
    · show max (hgt a) 0 + 1 ≤ 64; omega
theorem one_sh (k : Nat) : shapedD (.lst (oneL k)) = true := by
  have h : ∀ l : List Nat, rOks (l.map fun j => D.bl (decide (j = k))) = true ∧ hgts (l.map fun j => D.bl (decide (j = k))) = 0 := fun l => by
    induction l with
    | nil => exact ⟨rfl, rfl⟩
    | cons x l ih => exact ⟨by rw [List.map_cons, rOks, ih.1]; rfl, by rw [List.map_cons]; show max 0 _ = 0; rw [ih.2]; rfl⟩
  exact shaped_r (by rw [rOk]; exact (h _).1) (by show hgts _ + 1 ≤ 64; unfold oneL; rw [(h _).2]; decide)
abbrev LN (scr ds vs : D) (s4 s5 s6 : Option D) : Lc := [some scr, some ds, some (.ref 0), some vs, s4, s5, s6, none]
theorem l2_turn (scr : D) (ds : List Int) (j : Nat) (hj : j < 7) (k : Nat) (s4 s5 s6 : Option D) {N : Lc → Store → Prop} {R : W → Store → Prop} {B : Lc → Store → Prop} {E : Nat → List (Nat × D) → Lc → Store → Prop}
    (hN : ∀ k' s4 s5 s6, N (LN scr (.lst (ds.map .int)) (.lst valL) s4 s5 s6) (cnt k' [])) :
    (stepL Δ (.tgN 4) l2_law (.int (0 + ((j : Nat) : Int))) (LN scr (.lst (ds.map .int)) (.lst valL) s4 s5 s6) (cnt k [])).sat ⟨N, R, B, E⟩ := by
  rw [show (0 : Int) + ((j : Nat) : Int) = (j : Nat) by omega]
  simp (disch := (first | assumption | rfl | omega | (simp only [List.length_cons, List.length_nil, List.length_map, List.length_append, List.length_replicate, List.length_singleton, List.length_take, List.length_drop, List.length_reverse, rng_l, rngC_l, big, W_E, Bool.and_self, Bool.and_true, Bool.true_and]; first | done | omega))) only [W_A, W_B, W_C, W_D, reduceIte, Int.reduceLT, Int.reduceLE, Int.reduceGT, Int.reduceGE, Int.reduceEq, Int.reduceNe, Int.reduceAdd, Int.reduceSub, Int.reduceMul, Int.reduceNeg, Int.reduceToNat, Nat.reduceAdd, Nat.reduceSub, Nat.reduceBEq, Nat.reduceEqDiff, List.lookup, putN, Option.isSome_some, Option.isSome_none, Option.toList, List.length_cons, List.length_nil, List.length_map, List.length_append, List.length_replicate, List.length_singleton, List.isEmpty_cons, List.isEmpty_nil, bne_self_eq_false, List.cons_append, List.nil_append, List.zip_cons_cons, List.zip_nil_left, ne_eq, W_X, l2_law]
  refine one_s valL _ _ _ (by simp [valL]) rfl fun a ha => ?_
  simp (disch := (first | assumption | rfl | omega | (simp only [List.length_cons, List.length_nil, List.length_map, List.length_append, List.length_replicate, List.length_singleton, List.length_take, List.length_drop, List.length_reverse, rng_l, rngC_l, big, W_E, Bool.and_self, Bool.and_true, Bool.true_and]; first | done | omega))) only [W_A, W_B, W_C, W_D, reduceIte, Int.reduceLT, Int.reduceLE, Int.reduceGT, Int.reduceGE, Int.reduceEq, Int.reduceNe, Int.reduceAdd, Int.reduceSub, Int.reduceMul, Int.reduceNeg, Int.reduceToNat, Nat.reduceAdd, Nat.reduceSub, Nat.reduceBEq, Nat.reduceEqDiff, List.lookup, putN, Option.isSome_some, Option.isSome_none, Option.toList, List.length_cons, List.length_nil, List.length_map, List.length_append, List.length_replicate, List.length_singleton, List.isEmpty_cons, List.isEmpty_nil, bne_self_eq_false, List.cons_append, List.nil_append, List.zip_cons_cons, List.zip_nil_left, ne_eq, W_X]
  refine one_s valL _ _ _ (by simp [valL]) rfl fun b hb => ?_
  have c1 := fun st => caught_s j hj a b st
  have c2 := fun st => fields_s j hj a b (data_r _ (val_ok a ha).1) (data_r _ (val_ok b hb).1) st
  obtain ⟨s, hs, hrep⟩ := show_eq j a b ha hb
  have e1 := fun st => t_neM _ st (one_sh j)
  have e2 := fun st => t_neM _ st hs
  have hlr : (rng 0 7).length ≤ 16777216 := by rw [rng_l]; decide
  clear ha hb
  simp (disch := (first | assumption | rfl | omega | (simp only [List.length_cons, List.length_nil, List.length_map, List.length_append, List.length_replicate, List.length_singleton, List.length_take, List.length_drop, List.length_reverse, rng_l, rngC_l, big, W_E, Bool.and_self, Bool.and_true, Bool.true_and]; first | done | omega))) only [W_A, W_B, W_C, W_D, reduceIte, Int.reduceLT, Int.reduceLE, Int.reduceGT, Int.reduceGE, Int.reduceEq, Int.reduceNe, Int.reduceAdd, Int.reduceSub, Int.reduceMul, Int.reduceNeg, Int.reduceToNat, Nat.reduceAdd, Nat.reduceSub, Nat.reduceBEq, Nat.reduceEqDiff, List.lookup, putN, Option.isSome_some, Option.isSome_none, Option.toList, List.length_cons, List.length_nil, List.length_map, List.length_append, List.length_replicate, List.length_singleton, List.isEmpty_cons, List.isEmpty_nil, bne_self_eq_false, List.cons_append, List.nil_append, List.zip_cons_cons, List.zip_nil_left, ne_eq, W_X, c1]
  rw [rng_map]
  refine lc_map (fun i : Nat => D.int (0 + ((i : Nat) : Int))) (fun i => D.bl (decide (i = j))) (List.range 7) (fun i hi => ?_) ?_
  · have z : decide ((0 : Int) + ((i : Nat) : Int) = (j : Nat)) = decide (i = j) := by
      by_cases c : i = j
      · rw [decide_eq_true c, decide_eq_true (by omega)]
      · rw [decide_eq_false c, decide_eq_false (by omega)]
    simp (disch := (first | assumption | rfl | omega | (simp only [List.length_cons, List.length_nil, List.length_map, List.length_append, List.length_replicate, List.length_singleton, List.length_take, List.length_drop, List.length_reverse, rng_l, rngC_l, big, W_E, Bool.and_self, Bool.and_true, Bool.true_and]; first | done | omega))) only [W_A, W_B, W_C, W_D, reduceIte, Int.reduceLT, Int.reduceLE, Int.reduceGT, Int.reduceGE, Int.reduceEq, Int.reduceNe, Int.reduceAdd, Int.reduceSub, Int.reduceMul, Int.reduceNeg, Int.reduceToNat, Nat.reduceAdd, Nat.reduceSub, Nat.reduceBEq, Nat.reduceEqDiff, List.lookup, putN, Option.isSome_some, Option.isSome_none, Option.toList, List.length_cons, List.length_nil, List.length_map, List.length_append, List.length_replicate, List.length_singleton, List.isEmpty_cons, List.isEmpty_nil, bne_self_eq_false, List.cons_append, List.nil_append, List.zip_cons_cons, List.zip_nil_left, ne_eq, W_X, e1_law, z]
    first | done | rfl | exact ⟨rfl, rfl⟩
  rw [show (List.range 7).map (fun i => D.bl (decide (i = j))) = oneL j from rfl]
  unfold fldD at hrep c2
  by_cases c : j = 5
  · have z : decide (((j : Nat) : Int) = 5) = true := decide_eq_true (by omega)
    rw [if_pos c] at hrep
    simp only [if_pos c] at c2
    simp (disch := (first | assumption | rfl | omega | (simp only [List.length_cons, List.length_nil, List.length_map, List.length_append, List.length_replicate, List.length_singleton, List.length_take, List.length_drop, List.length_reverse, rng_l, rngC_l, big, W_E, Bool.and_self, Bool.and_true, Bool.true_and]; first | done | omega))) only [W_A, W_B, W_C, W_D, reduceIte, Int.reduceLT, Int.reduceLE, Int.reduceGT, Int.reduceGE, Int.reduceEq, Int.reduceNe, Int.reduceAdd, Int.reduceSub, Int.reduceMul, Int.reduceNeg, Int.reduceToNat, Nat.reduceAdd, Nat.reduceSub, Nat.reduceBEq, Nat.reduceEqDiff, List.lookup, putN, Option.isSome_some, Option.isSome_none, Option.toList, List.length_cons, List.length_nil, List.length_map, List.length_append, List.length_replicate, List.length_singleton, List.isEmpty_cons, List.isEmpty_nil, bne_self_eq_false, List.cons_append, List.nil_append, List.zip_cons_cons, List.zip_nil_left, ne_eq, W_X, e1, c2, z, hrep, e2]
    exact hN _ _ _ _
  · have z : decide (((j : Nat) : Int) = 5) = false := decide_eq_false (by omega)
    rw [if_neg c] at hrep
    simp only [if_neg c] at c2
    simp (disch := (first | assumption | rfl | omega | (simp only [List.length_cons, List.length_nil, List.length_map, List.length_append, List.length_replicate, List.length_singleton, List.length_take, List.length_drop, List.length_reverse, rng_l, rngC_l, big, W_E, Bool.and_self, Bool.and_true, Bool.true_and]; first | done | omega))) only [W_A, W_B, W_C, W_D, reduceIte, Int.reduceLT, Int.reduceLE, Int.reduceGT, Int.reduceGE, Int.reduceEq, Int.reduceNe, Int.reduceAdd, Int.reduceSub, Int.reduceMul, Int.reduceNeg, Int.reduceToNat, Nat.reduceAdd, Nat.reduceSub, Nat.reduceBEq, Nat.reduceEqDiff, List.lookup, putN, Option.isSome_some, Option.isSome_none, Option.toList, List.length_cons, List.length_nil, List.length_map, List.length_append, List.length_replicate, List.length_singleton, List.isEmpty_cons, List.isEmpty_nil, bne_self_eq_false, List.cons_append, List.nil_append, List.zip_cons_cons, List.zip_nil_left, ne_eq, W_X, e1, c2, z, hrep, e2]
    exact hN _ _ _ _
theorem law_true : ∀ ns : List Int, ns.length ≤ 63 → (∀ z ∈ ns, PySem.Builtin.Int.intBits z ≤ 1048576) → ∃ st, runFn Δ f_law [.scr (ns.map D.int)] [] = .ok (.v (.bl true)) st := by
  intro ns hn hb
  have key : (runFn Δ f_law [.scr (ns.map D.int)] []).sat (fun w _ => w = .v (.bl true)) noE := by
    refine run_sat _ _ _ rfl ?_
    simp only [f_law, b_law, List.map_cons, List.map_nil, List.cons_append, List.nil_append, List.replicate]
    obtain ⟨ds, _, hds⟩ := run_draws ns []
    have hlim := limits_s
    simp (disch := (first | assumption | rfl | omega | (simp only [List.length_cons, List.length_nil, List.length_map, List.length_append, List.length_replicate, List.length_singleton, List.length_take, List.length_drop, List.length_reverse, rng_l, rngC_l, big, W_E, Bool.and_self, Bool.and_true, Bool.true_and]; first | done | omega))) only [W_A, W_B, W_C, W_D, reduceIte, Int.reduceLT, Int.reduceLE, Int.reduceGT, Int.reduceGE, Int.reduceEq, Int.reduceNe, Int.reduceAdd, Int.reduceSub, Int.reduceMul, Int.reduceNeg, Int.reduceToNat, Nat.reduceAdd, Nat.reduceSub, Nat.reduceBEq, Nat.reduceEqDiff, List.lookup, putN, Option.isSome_some, Option.isSome_none, Option.toList, List.length_cons, List.length_nil, List.length_map, List.length_append, List.length_replicate, List.length_singleton, List.isEmpty_cons, List.isEmpty_nil, bne_self_eq_false, List.cons_append, List.nil_append, List.zip_cons_cons, List.zip_nil_left, ne_eq, W_X, hds, hlim]
    rw [cnt_0]
    refine forR (fun j ρ st' => ∃ k' s4 s5 s6, st' = cnt k' [] ∧ ρ = LN (.scr (ns.map .int)) (.lst (ds.map .int)) (.lst valL) s4 s5 s6) ⟨0, none, none, none, rfl, rfl⟩ (fun j ρ st' hj hI => ?_) fun ρ st' hI => ?_
    · obtain ⟨k', s4, s5, s6, rfl, rfl⟩ := hI
      exact l2_turn _ ds j hj k' _ _ _ fun k' s4 s5 s6 => ⟨_, _, _, _, rfl, rfl⟩
    · obtain ⟨k', s4, s5, s6, rfl, rfl⟩ := hI
      simp (disch := (first | assumption | rfl | omega | (simp only [List.length_cons, List.length_nil, List.length_map, List.length_append, List.length_replicate, List.length_singleton, List.length_take, List.length_drop, List.length_reverse, rng_l, rngC_l, big, W_E, Bool.and_self, Bool.and_true, Bool.true_and]; first | done | omega))) only [W_A, W_B, W_C, W_D, reduceIte, Int.reduceLT, Int.reduceLE, Int.reduceGT, Int.reduceGE, Int.reduceEq, Int.reduceNe, Int.reduceAdd, Int.reduceSub, Int.reduceMul, Int.reduceNeg, Int.reduceToNat, Nat.reduceAdd, Nat.reduceSub, Nat.reduceBEq, Nat.reduceEqDiff, List.lookup, putN, Option.isSome_some, Option.isSome_none, Option.toList, List.length_cons, List.length_nil, List.length_map, List.length_append, List.length_replicate, List.length_singleton, List.isEmpty_cons, List.isEmpty_nil, bne_self_eq_false, List.cons_append, List.nil_append, List.zip_cons_cons, List.zip_nil_left, ne_eq, W_X]
      rw [show finish [] (.v (.bl true)) (cnt k' []) = .ok (.v (.bl true)) [] from fin_ap [] _ _ rfl, sat_ok]
  cases e : runFn Δ f_law [.scr (ns.map D.int)] [] with
  | ok w st => rw [e] at key; obtain rfl : w = .v (.bl true) := key; exact ⟨st, rfl⟩
  | exc c fs st => rw [e] at key; exact key.elim
  | stuck => rw [e] at key; exact key.elim
end Fw.K00

/-! ## X00 -/
set_option Elab.async false
set_option linter.all false
set_option maxRecDepth 100000
set_option maxHeartbeats 16000000
/-! k00: the def that catches all, by hand. -/
namespace Fw.K00
open PySem PySem.Spec PyProof.Rows L2
def tbody : List Stmt := (caughtB "e" "_law_kinds" "PackedError" (defBody (topS 33))).getD []
theorem ct_some : (caughtB "e" "_law_kinds" "PackedError" (defBody (topS 33))).isSome = true := by decide +kernel
theorem ct : caughtB "e" "_law_kinds" "PackedError" (defBody (topS 33)) = some tbody := by
  unfold tbody
  have h := ct_some
  cases e : caughtB "e" "_law_kinds" "PackedError" (defBody (topS 33)) with
  | none => rw [e] at h; cases h
  | some b => rfl
def n1 : List Str := ["ArgumentError", "PaperError", "TooMany", "CheckError"]
def n2 : List Str := ["TextError", "BrokenError", "CommandError"]
theorem kt : kindsB "e" "plain" (defBody (topS 32)) = some (n1, n2) := by decide +kernel
theorem tb_ok : okSs ev 60 (Ck.rest { N := N_law_caught, sc := defScope (topS 33), n := 1 }) tb_law_caught tbody = true := by decide +kernel
theorem sc_kinds : FnScope [("e" : Str), "plain"] [("e" : Str)] (defScope (topS 32)) := ⟨by decide +kernel, by decide +kernel, by decide +kernel, by decide +kernel, by decide +kernel, by decide +kernel, by decide +kernel⟩
noncomputable def bo (c : Nat) (x : Str) : Bool := match ev.exm.lookup x with
  | some k => Δ.sub c k
  | none => false
def ks : List Nat := [2, 4, 5, 3, 6, 7, 8]
theorem bo_eq (c : Nat) : blsP (bo c) (n1 ++ n2) = ks.map fun k => .bl (Δ.sub c k) := by
  have h : ∀ y k, ev.exm.lookup y = some k → bo c y = Δ.sub c k := fun y k e => by unfold bo; rw [e]
  show [D.bl (bo c "ArgumentError"), .bl (bo c "PaperError"), .bl (bo c "TooMany"), .bl (bo c "CheckError"), .bl (bo c "TextError"), .bl (bo c "BrokenError"), .bl (bo c "CommandError")] = _
  rw [h "ArgumentError" 2 (by decide +kernel), h "PaperError" 4 (by decide +kernel), h "TooMany" 5 (by decide +kernel), h "CheckError" 3 (by decide +kernel), h "TextError" 6 (by decide +kernel), h "BrokenError" 7 (by decide +kernel), h "CommandError" 8 (by decide +kernel)]
  rfl
theorem known : ∀ y ∈ n1 ++ n2, ∃ k, ev.exm.lookup y = some k := by
  have h : ∀ y ∈ n1 ++ n2, (ev.exm.lookup y).isSome = true := by decide +kernel
  exact fun y hy => Option.isSome_iff_exists.mp (h y hy)
theorem caught_fok {P : Program} {w : World} {K : PySem.W.Frag} {mg : Str → Option Value} {base : Heap} {g : G} {aC aK : Addr} (D1 : DefIn K "_law_caught" "_law_caught" (topS 33) aC) (DK : DefIn K "_law_kinds" "_law_kinds" (topS 32) aK) (mk : mg "_law_kinds" = some (.ref aK)) (mv : mg "ValueError" = none)
    (hv : ∀ c C, g.cls c = some C → Δ.exf c ≠ [] → PySem.W.kitOne K (.ref C) (.type "ValueError") = some true) (fa : Fa P w K mg base g ev Δ 1) : FOk P w K mg base g 2 aC (Δ.fns 4) := by
  obtain ⟨oc, od, kV, doc, pm, an, cdv, ct', osl, l, c, kk⟩ := D1.ex
  have F := fun_mk (st := topS 33) l c kk
  obtain ⟨oc2, od2, kV2, doc2, pm2, an2, cdv2, ct2, osl2, l2, c2, kk2⟩ := DK.ex
  have F2 := fun_mk (st := topS 32) l2 c2 kk2
  have B2 : Binds K _ [("e" : Str)] [] := F2.binds fun _ _ _ _ _ _ us hl => match us, hl with | [_], _ => rfl
  refine ⟨F.kp, _, P_law_caught, F.binds fun _ _ _ _ _ _ us hl => match us, hl with | [_, _, _], _ => rfl, ?_⟩
  rw [fn_law_caught]
  refine def_ok2 F sc_law_caught rfl rfl fa fun cdv A outer s H E hr L => ?_
  have e : exSs Δ f_law_caught.body = capS Δ tb_law_caught 0 3 (fun c => ks.map fun k => .bl (Δ.sub c k)) := funext fun ρ => funext fun st => cap_eq Δ tb_law_caught 0 3 ks (by decide) ρ st
  rw [e]
  refine caught_MSs (k := 1) (f := aK) (en := "e") (kx := "_law_kinds") (cl := "PackedError") (fu := 60) L ct tb_ok rfl (by decide +kernel) (by decide +kernel) (by decide +kernel) (by decide +kernel) (by decide +kernel) (by decide +kernel) (by decide +kernel) (by decide +kernel) mv hv (fun a oe C dd c fs hC hne hz hf => ?_) hr F2.kp B2 mk
  show FnP P w K mg base 1 aK _ [("e" : Str)] (a, oe) (spP g a C dd c fs (ks.map fun k => .bl (Δ.sub c k)))
  rw [← bo_eq c]
  refine kinds_ok F2 sc_kinds fa.hK (fa.ex.x c C hC hne).2.1 hz hf (by decide) kt (by decide +kernel) (by decide +kernel) (by decide +kernel) (by decide +kernel) (by decide +kernel) fa.isi (fun y hy => ?_) (by decide)
  obtain ⟨k, hk⟩ := known y hy
  obtain ⟨o1, Ck, o2, o3, _⟩ := fa.xm y k hk
  refine ⟨Ck, o3, ?_⟩
  have := (fa.ex.s c C k Ck hC hne o1 o2).2
  unfold bo
  rw [hk]
  exact this
end Fw.K00

/-! ## H00 -/
set_option Elab.async false
set_option linter.all false
set_option maxRecDepth 100000
set_option maxHeartbeats 16000000
namespace Fw.K00
open PySem PySem.Spec PyProof.Rows L2
theorem inj : ∀ i j, ev.okF i = true → ev.okF j = true → ev.nm i = ev.nm j → i = j := by
  have h : ∀ i, i < 3 → ∀ j, j < 3 → ev.nm i = ev.nm j → i = j := by decide +kernel
  intro i j hi hj
  exact h i (of_decide_eq_true hi) j (of_decide_eq_true hj)
theorem all {w : World} {K : PySem.W.Frag} {h : Heap} {mg : Str → Option Value} {fa f_0 f_1 f_2 f_3 f_4 f_5 f_6 f_7 f_8 C_0 C_1 C_2 C_3 C_4 C_5 C_6 C_7 C_8 I_1 I_6 I_7 I_8 f_k : Addr} {t_0 t_1 t_2 t_3 t_4 t_5 t_6 t_7 t_8 t_9 t_10 t_11 t_12 t_13 t_14 : Tok} (X : K.In h) (GN : h.Ns mainGlobals mg) (hfa : mg "law" = some (.ref fa))
    (ac0 : PySem.W.nsIn K mainGlobals ("PackedError" : Str) = some (some (.ref C_0)))
    (ac1 : PySem.W.nsIn K mainGlobals ("ReasonError" : Str) = some (some (.ref C_1)))
    (ac2 : PySem.W.nsIn K mainGlobals ("ArgumentError" : Str) = some (some (.ref C_2)))
    (ac3 : PySem.W.nsIn K mainGlobals ("CheckError" : Str) = some (some (.ref C_3)))
    (ac4 : PySem.W.nsIn K mainGlobals ("PaperError" : Str) = some (some (.ref C_4)))
    (ac5 : PySem.W.nsIn K mainGlobals ("TooMany" : Str) = some (some (.ref C_5)))
    (ac6 : PySem.W.nsIn K mainGlobals ("TextError" : Str) = some (some (.ref C_6)))
    (ac7 : PySem.W.nsIn K mainGlobals ("BrokenError" : Str) = some (some (.ref C_7)))
    (ac8 : PySem.W.nsIn K mainGlobals ("CommandError" : Str) = some (some (.ref C_8)))
    (a0 : PySem.W.nsIn K mainGlobals ("_law_raise" : Str) = some (some (.ref f_0)))
    (d0 : DefIn K ("_law_raise" : Str) ("_law_raise" : Str) (topS 31) f_0)
    (a1 : PySem.W.nsIn K mainGlobals ("_law_draws" : Str) = some (some (.ref f_1)))
    (d1 : DefIn K ("_law_draws" : Str) ("_law_draws" : Str) (topS 26) f_1)
    (a2 : PySem.W.nsIn K mainGlobals ("_law_limits_right" : Str) = some (some (.ref f_2)))
    (d2 : DefIn K ("_law_limits_right" : Str) ("_law_limits_right" : Str) (topS 30) f_2)
    (a3 : PySem.W.nsIn K mainGlobals ("_law_more" : Str) = some (some (.ref f_3)))
    (d3 : DefIn K ("_law_more" : Str) ("_law_more" : Str) (topS 27) f_3)
    (a4 : PySem.W.nsIn K mainGlobals ("_law_caught" : Str) = some (some (.ref f_4)))
    (d4 : DefIn K ("_law_caught" : Str) ("_law_caught" : Str) (topS 33) f_4)
    (a5 : PySem.W.nsIn K mainGlobals ("_law_fields" : Str) = some (some (.ref f_5)))
    (d5 : DefIn K ("_law_fields" : Str) ("_law_fields" : Str) (topS 34) f_5)
    (a6 : PySem.W.nsIn K mainGlobals ("_law_take" : Str) = some (some (.ref f_6)))
    (d6 : DefIn K ("_law_take" : Str) ("_law_take" : Str) (topS 28) f_6)
    (a7 : PySem.W.nsIn K mainGlobals ("_law_one" : Str) = some (some (.ref f_7)))
    (d7 : DefIn K ("_law_one" : Str) ("_law_one" : Str) (topS 29) f_7)
    (a8 : PySem.W.nsIn K mainGlobals ("law" : Str) = some (some (.ref f_8)))
    (d8 : DefIn K ("law" : Str) ("law" : Str) (topS 35) f_8)
    (q0 : PySem.W.nsIn K mainGlobals ("MAX_BYTES" : Str) = some (some (.int 1200 t_0)))
    (q1 : PySem.W.nsIn K mainGlobals ("MAX_BLOCK" : Str) = some (some (.int 256 t_1)))
    (q2 : PySem.W.nsIn K mainGlobals ("MAX_MATCH" : Str) = some (some (.int 34 t_2)))
    (q3 : PySem.W.nsIn K mainGlobals ("MIN_MATCH" : Str) = some (some (.int 3 t_3)))
    (q4 : PySem.W.nsIn K mainGlobals ("MAX_WINDOW" : Str) = some (some (.int 512 t_4)))
    (q5 : PySem.W.nsIn K mainGlobals ("MAX_WIDTH" : Str) = some (some (.int 12 t_5)))
    (q6 : PySem.W.nsIn K mainGlobals ("MAX_SIGNS" : Str) = some (some (.int 300 t_6)))
    (q7 : PySem.W.nsIn K mainGlobals ("MAX_WEIGHT" : Str) = some (some (.int 4095 t_7)))
    (q8 : PySem.W.nsIn K mainGlobals ("MAX_ARCHIVE" : Str) = some (some (.int 6000 t_8)))
    (q9 : PySem.W.nsIn K mainGlobals ("MAX_THINGS" : Str) = some (some (.int 24 t_9)))
    (q10 : PySem.W.nsIn K mainGlobals ("MAX_NAME" : Str) = some (some (.int 12 t_10)))
    (q11 : PySem.W.nsIn K mainGlobals ("MAX_DICTIONARY" : Str) = some (some (.int 128 t_11)))
    (q12 : PySem.W.nsIn K mainGlobals ("MAX_LINES" : Str) = some (some (.int 200 t_12)))
    (q13 : PySem.W.nsIn K mainGlobals ("MAX_TEXT" : Str) = some (some (.int 20000 t_13)))
    (q14 : PySem.W.nsIn K mainGlobals ("MAX_LEARNT" : Str) = some (some (.int 1020 t_14)))
    (zb : ∀ b : B, PySem.W.nsIn K mainGlobals (Str.ofString (bName b)) = some none)
    (zt : ∀ b : Ty, PySem.W.nsIn K mainGlobals (Str.ofString (tyName b)) = some none)
    (z_isinstance : PySem.W.nsIn K mainGlobals ("isinstance" : Str) = some none)
    (z_range : PySem.W.nsIn K mainGlobals ("range" : Str) = some none)
    (z_zip : PySem.W.nsIn K mainGlobals ("zip" : Str) = some none)
    (z_enumerate : PySem.W.nsIn K mainGlobals ("enumerate" : Str) = some none)
    (z_super : PySem.W.nsIn K mainGlobals ("super" : Str) = some none)
    (xi1 : PySem.W.findIn K (.ref C_1) "__init__" = some (some (.ref I_1)))
    (si1 : SiIn K PySem.Challenge.pw_packedwhole_k00_errors_and_limits I_1 C_1 (inCls 2 0) [("self" : Str), ("reason" : Str)])
    (xp1 : xpB K C_1 = true)
    (xo1 : XClsO K C_1)
    (xp2 : xpB K C_2 = true)
    (xo2 : XClsO K C_2)
    (xp3 : xpB K C_3 = true)
    (xo3 : XClsO K C_3)
    (xp4 : xpB K C_4 = true)
    (xo4 : XClsO K C_4)
    (xp5 : xpB K C_5 = true)
    (xo5 : XClsO K C_5)
    (xi6 : PySem.W.findIn K (.ref C_6) "__init__" = some (some (.ref I_6)))
    (si6 : SiIn K PySem.Challenge.pw_packedwhole_k00_errors_and_limits I_6 C_6 (inCls 7 0) [("self" : Str), ("at" : Str)])
    (xp6 : xpB K C_6 = true)
    (xo6 : XClsO K C_6)
    (xi7 : PySem.W.findIn K (.ref C_7) "__init__" = some (some (.ref I_7)))
    (si7 : SiIn K PySem.Challenge.pw_packedwhole_k00_errors_and_limits I_7 C_7 (inCls 8 0) [("self" : Str), ("at" : Str), ("reason" : Str)])
    (xp7 : xpB K C_7 = true)
    (xo7 : XClsO K C_7)
    (xi8 : PySem.W.findIn K (.ref C_8) "__init__" = some (some (.ref I_8)))
    (si8 : SiIn K PySem.Challenge.pw_packedwhole_k00_errors_and_limits I_8 C_8 (inCls 9 0) [("self" : Str), ("line" : Str)])
    (xp8 : xpB K C_8 = true)
    (xo8 : XClsO K C_8)
    (xc1 : xcB K C_1 C_1 I_1 = true)
    (n1_0 : PySem.W.findIn K (.ref C_1) ("reason" : Str) = some none)
    (xs1_0 : xsB K C_1 C_0 true = true)
    (xs1_1 : xsB K C_1 C_1 true = true)
    (xs1_2 : xsB K C_1 C_2 false = true)
    (xs1_3 : xsB K C_1 C_3 false = true)
    (xs1_4 : xsB K C_1 C_4 false = true)
    (xs1_5 : xsB K C_1 C_5 false = true)
    (xs1_6 : xsB K C_1 C_6 false = true)
    (xs1_7 : xsB K C_1 C_7 false = true)
    (xs1_8 : xsB K C_1 C_8 false = true)
    (xc2 : xcB K C_2 C_1 I_1 = true)
    (n2_0 : PySem.W.findIn K (.ref C_2) ("reason" : Str) = some none)
    (xs2_0 : xsB K C_2 C_0 true = true)
    (xs2_1 : xsB K C_2 C_1 true = true)
    (xs2_2 : xsB K C_2 C_2 true = true)
    (xs2_3 : xsB K C_2 C_3 false = true)
    (xs2_4 : xsB K C_2 C_4 false = true)
    (xs2_5 : xsB K C_2 C_5 false = true)
    (xs2_6 : xsB K C_2 C_6 false = true)
    (xs2_7 : xsB K C_2 C_7 false = true)
    (xs2_8 : xsB K C_2 C_8 false = true)
    (xc3 : xcB K C_3 C_1 I_1 = true)
    (n3_0 : PySem.W.findIn K (.ref C_3) ("reason" : Str) = some none)
    (xs3_0 : xsB K C_3 C_0 true = true)
    (xs3_1 : xsB K C_3 C_1 true = true)
    (xs3_2 : xsB K C_3 C_2 false = true)
    (xs3_3 : xsB K C_3 C_3 true = true)
    (xs3_4 : xsB K C_3 C_4 false = true)
    (xs3_5 : xsB K C_3 C_5 false = true)
    (xs3_6 : xsB K C_3 C_6 false = true)
    (xs3_7 : xsB K C_3 C_7 false = true)
    (xs3_8 : xsB K C_3 C_8 false = true)
    (xc4 : xcB K C_4 C_1 I_1 = true)
    (n4_0 : PySem.W.findIn K (.ref C_4) ("reason" : Str) = some none)
    (xs4_0 : xsB K C_4 C_0 true = true)
    (xs4_1 : xsB K C_4 C_1 true = true)
    (xs4_2 : xsB K C_4 C_2 false = true)
    (xs4_3 : xsB K C_4 C_3 false = true)
    (xs4_4 : xsB K C_4 C_4 true = true)
    (xs4_5 : xsB K C_4 C_5 false = true)
    (xs4_6 : xsB K C_4 C_6 false = true)
    (xs4_7 : xsB K C_4 C_7 false = true)
    (xs4_8 : xsB K C_4 C_8 false = true)
    (xc5 : xcB K C_5 C_1 I_1 = true)
    (n5_0 : PySem.W.findIn K (.ref C_5) ("reason" : Str) = some none)
    (xs5_0 : xsB K C_5 C_0 true = true)
    (xs5_1 : xsB K C_5 C_1 true = true)
    (xs5_2 : xsB K C_5 C_2 false = true)
    (xs5_3 : xsB K C_5 C_3 false = true)
    (xs5_4 : xsB K C_5 C_4 false = true)
    (xs5_5 : xsB K C_5 C_5 true = true)
    (xs5_6 : xsB K C_5 C_6 false = true)
    (xs5_7 : xsB K C_5 C_7 false = true)
    (xs5_8 : xsB K C_5 C_8 false = true)
    (xc6 : xcB K C_6 C_6 I_6 = true)
    (n6_1 : PySem.W.findIn K (.ref C_6) ("at" : Str) = some none)
    (xs6_0 : xsB K C_6 C_0 true = true)
    (xs6_1 : xsB K C_6 C_1 false = true)
    (xs6_2 : xsB K C_6 C_2 false = true)
    (xs6_3 : xsB K C_6 C_3 false = true)
    (xs6_4 : xsB K C_6 C_4 false = true)
    (xs6_5 : xsB K C_6 C_5 false = true)
    (xs6_6 : xsB K C_6 C_6 true = true)
    (xs6_7 : xsB K C_6 C_7 false = true)
    (xs6_8 : xsB K C_6 C_8 false = true)
    (xc7 : xcB K C_7 C_7 I_7 = true)
    (n7_1 : PySem.W.findIn K (.ref C_7) ("at" : Str) = some none)
    (n7_0 : PySem.W.findIn K (.ref C_7) ("reason" : Str) = some none)
    (xs7_0 : xsB K C_7 C_0 true = true)
    (xs7_1 : xsB K C_7 C_1 false = true)
    (xs7_2 : xsB K C_7 C_2 false = true)
    (xs7_3 : xsB K C_7 C_3 false = true)
    (xs7_4 : xsB K C_7 C_4 false = true)
    (xs7_5 : xsB K C_7 C_5 false = true)
    (xs7_6 : xsB K C_7 C_6 false = true)
    (xs7_7 : xsB K C_7 C_7 true = true)
    (xs7_8 : xsB K C_7 C_8 false = true)
    (xc8 : xcB K C_8 C_8 I_8 = true)
    (n8_2 : PySem.W.findIn K (.ref C_8) ("line" : Str) = some none)
    (xs8_0 : xsB K C_8 C_0 true = true)
    (xs8_1 : xsB K C_8 C_1 false = true)
    (xs8_2 : xsB K C_8 C_2 false = true)
    (xs8_3 : xsB K C_8 C_3 false = true)
    (xs8_4 : xsB K C_8 C_4 false = true)
    (xs8_5 : xsB K C_8 C_5 false = true)
    (xs8_6 : xsB K C_8 C_6 false = true)
    (xs8_7 : xsB K C_8 C_7 false = true)
    (xs8_8 : xsB K C_8 C_8 true = true)
    (ak : PySem.W.nsIn K mainGlobals "_law_kinds" = some (some (.ref f_k)))
    (dk : DefIn K "_law_kinds" "_law_kinds" (topS 32) f_k)
    (zve : PySem.W.nsIn K mainGlobals "ValueError" = some none)
    (ve1 : decide (PySem.W.kitOne K (.ref C_1) (.type "ValueError") = some true) = true)
    (ve2 : decide (PySem.W.kitOne K (.ref C_2) (.type "ValueError") = some true) = true)
    (ve3 : decide (PySem.W.kitOne K (.ref C_3) (.type "ValueError") = some true) = true)
    (ve4 : decide (PySem.W.kitOne K (.ref C_4) (.type "ValueError") = some true) = true)
    (ve5 : decide (PySem.W.kitOne K (.ref C_5) (.type "ValueError") = some true) = true)
    (ve6 : decide (PySem.W.kitOne K (.ref C_6) (.type "ValueError") = some true) = true)
    (ve7 : decide (PySem.W.kitOne K (.ref C_7) (.type "ValueError") = some true) = true)
    (ve8 : decide (PySem.W.kitOne K (.ref C_8) (.type "ValueError") = some true) = true) :
    ∃ (fd : FuncData) (g : G) (m : List D → Store → Res W), g.K = K ∧ (∀ (s : Shared) (u : Value), BindsTo s fd ⟨[u], []⟩ [("script", u)]) ∧
        (∀ base : Heap, K.In base → base.Ns mainGlobals mg → FnG PySem.Challenge.pw_packedwhole_k00_errors_and_limits w K mg base 4 fa fd ["script"] (spF g m)) ∧
        ∀ ns : List Int, ns.length ≤ 63 → (∀ z ∈ ns, Builtin.Int.intBits z ≤ 1048576) → ∃ st, m [.scr (ns.map D.int)] [] = .ok (.v (.bl true)) st := by
  have e := hfa.symm.trans (PySem.W.mg_of X GN a8)
  have e2 : f_8 = fa := (Value.ref.inj (Option.some.inj e)).symm
  subst e2
  let g : G := { K := K, fn := fun i => List.lookup i ([(0, f_0), (1, f_1), (2, f_2), (3, f_3), (4, f_4), (5, f_5), (6, f_6), (7, f_7), (8, f_8)] : List (Nat × Addr)), cls := fun i => List.lookup i ([(0, C_0), (1, C_1), (2, C_2), (3, C_3), (4, C_4), (5, C_5), (6, C_6), (7, C_7), (8, C_8)] : List (Nat × Addr)), nm := ev.nm, okF := ev.okF, inj := inj }
  have hv : ∀ c C, g.cls c = some C → Δ.exf c ≠ [] → PySem.W.kitOne K (.ref C) (.type "ValueError") = some true := fun c C hc => (row_of (tab := [(0, C_0), (1, C_1), (2, C_2), (3, C_3), (4, C_4), (5, C_5), (6, C_6), (7, C_7), (8, C_8)]) (Pr := fun c C => Δ.exf c ≠ [] → PySem.W.kitOne K (.ref C) (.type "ValueError") = some true) (fa_cons (fun z => absurd rfl z) (fa_cons (fun _ => of_decide_eq_true ve1) (fa_cons (fun _ => of_decide_eq_true ve2) (fa_cons (fun _ => of_decide_eq_true ve3) (fa_cons (fun _ => of_decide_eq_true ve4) (fa_cons (fun _ => of_decide_eq_true ve5) (fa_cons (fun _ => of_decide_eq_true ve6) (fa_cons (fun _ => of_decide_eq_true ve7) (fa_cons (fun _ => of_decide_eq_true ve8) fa_nil)))))))))) c C hc
  have rows : ∀ p ∈ ([(0, f_0), (1, f_1), (2, f_2), (3, f_3), (4, f_4), (5, f_5), (6, f_6), (7, f_7), (8, f_8)] : List (Nat × Addr)), Row PySem.Challenge.pw_packedwhole_k00_errors_and_limits K ev Δ p.1 p.2 ∨ ∀ base : Heap, Fa PySem.Challenge.pw_packedwhole_k00_errors_and_limits w K mg base g ev Δ (ev.lv p.1) → FOk PySem.Challenge.pw_packedwhole_k00_errors_and_limits w K mg base g (ev.lv p.1 + 1) p.2 (Δ.fns p.1) :=
    fa_cons (.inl (d0.row sc_law_raise rfl rfl (fun _ _ _ _ _ _ us hl => match us, hl with | [_, _, _], _ => rfl) ok_law_raise fine_law_raise)) (
    fa_cons (.inl (d1.row sc_law_draws rfl rfl (fun _ _ _ _ _ _ us hl => match us, hl with | [_], _ => rfl) ok_law_draws fine_law_draws)) (
    fa_cons (.inl (d2.row sc_law_limits_right rfl rfl (fun _ _ _ _ _ _ us hl => match us, hl with | [], _ => rfl) ok_law_limits_right fine_law_limits_right)) (
    fa_cons (.inl (d3.row sc_law_more rfl rfl (fun _ _ _ _ _ _ us hl => match us, hl with | [_, _], _ => rfl) ok_law_more fine_law_more)) (
    fa_cons (.inr fun base fa => caught_fok d4 dk (PySem.W.mg_of X GN ak) (PySem.W.mg_none_of X GN zve) hv fa) (
    fa_cons (.inl (d5.row sc_law_fields rfl rfl (fun _ _ _ _ _ _ us hl => match us, hl with | [_, _, _], _ => rfl) ok_law_fields fine_law_fields)) (
    fa_cons (.inl (d6.row sc_law_take rfl rfl (fun _ _ _ _ _ _ us hl => match us, hl with | [_, _, _], _ => rfl) ok_law_take fine_law_take)) (
    fa_cons (.inl (d7.row sc_law_one rfl rfl (fun _ _ _ _ _ _ us hl => match us, hl with | [_, _, _], _ => rfl) ok_law_one fine_law_one)) (
    fa_cons (.inl (d8.row sc_law rfl rfl (fun _ _ _ _ _ _ us hl => match us, hl with | [_], _ => rfl) ok_law fine_law)) (fa_nil)))))))))
  have X1 : XCls K C_1 C_1 I_1 := xcB_ok xo1 xc1
  have S1 : XMk PySem.Challenge.pw_packedwhole_k00_errors_and_limits w K mg C_1 [("reason" : Str)] := si1_mk (f := ("reason" : Str)) ⟨X1, n1_0, ⟨by decide, by decide⟩, ⟨_, _, _, _, _, _, _, _, _, _, by decide, si_of si1 (by decide +kernel)⟩⟩ (PySem.W.mg_none_of X GN z_super)
  have X2 : XCls K C_2 C_1 I_1 := xcB_ok xo2 xc2
  have S2 : XMk PySem.Challenge.pw_packedwhole_k00_errors_and_limits w K mg C_2 [("reason" : Str)] := si1_mk (f := ("reason" : Str)) ⟨X2, n2_0, ⟨by decide, by decide⟩, ⟨_, _, _, _, _, _, _, _, _, _, by decide, si_of si1 (by decide +kernel)⟩⟩ (PySem.W.mg_none_of X GN z_super)
  have X3 : XCls K C_3 C_1 I_1 := xcB_ok xo3 xc3
  have S3 : XMk PySem.Challenge.pw_packedwhole_k00_errors_and_limits w K mg C_3 [("reason" : Str)] := si1_mk (f := ("reason" : Str)) ⟨X3, n3_0, ⟨by decide, by decide⟩, ⟨_, _, _, _, _, _, _, _, _, _, by decide, si_of si1 (by decide +kernel)⟩⟩ (PySem.W.mg_none_of X GN z_super)
  have X4 : XCls K C_4 C_1 I_1 := xcB_ok xo4 xc4
  have S4 : XMk PySem.Challenge.pw_packedwhole_k00_errors_and_limits w K mg C_4 [("reason" : Str)] := si1_mk (f := ("reason" : Str)) ⟨X4, n4_0, ⟨by decide, by decide⟩, ⟨_, _, _, _, _, _, _, _, _, _, by decide, si_of si1 (by decide +kernel)⟩⟩ (PySem.W.mg_none_of X GN z_super)
  have X5 : XCls K C_5 C_1 I_1 := xcB_ok xo5 xc5
  have S5 : XMk PySem.Challenge.pw_packedwhole_k00_errors_and_limits w K mg C_5 [("reason" : Str)] := si1_mk (f := ("reason" : Str)) ⟨X5, n5_0, ⟨by decide, by decide⟩, ⟨_, _, _, _, _, _, _, _, _, _, by decide, si_of si1 (by decide +kernel)⟩⟩ (PySem.W.mg_none_of X GN z_super)
  have X6 : XCls K C_6 C_6 I_6 := xcB_ok xo6 xc6
  have S6 : XMk PySem.Challenge.pw_packedwhole_k00_errors_and_limits w K mg C_6 [("at" : Str)] := si1_mk (f := ("at" : Str)) ⟨X6, n6_1, ⟨by decide, by decide⟩, ⟨_, _, _, _, _, _, _, _, _, _, by decide, si_of si6 (by decide +kernel)⟩⟩ (PySem.W.mg_none_of X GN z_super)
  have X7 : XCls K C_7 C_7 I_7 := xcB_ok xo7 xc7
  have S7 : XMk PySem.Challenge.pw_packedwhole_k00_errors_and_limits w K mg C_7 [("at" : Str), ("reason" : Str)] := si2_mk (f := ("at" : Str)) (f2 := ("reason" : Str)) ⟨X7, n7_1, n7_0, ⟨by decide, by decide, by decide, by decide, by decide⟩, ⟨_, _, _, _, _, _, _, _, _, _, _, _, _, _, _, by decide, si_of si7 (by decide +kernel)⟩⟩ (PySem.W.mg_none_of X GN z_super)
  have X8 : XCls K C_8 C_8 I_8 := xcB_ok xo8 xc8
  have S8 : XMk PySem.Challenge.pw_packedwhole_k00_errors_and_limits w K mg C_8 [("line" : Str)] := si1_mk (f := ("line" : Str)) ⟨X8, n8_2, ⟨by decide, by decide⟩, ⟨_, _, _, _, _, _, _, _, _, _, by decide, si_of si8 (by decide +kernel)⟩⟩ (PySem.W.mg_none_of X GN z_super)
  have Y : Fb PySem.Challenge.pw_packedwhole_k00_errors_and_limits w K mg g ev Δ := {
    hK := rfl, nm := fun _ => rfl, okF := fun _ => rfl, lv := fun _ => rfl, exf := fun _ => rfl
    fn := row_of (tab := ev.fnm) (Pr := fun x f => ∃ a, g.fn f = some a ∧ mg x = some (.ref a)) (fa_cons ⟨f_0, rfl, PySem.W.mg_of X GN a0⟩ (fa_cons ⟨f_1, rfl, PySem.W.mg_of X GN a1⟩ (fa_cons ⟨f_2, rfl, PySem.W.mg_of X GN a2⟩ (fa_cons ⟨f_3, rfl, PySem.W.mg_of X GN a3⟩ (fa_cons ⟨f_4, rfl, PySem.W.mg_of X GN a4⟩ (fa_cons ⟨f_5, rfl, PySem.W.mg_of X GN a5⟩ (fa_cons ⟨f_6, rfl, PySem.W.mg_of X GN a6⟩ (fa_cons ⟨f_7, rfl, PySem.W.mg_of X GN a7⟩ (fa_cons ⟨f_8, rfl, PySem.W.mg_of X GN a8⟩ fa_nil)))))))))
    cs := row_of (tab := ev.csm) (Pr := fun x k => ∃ u v, mg x = some u ∧ RelV v u ∧ ∀ μ H, RV g μ μ H (Δ.cst k) v) (fa_cons ⟨_, .int 1200, PySem.W.mg_of X GN q0, ⟨_, rfl⟩, fun _ _ => .int _⟩ (fa_cons ⟨_, .int 256, PySem.W.mg_of X GN q1, ⟨_, rfl⟩, fun _ _ => .int _⟩ (fa_cons ⟨_, .int 34, PySem.W.mg_of X GN q2, ⟨_, rfl⟩, fun _ _ => .int _⟩ (fa_cons ⟨_, .int 3, PySem.W.mg_of X GN q3, ⟨_, rfl⟩, fun _ _ => .int _⟩ (fa_cons ⟨_, .int 512, PySem.W.mg_of X GN q4, ⟨_, rfl⟩, fun _ _ => .int _⟩ (fa_cons ⟨_, .int 12, PySem.W.mg_of X GN q5, ⟨_, rfl⟩, fun _ _ => .int _⟩ (fa_cons ⟨_, .int 300, PySem.W.mg_of X GN q6, ⟨_, rfl⟩, fun _ _ => .int _⟩ (fa_cons ⟨_, .int 4095, PySem.W.mg_of X GN q7, ⟨_, rfl⟩, fun _ _ => .int _⟩ (fa_cons ⟨_, .int 6000, PySem.W.mg_of X GN q8, ⟨_, rfl⟩, fun _ _ => .int _⟩ (fa_cons ⟨_, .int 24, PySem.W.mg_of X GN q9, ⟨_, rfl⟩, fun _ _ => .int _⟩ (fa_cons ⟨_, .int 12, PySem.W.mg_of X GN q10, ⟨_, rfl⟩, fun _ _ => .int _⟩ (fa_cons ⟨_, .int 128, PySem.W.mg_of X GN q11, ⟨_, rfl⟩, fun _ _ => .int _⟩ (fa_cons ⟨_, .int 200, PySem.W.mg_of X GN q12, ⟨_, rfl⟩, fun _ _ => .int _⟩ (fa_cons ⟨_, .int 20000, PySem.W.mg_of X GN q13, ⟨_, rfl⟩, fun _ _ => .int _⟩ (fa_cons ⟨_, .int 1020, PySem.W.mg_of X GN q14, ⟨_, rfl⟩, fun _ _ => .int _⟩ fa_nil)))))))))))))))
    bl := fun b => PySem.W.mg_none_of X GN (zb b), ty := fun b => PySem.W.mg_none_of X GN (zt b), isi := PySem.W.mg_none_of X GN z_isinstance, rg := PySem.W.mg_none_of X GN z_range, zp := PySem.W.mg_none_of X GN z_zip, en := PySem.W.mg_none_of X GN z_enumerate
    cl := ⟨fun c C f hc hf => (row_of (tab := [(0, C_0), (1, C_1), (2, C_2), (3, C_3), (4, C_4), (5, C_5), (6, C_6), (7, C_7), (8, C_8)]) (Pr := fun c C => ∀ f, (Δ.flds c).contains f = true → Cls K C ∧ NoAttr K C (ev.nm f) ∧ ev.okF f = true)
      (fa_cons (fun f hf => by cases hf) (fa_cons (fun f hf => by cases hf) (fa_cons (fun f hf => by cases hf) (fa_cons (fun f hf => by cases hf) (fa_cons (fun f hf => by cases hf) (fa_cons (fun f hf => by cases hf) (fa_cons (fun f hf => by cases hf) (fa_cons (fun f hf => by cases hf) (fa_cons (fun f hf => by cases hf) fa_nil)))))))))) c C hc f hf⟩
    nw := row_of (tab := ev.clm) (Pr := fun x p => ∃ C a, g.cls p.1 = some C ∧ mg x = some (.ref C) ∧ g.fn p.2 = some a ∧ Mk K C a) fa_nil |> fun z x c f e => z x (c, f) e
    mt := row_of (tab := ev.mtm) (Pr := fun p f => ∃ C a, g.cls p.1 = some C ∧ g.fn f = some a ∧ Cls K C ∧ Meth K C (g.nm p.2) a) fa_nil |> fun z c m f e => z (c, m) f e
    ex := ⟨fun c C hc => (row_of (tab := [(0, C_0), (1, C_1), (2, C_2), (3, C_3), (4, C_4), (5, C_5), (6, C_6), (7, C_7), (8, C_8)]) (Pr := fun c C => Δ.exf c ≠ [] → XfC K C ∧ ExcC K C ∧ ∀ f ∈ Δ.exf c, PySem.W.findIn K (.ref C) (g.nm f) = some none) (fa_cons (fun z => absurd rfl z) (fa_cons (fun _ => ⟨(xpB_ok xp1).1, (xpB_ok xp1).2, (fa_cons n1_0 fa_nil)⟩) (fa_cons (fun _ => ⟨(xpB_ok xp2).1, (xpB_ok xp2).2, (fa_cons n2_0 fa_nil)⟩) (fa_cons (fun _ => ⟨(xpB_ok xp3).1, (xpB_ok xp3).2, (fa_cons n3_0 fa_nil)⟩) (fa_cons (fun _ => ⟨(xpB_ok xp4).1, (xpB_ok xp4).2, (fa_cons n4_0 fa_nil)⟩) (fa_cons (fun _ => ⟨(xpB_ok xp5).1, (xpB_ok xp5).2, (fa_cons n5_0 fa_nil)⟩) (fa_cons (fun _ => ⟨(xpB_ok xp6).1, (xpB_ok xp6).2, (fa_cons n6_1 fa_nil)⟩) (fa_cons (fun _ => ⟨(xpB_ok xp7).1, (xpB_ok xp7).2, (fa_cons n7_1 (fa_cons n7_0 fa_nil))⟩) (fa_cons (fun _ => ⟨(xpB_ok xp8).1, (xpB_ok xp8).2, (fa_cons n8_2 fa_nil)⟩) fa_nil)))))))))) c C hc,
      fun c C k Ck hc hx hk hC => (row_of (tab := [(0, C_0), (1, C_1), (2, C_2), (3, C_3), (4, C_4), (5, C_5), (6, C_6), (7, C_7), (8, C_8)]) (Pr := fun c C => Δ.exf c ≠ [] → ∀ k Ck, ev.okx k = true → g.cls k = some Ck → PySem.W.exmOne K (.ref C) (.ref Ck) = some (Δ.sub c k) ∧ PySem.W.kitOne K (.ref C) (.ref Ck) = some (Δ.sub c k)) (fa_cons (fun z => absurd rfl z) (fa_cons (fun _ k Ck hk hC => by
        rcases (by simpa [ev] using hk : k = 0 ∨ k = 1 ∨ k = 2 ∨ k = 3 ∨ k = 4 ∨ k = 5 ∨ k = 6 ∨ k = 7 ∨ k = 8) with rfl | rfl | rfl | rfl | rfl | rfl | rfl | rfl | rfl
        · cases hC; exact xsB_ok xs1_0
        · cases hC; exact xsB_ok xs1_1
        · cases hC; exact xsB_ok xs1_2
        · cases hC; exact xsB_ok xs1_3
        · cases hC; exact xsB_ok xs1_4
        · cases hC; exact xsB_ok xs1_5
        · cases hC; exact xsB_ok xs1_6
        · cases hC; exact xsB_ok xs1_7
        · cases hC; exact xsB_ok xs1_8) (fa_cons (fun _ k Ck hk hC => by
        rcases (by simpa [ev] using hk : k = 0 ∨ k = 1 ∨ k = 2 ∨ k = 3 ∨ k = 4 ∨ k = 5 ∨ k = 6 ∨ k = 7 ∨ k = 8) with rfl | rfl | rfl | rfl | rfl | rfl | rfl | rfl | rfl
        · cases hC; exact xsB_ok xs2_0
        · cases hC; exact xsB_ok xs2_1
        · cases hC; exact xsB_ok xs2_2
        · cases hC; exact xsB_ok xs2_3
        · cases hC; exact xsB_ok xs2_4
        · cases hC; exact xsB_ok xs2_5
        · cases hC; exact xsB_ok xs2_6
        · cases hC; exact xsB_ok xs2_7
        · cases hC; exact xsB_ok xs2_8) (fa_cons (fun _ k Ck hk hC => by
        rcases (by simpa [ev] using hk : k = 0 ∨ k = 1 ∨ k = 2 ∨ k = 3 ∨ k = 4 ∨ k = 5 ∨ k = 6 ∨ k = 7 ∨ k = 8) with rfl | rfl | rfl | rfl | rfl | rfl | rfl | rfl | rfl
        · cases hC; exact xsB_ok xs3_0
        · cases hC; exact xsB_ok xs3_1
        · cases hC; exact xsB_ok xs3_2
        · cases hC; exact xsB_ok xs3_3
        · cases hC; exact xsB_ok xs3_4
        · cases hC; exact xsB_ok xs3_5
        · cases hC; exact xsB_ok xs3_6
        · cases hC; exact xsB_ok xs3_7
        · cases hC; exact xsB_ok xs3_8) (fa_cons (fun _ k Ck hk hC => by
        rcases (by simpa [ev] using hk : k = 0 ∨ k = 1 ∨ k = 2 ∨ k = 3 ∨ k = 4 ∨ k = 5 ∨ k = 6 ∨ k = 7 ∨ k = 8) with rfl | rfl | rfl | rfl | rfl | rfl | rfl | rfl | rfl
        · cases hC; exact xsB_ok xs4_0
        · cases hC; exact xsB_ok xs4_1
        · cases hC; exact xsB_ok xs4_2
        · cases hC; exact xsB_ok xs4_3
        · cases hC; exact xsB_ok xs4_4
        · cases hC; exact xsB_ok xs4_5
        · cases hC; exact xsB_ok xs4_6
        · cases hC; exact xsB_ok xs4_7
        · cases hC; exact xsB_ok xs4_8) (fa_cons (fun _ k Ck hk hC => by
        rcases (by simpa [ev] using hk : k = 0 ∨ k = 1 ∨ k = 2 ∨ k = 3 ∨ k = 4 ∨ k = 5 ∨ k = 6 ∨ k = 7 ∨ k = 8) with rfl | rfl | rfl | rfl | rfl | rfl | rfl | rfl | rfl
        · cases hC; exact xsB_ok xs5_0
        · cases hC; exact xsB_ok xs5_1
        · cases hC; exact xsB_ok xs5_2
        · cases hC; exact xsB_ok xs5_3
        · cases hC; exact xsB_ok xs5_4
        · cases hC; exact xsB_ok xs5_5
        · cases hC; exact xsB_ok xs5_6
        · cases hC; exact xsB_ok xs5_7
        · cases hC; exact xsB_ok xs5_8) (fa_cons (fun _ k Ck hk hC => by
        rcases (by simpa [ev] using hk : k = 0 ∨ k = 1 ∨ k = 2 ∨ k = 3 ∨ k = 4 ∨ k = 5 ∨ k = 6 ∨ k = 7 ∨ k = 8) with rfl | rfl | rfl | rfl | rfl | rfl | rfl | rfl | rfl
        · cases hC; exact xsB_ok xs6_0
        · cases hC; exact xsB_ok xs6_1
        · cases hC; exact xsB_ok xs6_2
        · cases hC; exact xsB_ok xs6_3
        · cases hC; exact xsB_ok xs6_4
        · cases hC; exact xsB_ok xs6_5
        · cases hC; exact xsB_ok xs6_6
        · cases hC; exact xsB_ok xs6_7
        · cases hC; exact xsB_ok xs6_8) (fa_cons (fun _ k Ck hk hC => by
        rcases (by simpa [ev] using hk : k = 0 ∨ k = 1 ∨ k = 2 ∨ k = 3 ∨ k = 4 ∨ k = 5 ∨ k = 6 ∨ k = 7 ∨ k = 8) with rfl | rfl | rfl | rfl | rfl | rfl | rfl | rfl | rfl
        · cases hC; exact xsB_ok xs7_0
        · cases hC; exact xsB_ok xs7_1
        · cases hC; exact xsB_ok xs7_2
        · cases hC; exact xsB_ok xs7_3
        · cases hC; exact xsB_ok xs7_4
        · cases hC; exact xsB_ok xs7_5
        · cases hC; exact xsB_ok xs7_6
        · cases hC; exact xsB_ok xs7_7
        · cases hC; exact xsB_ok xs7_8) (fa_cons (fun _ k Ck hk hC => by
        rcases (by simpa [ev] using hk : k = 0 ∨ k = 1 ∨ k = 2 ∨ k = 3 ∨ k = 4 ∨ k = 5 ∨ k = 6 ∨ k = 7 ∨ k = 8) with rfl | rfl | rfl | rfl | rfl | rfl | rfl | rfl | rfl
        · cases hC; exact xsB_ok xs8_0
        · cases hC; exact xsB_ok xs8_1
        · cases hC; exact xsB_ok xs8_2
        · cases hC; exact xsB_ok xs8_3
        · cases hC; exact xsB_ok xs8_4
        · cases hC; exact xsB_ok xs8_5
        · cases hC; exact xsB_ok xs8_6
        · cases hC; exact xsB_ok xs8_7
        · cases hC; exact xsB_ok xs8_8) fa_nil)))))))))) c C hc hx k Ck hk hC⟩
    xm := row_of (tab := ev.exm) (Pr := fun x k => ev.okx k = true ∧ ∃ C, g.cls k = some C ∧ mg x = some (.ref C) ∧ (ev.exf k ≠ [] → XMk PySem.Challenge.pw_packedwhole_k00_errors_and_limits w K mg C ((ev.exf k).map g.nm)) ∧ ∀ f ∈ ev.exf k, g.okF f = true) (fa_cons ⟨rfl, C_0, rfl, PySem.W.mg_of X GN ac0, fun z => absurd rfl z, fa_nil⟩ (fa_cons ⟨rfl, C_1, rfl, PySem.W.mg_of X GN ac1, fun _ => S1, (fa_cons rfl fa_nil)⟩ (fa_cons ⟨rfl, C_2, rfl, PySem.W.mg_of X GN ac2, fun _ => S2, (fa_cons rfl fa_nil)⟩ (fa_cons ⟨rfl, C_3, rfl, PySem.W.mg_of X GN ac3, fun _ => S3, (fa_cons rfl fa_nil)⟩ (fa_cons ⟨rfl, C_4, rfl, PySem.W.mg_of X GN ac4, fun _ => S4, (fa_cons rfl fa_nil)⟩ (fa_cons ⟨rfl, C_5, rfl, PySem.W.mg_of X GN ac5, fun _ => S5, (fa_cons rfl fa_nil)⟩ (fa_cons ⟨rfl, C_6, rfl, PySem.W.mg_of X GN ac6, fun _ => S6, (fa_cons rfl fa_nil)⟩ (fa_cons ⟨rfl, C_7, rfl, PySem.W.mg_of X GN ac7, fun _ => S7, (fa_cons rfl (fa_cons rfl fa_nil))⟩ (fa_cons ⟨rfl, C_8, rfl, PySem.W.mg_of X GN ac8, fun _ => S8, (fa_cons rfl fa_nil)⟩ fa_nil))))))))) }
  have ok : ∀ base : Heap, FOk PySem.Challenge.pw_packedwhole_k00_errors_and_limits w K mg base g 4 f_8 (Δ.fns 8) := fun base => (all_ok2 Y (fun i a e => row_of (Pr := fun i a => Row PySem.Challenge.pw_packedwhole_k00_errors_and_limits K ev Δ i a ∨ ∀ base : Heap, Fa PySem.Challenge.pw_packedwhole_k00_errors_and_limits w K mg base g ev Δ (ev.lv i) → FOk PySem.Challenge.pw_packedwhole_k00_errors_and_limits w K mg base g (ev.lv i + 1) a (Δ.fns i)) rows i a e) base 4).fo 4 8 f_8 (Nat.le_refl _) rfl (by decide)
  obtain ⟨oc, od, kV, doc, pm, an, cdv, ct, osl, l, c, kk⟩ := d8.ex
  have Y5 : ∀ base : Heap, Fa PySem.Challenge.pw_packedwhole_k00_errors_and_limits w K mg base g ev Δ 3 := fun base => (all_ok2 Y (fun i a e => row_of (Pr := fun i a => Row PySem.Challenge.pw_packedwhole_k00_errors_and_limits K ev Δ i a ∨ ∀ base : Heap, Fa PySem.Challenge.pw_packedwhole_k00_errors_and_limits w K mg base g ev Δ (ev.lv i) → FOk PySem.Challenge.pw_packedwhole_k00_errors_and_limits w K mg base g (ev.lv i + 1) a (Δ.fns i)) rows i a e) base 3)
  exact ⟨_, g, runFn Δ f_law, rfl, fun s u => .of_eq rfl, fun base _ _ => def_ok (fun_mk (st := (topS 35)) l c kk) sc_law rfl rfl (Y5 base) ok_law, law_true⟩
end Fw.K00
open PySem PySem.W PyProof.Rows in
set_option maxRecDepth 100000 in
set_option maxHeartbeats 0 in
theorem PySem.Challenge.cw_packedwhole_k00_errors_and_limits_holds : PySem.Challenge.rw_packedwhole_k00_errors_and_limits.Holds := by
  w_on; o_law; k_head; (case hw => w_witness2)
  k_fill
  refine Fw.walk_G (l := PySem.Challenge.rw_packedwhole_k00_errors_and_limits) (n := 63) (k := 4) (x := "script") rfl (by decide) rfl ⟨rfl, by decide, by decide⟩ (fun w h Y => PySem.W.kIn_of Y) ?F
  case F =>
    intro w mg fa h KX G hmg
    refine' Fw.K00.all KX G hmg ?ac0 ?ac1 ?ac2 ?ac3 ?ac4 ?ac5 ?ac6 ?ac7 ?ac8 ?a0 ?d0 ?a1 ?d1 ?a2 ?d2 ?a3 ?d3 ?a4 ?d4 ?a5 ?d5 ?a6 ?d6 ?a7 ?d7 ?a8 ?d8 ?q0 ?q1 ?q2 ?q3 ?q4 ?q5 ?q6 ?q7 ?q8 ?q9 ?q10 ?q11 ?q12 ?q13 ?q14 ?zb ?zt ?z_isinstance ?z_range ?z_zip ?z_enumerate ?z_super ?xi1 ?si1 ?xp1 ?xo1 ?xp2 ?xo2 ?xp3 ?xo3 ?xp4 ?xo4 ?xp5 ?xo5 ?xi6 ?si6 ?xp6 ?xo6 ?xi7 ?si7 ?xp7 ?xo7 ?xi8 ?si8 ?xp8 ?xo8 ?xc1 ?n1_0 ?xs1_0 ?xs1_1 ?xs1_2 ?xs1_3 ?xs1_4 ?xs1_5 ?xs1_6 ?xs1_7 ?xs1_8 ?xc2 ?n2_0 ?xs2_0 ?xs2_1 ?xs2_2 ?xs2_3 ?xs2_4 ?xs2_5 ?xs2_6 ?xs2_7 ?xs2_8 ?xc3 ?n3_0 ?xs3_0 ?xs3_1 ?xs3_2 ?xs3_3 ?xs3_4 ?xs3_5 ?xs3_6 ?xs3_7 ?xs3_8 ?xc4 ?n4_0 ?xs4_0 ?xs4_1 ?xs4_2 ?xs4_3 ?xs4_4 ?xs4_5 ?xs4_6 ?xs4_7 ?xs4_8 ?xc5 ?n5_0 ?xs5_0 ?xs5_1 ?xs5_2 ?xs5_3 ?xs5_4 ?xs5_5 ?xs5_6 ?xs5_7 ?xs5_8 ?xc6 ?n6_1 ?xs6_0 ?xs6_1 ?xs6_2 ?xs6_3 ?xs6_4 ?xs6_5 ?xs6_6 ?xs6_7 ?xs6_8 ?xc7 ?n7_1 ?n7_0 ?xs7_0 ?xs7_1 ?xs7_2 ?xs7_3 ?xs7_4 ?xs7_5 ?xs7_6 ?xs7_7 ?xs7_8 ?xc8 ?n8_2 ?xs8_0 ?xs8_1 ?xs8_2 ?xs8_3 ?xs8_4 ?xs8_5 ?xs8_6 ?xs8_7 ?xs8_8 ?ak ?dk ?zve ?ve1 ?ve2 ?ve3 ?ve4 ?ve5 ?ve6 ?ve7 ?ve8
    (case ac0 => k_is)
    (case ac1 => k_is)
    (case ac2 => k_is)
    (case ac3 => k_is)
    (case ac4 => k_is)
    (case ac5 => k_is)
    (case ac6 => k_is)
    (case ac7 => k_is)
    (case ac8 => k_is)
    (case a0 => k_is)
    (case d0 => exact ⟨_, _, _, _, _, _, _, _, _, by k_is, by k_is, by k_is⟩)
    (case a1 => k_is)
    (case d1 => exact ⟨_, _, _, _, _, _, _, _, _, by k_is, by k_is, by k_is⟩)
    (case a2 => k_is)
    (case d2 => exact ⟨_, _, _, _, _, _, _, _, _, by k_is, by k_is, by k_is⟩)
    (case a3 => k_is)
    (case d3 => exact ⟨_, _, _, _, _, _, _, _, _, by k_is, by k_is, by k_is⟩)
    (case a4 => k_is)
    (case d4 => exact ⟨_, _, _, _, _, _, _, _, _, by k_is, by k_is, by k_is⟩)
    (case a5 => k_is)
    (case d5 => exact ⟨_, _, _, _, _, _, _, _, _, by k_is, by k_is, by k_is⟩)
    (case a6 => k_is)
    (case d6 => exact ⟨_, _, _, _, _, _, _, _, _, by k_is, by k_is, by k_is⟩)
    (case a7 => k_is)
    (case d7 => exact ⟨_, _, _, _, _, _, _, _, _, by k_is, by k_is, by k_is⟩)
    (case a8 => k_is)
    (case d8 => exact ⟨_, _, _, _, _, _, _, _, _, by k_is, by k_is, by k_is⟩)
    (case q0 => k_is)
    (case q1 => k_is)
    (case q2 => k_is)
    (case q3 => k_is)
    (case q4 => k_is)
    (case q5 => k_is)
    (case q6 => k_is)
    (case q7 => k_is)
    (case q8 => k_is)
    (case q9 => k_is)
    (case q10 => k_is)
    (case q11 => k_is)
    (case q12 => k_is)
    (case q13 => k_is)
    (case q14 => k_is)
    (case zb => intro b; cases b <;> k_is)
    (case zt => intro b; cases b <;> k_is)
    (case z_isinstance => k_is)
    (case z_range => k_is)
    (case z_zip => k_is)
    (case z_enumerate => k_is)
    (case z_super => k_is)
    (case xi1 => k_is)
    (case si1 => exact ⟨_, _, _, _, _, _, _, _, _, _, _, _, _, _, _, _, _, _, _, _, _, by k_is, by k_is, fun us hl => (match us, hl with | [_, _], _ => rfl), by k_is, rfl, by decide +kernel, by k_is, by k_is⟩)
    (case xp1 => rfl)
    (case xo1 => exact ⟨_, _, _, _, _, _, _, _, _, _, _, _, _, _, _, by k_is, by decide +kernel⟩)
    (case xp2 => rfl)
    (case xo2 => exact ⟨_, _, _, _, _, _, _, _, _, _, _, _, _, _, _, by k_is, by decide +kernel⟩)
    (case xp3 => rfl)
    (case xo3 => exact ⟨_, _, _, _, _, _, _, _, _, _, _, _, _, _, _, by k_is, by decide +kernel⟩)
    (case xp4 => rfl)
    (case xo4 => exact ⟨_, _, _, _, _, _, _, _, _, _, _, _, _, _, _, by k_is, by decide +kernel⟩)
    (case xp5 => rfl)
    (case xo5 => exact ⟨_, _, _, _, _, _, _, _, _, _, _, _, _, _, _, by k_is, by decide +kernel⟩)
    (case xi6 => k_is)
    (case si6 => exact ⟨_, _, _, _, _, _, _, _, _, _, _, _, _, _, _, _, _, _, _, _, _, by k_is, by k_is, fun us hl => (match us, hl with | [_, _], _ => rfl), by k_is, rfl, by decide +kernel, by k_is, by k_is⟩)
    (case xp6 => rfl)
    (case xo6 => exact ⟨_, _, _, _, _, _, _, _, _, _, _, _, _, _, _, by k_is, by decide +kernel⟩)
    (case xi7 => k_is)
    (case si7 => exact ⟨_, _, _, _, _, _, _, _, _, _, _, _, _, _, _, _, _, _, _, _, _, by k_is, by k_is, fun us hl => (match us, hl with | [_, _, _], _ => rfl), by k_is, rfl, by decide +kernel, by k_is, by k_is⟩)
    (case xp7 => rfl)
    (case xo7 => exact ⟨_, _, _, _, _, _, _, _, _, _, _, _, _, _, _, by k_is, by decide +kernel⟩)
    (case xi8 => k_is)
    (case si8 => exact ⟨_, _, _, _, _, _, _, _, _, _, _, _, _, _, _, _, _, _, _, _, _, by k_is, by k_is, fun us hl => (match us, hl with | [_, _], _ => rfl), by k_is, rfl, by decide +kernel, by k_is, by k_is⟩)
    (case xp8 => rfl)
    (case xo8 => exact ⟨_, _, _, _, _, _, _, _, _, _, _, _, _, _, _, by k_is, by decide +kernel⟩)
    (case xc1 => rfl)
    (case n1_0 => k_is)
    (case xs1_0 => rfl)
    (case xs1_1 => rfl)
    (case xs1_2 => rfl)
    (case xs1_3 => rfl)
    (case xs1_4 => rfl)
    (case xs1_5 => rfl)
    (case xs1_6 => rfl)
    (case xs1_7 => rfl)
    (case xs1_8 => rfl)
    (case xc2 => rfl)
    (case n2_0 => k_is)
    (case xs2_0 => rfl)
    (case xs2_1 => rfl)
    (case xs2_2 => rfl)
    (case xs2_3 => rfl)
    (case xs2_4 => rfl)
    (case xs2_5 => rfl)
    (case xs2_6 => rfl)
    (case xs2_7 => rfl)
    (case xs2_8 => rfl)
    (case xc3 => rfl)
    (case n3_0 => k_is)
    (case xs3_0 => rfl)
    (case xs3_1 => rfl)
    (case xs3_2 => rfl)
    (case xs3_3 => rfl)
    (case xs3_4 => rfl)
    (case xs3_5 => rfl)
    (case xs3_6 => rfl)
    (case xs3_7 => rfl)
    (case xs3_8 => rfl)
    (case xc4 => rfl)
    (case n4_0 => k_is)
    (case xs4_0 => rfl)
    (case xs4_1 => rfl)
    (case xs4_2 => rfl)
    (case xs4_3 => rfl)
    (case xs4_4 => rfl)
    (case xs4_5 => rfl)
    (case xs4_6 => rfl)
    (case xs4_7 => rfl)
    (case xs4_8 => rfl)
    (case xc5 => rfl)
    (case n5_0 => k_is)
    (case xs5_0 => rfl)
    (case xs5_1 => rfl)
    (case xs5_2 => rfl)
    (case xs5_3 => rfl)
    (case xs5_4 => rfl)
    (case xs5_5 => rfl)
    (case xs5_6 => rfl)
    (case xs5_7 => rfl)
    (case xs5_8 => rfl)
    (case xc6 => rfl)
    (case n6_1 => k_is)
    (case xs6_0 => rfl)
    (case xs6_1 => rfl)
    (case xs6_2 => rfl)
    (case xs6_3 => rfl)
    (case xs6_4 => rfl)
    (case xs6_5 => rfl)
    (case xs6_6 => rfl)
    (case xs6_7 => rfl)
    (case xs6_8 => rfl)
    (case xc7 => rfl)
    (case n7_1 => k_is)
    (case n7_0 => k_is)
    (case xs7_0 => rfl)
    (case xs7_1 => rfl)
    (case xs7_2 => rfl)
    (case xs7_3 => rfl)
    (case xs7_4 => rfl)
    (case xs7_5 => rfl)
    (case xs7_6 => rfl)
    (case xs7_7 => rfl)
    (case xs7_8 => rfl)
    (case xc8 => rfl)
    (case n8_2 => k_is)
    (case xs8_0 => rfl)
    (case xs8_1 => rfl)
    (case xs8_2 => rfl)
    (case xs8_3 => rfl)
    (case xs8_4 => rfl)
    (case xs8_5 => rfl)
    (case xs8_6 => rfl)
    (case xs8_7 => rfl)
    (case xs8_8 => rfl)
    (case ak => k_is)
    (case dk => exact ⟨_, _, _, _, _, _, _, _, _, by k_is, by k_is, by k_is⟩)
    (case zve => k_is)
    (case ve1 => rfl)
    (case ve2 => rfl)
    (case ve3 => rfl)
    (case ve4 => rfl)
    (case ve5 => rfl)
    (case ve6 => rfl)
    (case ve7 => rfl)
    (case ve8 => rfl)

